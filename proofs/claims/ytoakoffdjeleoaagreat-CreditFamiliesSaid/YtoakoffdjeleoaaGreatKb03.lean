import Derived.Test.YtoakoffdjeleoaaGreatKb01
import Derived.Test.YtoakoffdjeleoaaGreatKb02
import Derived.Test.YtoakoffdjeleoaaGreatKb00
import Derived.Laws.Bits64b
import Derived.Laws.BytesString
import Derived.Test.YtoakoffdjeleoaaGreatProg
set_option linter.unusedVariables false
set_option linter.unusedSimpArgs false
set_option linter.unusedSectionVars false
section
namespace BS
structure Bn where
  ws : List Wi
  ac : List Ac
  p : Pb
def zW : Wi := ⟨0, 0, 0⟩
def validW (w : Wi) : Bool := (within w.id 1 1099511627776 && within w.right 0 10000) && within w.wrong 0 10000
def worth (w : Wi) : Int := 1000000 * (w.right + 1) / (w.right + w.wrong + 2)
theorem validW_iff {w : Wi} : validW w = true ↔ (1 ≤ w.id ∧ w.id ≤ 1099511627776) ∧ (0 ≤ w.right ∧ w.right ≤ 10000) ∧ 0 ≤ w.wrong ∧ w.wrong ≤ 10000 := by
  simp only [validW, within, Bool.and_eq_true, decide_eq_true_eq]
  exact ⟨fun ⟨⟨a, b⟩, c⟩ => ⟨a, b, c⟩, fun ⟨a, b, c⟩ => ⟨⟨a, b⟩, c⟩⟩
theorem worth_bd {w : Wi} (h : (0 ≤ w.right ∧ w.right ≤ 10000) ∧ 0 ≤ w.wrong ∧ w.wrong ≤ 10000) : 0 ≤ worth w ∧ worth w ≤ 1000000 := by
  unfold worth
  constructor
  · exact Int.ediv_nonneg (by omega) (by omega)
  · refine Int.le_of_lt_add_one (Int.ediv_lt_of_lt_mul (by omega) ?_)
    omega
def wErr (seen : List Int) : List Wi → Int
  | [] => 0
  | w :: r => if validW w = false then 1 else if w.id ∈ seen then 6 else wErr (seen ++ [w.id]) r
def aErr (known seen : List Int) : List Ac → Int
  | [] => 0
  | a :: r => if within a.id 1 1099511627776 = false then 1 else if a.wit ∉ known then 5 else if a.id ∈ seen then 6 else aErr known (seen ++ [a.id]) r
def fErr (said : List Int) : List Fc → Int
  | [] => 0
  | f :: r => if f.id ∉ said then 5 else fErr said r
abbrev wIds (W : List Wi) : List Int := W.map (·.id)
abbrev aIds (A : List Ac) : List Int := A.map (·.id)
def checkB (b : Bn) : Int :=
  if checkP b.p ≠ 0 then checkP b.p
  else if 12 < b.ws.length ∨ 8 < b.ac.length then 2
  else if wErr [] b.ws ≠ 0 then wErr [] b.ws
  else if aErr (wIds b.ws) [0] b.ac ≠ 0 then aErr (wIds b.ws) [0] b.ac
  else fErr (0 :: aIds b.ac) b.p.facts
theorem drop_get {α : Type} {l : List α} {i : Nat} (z : α) (h : i < l.length) : l.drop i = l.getD i z :: l.drop (i + 1) := drop_getD z h
theorem wIds_succ {W : List Wi} {i : Nat} (hi : i < W.length) : wIds (W.take (i + 1)) = wIds (W.take i) ++ [(W.getD i zW).id] := by rw [take_succ_getD _ zW hi]; simp [wIds]
theorem wErr_step {W : List Wi} {i : Nat} (hi : i < W.length) (h1 : validW (W.getD i zW) = true) (h2 : (W.getD i zW).id ∉ wIds (W.take i)) (h : wErr [] W = wErr (wIds (W.take i)) (W.drop i)) : wErr [] W = wErr (wIds (W.take (i + 1))) (W.drop (i + 1)) := by
  rw [h, drop_get zW hi, wErr, if_neg (by rw [h1]; decide), if_neg h2, wIds_succ hi]
theorem wErr_bad {W : List Wi} {i : Nat} (hi : i < W.length) (h1 : validW (W.getD i zW) = false) (h : wErr [] W = wErr (wIds (W.take i)) (W.drop i)) : wErr [] W = 1 := by rw [h, drop_get zW hi, wErr, if_pos h1]
theorem wErr_twice {W : List Wi} {i : Nat} (hi : i < W.length) (h1 : validW (W.getD i zW) = true) (h2 : (W.getD i zW).id ∈ wIds (W.take i)) (h : wErr [] W = wErr (wIds (W.take i)) (W.drop i)) : wErr [] W = 6 := by rw [h, drop_get zW hi, wErr, if_neg (by rw [h1]; decide), if_pos h2]
def zA : Ac := ⟨0, 0⟩
theorem aIds_succ {A : List Ac} {i : Nat} (hi : i < A.length) : aIds (A.take (i + 1)) = aIds (A.take i) ++ [(A.getD i zA).id] := by rw [take_succ_getD _ zA hi]; simp [aIds]
theorem aErr_step {K : List Int} {A : List Ac} {i : Nat} (hi : i < A.length) (h1 : within (A.getD i zA).id 1 1099511627776 = true) (h2 : (A.getD i zA).wit ∈ K) (h3 : (A.getD i zA).id ∉ 0 :: aIds (A.take i)) (h : aErr K [0] A = aErr K (0 :: aIds (A.take i)) (A.drop i)) : aErr K [0] A = aErr K (0 :: aIds (A.take (i + 1))) (A.drop (i + 1)) := by
  rw [h, drop_get zA hi, aErr, if_neg (by rw [h1]; decide), if_neg (by simpa using h2), if_neg h3, aIds_succ hi]
  rfl
theorem aErr_ill {K : List Int} {A : List Ac} {i : Nat} (hi : i < A.length) (h1 : within (A.getD i zA).id 1 1099511627776 = false) (h : aErr K [0] A = aErr K (0 :: aIds (A.take i)) (A.drop i)) : aErr K [0] A = 1 := by rw [h, drop_get zA hi, aErr, if_pos h1]
theorem aErr_none {K : List Int} {A : List Ac} {i : Nat} (hi : i < A.length) (h1 : within (A.getD i zA).id 1 1099511627776 = true) (h2 : (A.getD i zA).wit ∉ K) (h : aErr K [0] A = aErr K (0 :: aIds (A.take i)) (A.drop i)) : aErr K [0] A = 5 := by rw [h, drop_get zA hi, aErr, if_neg (by rw [h1]; decide), if_pos h2]
theorem aErr_twice {K : List Int} {A : List Ac} {i : Nat} (hi : i < A.length) (h1 : within (A.getD i zA).id 1 1099511627776 = true) (h2 : (A.getD i zA).wit ∈ K) (h3 : (A.getD i zA).id ∈ 0 :: aIds (A.take i)) (h : aErr K [0] A = aErr K (0 :: aIds (A.take i)) (A.drop i)) : aErr K [0] A = 6 := by rw [h, drop_get zA hi, aErr, if_neg (by rw [h1]; decide), if_neg (by simpa using h2), if_pos h3]
theorem fErr_step {S : List Int} {F : List Fc} {i : Nat} (hi : i < F.length) (h1 : (F.getD i fz).id ∈ S) (h : fErr S F = fErr S (F.drop i)) : fErr S F = fErr S (F.drop (i + 1)) := by
  rw [h, drop_get fz hi, fErr, if_neg (by simpa using h1)]
theorem fErr_none {S : List Int} {F : List Fc} {i : Nat} (hi : i < F.length) (h1 : (F.getD i fz).id ∉ S) (h : fErr S F = fErr S (F.drop i)) : fErr S F = 5 := by rw [h, drop_get fz hi, fErr, if_pos h1]
theorem checkB_p {b : Bn} (h : checkP b.p ≠ 0) : checkB b = checkP b.p := if_pos h
theorem checkB_limit {b : Bn} (h : ¬ checkP b.p ≠ 0) (h2 : 12 < b.ws.length ∨ 8 < b.ac.length) : checkB b = 2 := (if_neg h).trans (if_pos h2)
theorem checkB_w {b : Bn} (h : ¬ checkP b.p ≠ 0) (h2 : ¬ (12 < b.ws.length ∨ 8 < b.ac.length)) {e : Int} (he : wErr [] b.ws = e) (h0 : e ≠ 0) : checkB b = e := by
  unfold checkB; rw [if_neg h, if_neg h2, he, if_pos h0]
theorem checkB_a {b : Bn} (h : ¬ checkP b.p ≠ 0) (h2 : ¬ (12 < b.ws.length ∨ 8 < b.ac.length)) (hw : wErr [] b.ws = 0) {e : Int} (he : aErr (wIds b.ws) [0] b.ac = e) (h0 : e ≠ 0) : checkB b = e := by
  unfold checkB; rw [if_neg h, if_neg h2, hw, if_neg (by decide), he, if_pos h0]
theorem checkB_f {b : Bn} (h : ¬ checkP b.p ≠ 0) (h2 : ¬ (12 < b.ws.length ∨ 8 < b.ac.length)) (hw : wErr [] b.ws = 0) (ha : aErr (wIds b.ws) [0] b.ac = 0) {e : Int} (he : fErr (0 :: aIds b.ac) b.p.facts = e) : checkB b = e := by
  unfold checkB; rw [if_neg h, if_neg h2, hw, if_neg (by decide), ha, if_neg (by decide), he]
theorem wErr_zero {s : List Int} {W : List Wi} (h : wErr s W = 0) : (∀ w ∈ W, validW w = true) ∧ (wIds W).Nodup ∧ ∀ x ∈ wIds W, x ∉ s := by
  induction W generalizing s with
  | nil => exact ⟨fun _ h => (by cases h), List.Pairwise.nil, fun _ h => (by cases h)⟩
  | cons w W ih =>
    rw [wErr] at h
    split at h
    · cases h
    rename_i h1
    split at h
    · cases h
    rename_i h2
    obtain ⟨i1, i2, i3⟩ := ih h
    refine ⟨fun v hv => ?_, List.nodup_cons.2 ⟨fun hm => i3 _ hm (by simp), i2⟩, fun x hx => ?_⟩
    · rcases List.mem_cons.1 hv with rfl | hv
      · simpa using h1
      · exact i1 v hv
    · rcases List.mem_cons.1 hx with rfl | hx
      · exact h2
      · exact fun hs => i3 x hx (List.mem_append.2 (.inl hs))
theorem aErr_zero {K s : List Int} {A : List Ac} (h : aErr K s A = 0) : (∀ a ∈ A, (1 ≤ a.id ∧ a.id ≤ 1099511627776) ∧ a.wit ∈ K) ∧ (aIds A).Nodup ∧ ∀ x ∈ aIds A, x ∉ s := by
  induction A generalizing s with
  | nil => exact ⟨fun _ h => (by cases h), List.Pairwise.nil, fun _ h => (by cases h)⟩
  | cons a A ih =>
    rw [aErr] at h
    split at h
    · cases h
    rename_i h1
    split at h
    · cases h
    rename_i h2
    split at h
    · cases h
    rename_i h3
    obtain ⟨i1, i2, i3⟩ := ih h
    refine ⟨fun v hv => ?_, List.nodup_cons.2 ⟨fun hm => i3 _ hm (by simp), i2⟩, fun x hx => ?_⟩
    · rcases List.mem_cons.1 hv with rfl | hv
      · simp only [Bool.not_eq_false, within, Bool.and_eq_true, decide_eq_true_eq] at h1
        exact ⟨h1, by simpa using h2⟩
      · exact i1 v hv
    · rcases List.mem_cons.1 hx with rfl | hx
      · exact h3
      · exact fun hs => i3 x hx (List.mem_append.2 (.inl hs))
theorem fErr_zero {S : List Int} {F : List Fc} (h : fErr S F = 0) : ∀ f ∈ F, f.id ∈ S := by
  induction F with
  | nil => exact fun _ h => (by cases h)
  | cons f F ih =>
    rw [fErr] at h
    split at h
    · cases h
    rename_i h1
    intro g hg
    rcases List.mem_cons.1 hg with rfl | hg
    · simpa using h1
    · exact ih h g hg
structure GoodB (b : Bn) : Prop where
  gp : checkP b.p = 0
  nw : b.ws.length ≤ 12
  na : b.ac.length ≤ 8
  hw : ∀ w ∈ b.ws, validW w = true
  wd : (wIds b.ws).Nodup
  ha : ∀ a ∈ b.ac, (1 ≤ a.id ∧ a.id ≤ 1099511627776) ∧ a.wit ∈ wIds b.ws
  ad : (aIds b.ac).Nodup
  hf : ∀ f ∈ b.p.facts, f.id = 0 ∨ f.id ∈ aIds b.ac
theorem checkB_good {b : Bn} (h : checkB b = 0) : GoodB b := by
  unfold checkB at h
  split at h
  · rename_i h1; exact absurd h h1
  rename_i h1
  split at h
  · cases h
  rename_i h2
  split at h
  · rename_i h3; exact absurd h h3
  rename_i h3
  split at h
  · rename_i h4; exact absurd h h4
  rename_i h4
  obtain ⟨w1, w2, _⟩ := wErr_zero (by omega : wErr [] b.ws = 0)
  obtain ⟨a1, a2, _⟩ := aErr_zero (by omega : aErr (wIds b.ws) [0] b.ac = 0)
  have f1 := fErr_zero h
  exact ⟨by omega, by omega, by omega, w1, w2, a1, a2, fun f hf => by simpa using f1 f hf⟩
def recW (W : List Wi) : Int → Wi := W.foldl (fun f w x => if x = w.id then w else f x) fun _ => zW
theorem recW_snoc (W : List Wi) (w : Wi) (x : Int) : recW (W ++ [w]) x = if x = w.id then w else recW W x := by rw [recW, List.foldl_append]; rfl
theorem recW_bd {W : List Wi} (h : ∀ w ∈ W, (0 ≤ w.right ∧ w.right ≤ 10000) ∧ 0 ≤ w.wrong ∧ w.wrong ≤ 10000) (x : Int) : (0 ≤ (recW W x).right ∧ (recW W x).right ≤ 10000) ∧ 0 ≤ (recW W x).wrong ∧ (recW W x).wrong ≤ 10000 := by
  have key : ∀ (W : List Wi) (f : Int → Wi), (∀ w ∈ W, (0 ≤ w.right ∧ w.right ≤ 10000) ∧ 0 ≤ w.wrong ∧ w.wrong ≤ 10000) → ((0 ≤ (f x).right ∧ (f x).right ≤ 10000) ∧ 0 ≤ (f x).wrong ∧ (f x).wrong ≤ 10000) → (0 ≤ (W.foldl (fun f w x => if x = w.id then w else f x) f x).right ∧ (W.foldl (fun f w x => if x = w.id then w else f x) f x).right ≤ 10000) ∧ 0 ≤ (W.foldl (fun f w x => if x = w.id then w else f x) f x).wrong ∧ (W.foldl (fun f w x => if x = w.id then w else f x) f x).wrong ≤ 10000 := by
    intro W
    induction W with
    | nil => intro f _ h; exact h
    | cons w W ih =>
      intro f h hf
      rw [List.foldl_cons]
      refine ih _ (fun v hv => h v (by simp [hv])) ?_
      by_cases e : x = w.id
      · simp only [e, if_true]; exact h w (by simp)
      · simp only [if_neg e]; exact hf
  exact key W _ h (by simp [zW])
def weightTo (W : List Wi) (L : List Int) (A : List Ac) : Int := (A.map fun a => if a.id ∈ L then worth (recW W a.wit) else 0).sum
theorem weightTo_take (W : List Wi) (L : List Int) (A : List Ac) {i : Nat} (hi : i < A.length) : weightTo W L (A.take (i + 1)) = weightTo W L (A.take i) + if (A.getD i zA).id ∈ L then worth (recW W (A.getD i zA).wit) else 0 := by
  rw [weightTo, take_succ_getD _ zA hi, List.map_append, List.sum_append]
  simp [weightTo]
theorem weightTo_bd {W : List Wi} (h : ∀ w ∈ W, (0 ≤ w.right ∧ w.right ≤ 10000) ∧ 0 ≤ w.wrong ∧ w.wrong ≤ 10000) (L : List Int) (A : List Ac) : 0 ≤ weightTo W L A ∧ weightTo W L A ≤ 1000000 * (A.length : Int) := by
  induction A with
  | nil => simp [weightTo]
  | cons a A ih =>
    have e : weightTo W L (a :: A) = (if a.id ∈ L then worth (recW W a.wit) else 0) + weightTo W L A := by simp [weightTo]
    have hb := worth_bd (recW_bd h a.wit)
    rw [e, List.length_cons]
    split <;> omega
theorem recW_succ (W : List Wi) {i : Nat} (hi : i < W.length) (x : Int) : recW (W.take (i + 1)) x = if x = (W.getD i zW).id then W.getD i zW else recW (W.take i) x := by
  rw [take_succ_getD _ zW hi, recW_snoc]
def isSetL : List Int → Bool
  | [] => true
  | [_] => true
  | x :: y :: r => decide (x < y) && isSetL (y :: r)
theorem isSet_iff {l : List Int} : isSetL l = true ↔ ∀ i, i + 1 < l.length → l.getD i 0 < l.getD (i + 1) 0 := by
  induction l with
  | nil => simp [isSetL]
  | cons x r ih =>
    cases r with
    | nil => simp [isSetL]
    | cons y r =>
      rw [isSetL, Bool.and_eq_true, decide_eq_true_eq, ih]
      constructor
      · rintro ⟨h1, h2⟩ i hi
        cases i with
        | zero => simpa using h1
        | succ i => simpa using h2 i (by simpa using hi)
      · intro h
        exact ⟨by simpa using h 0 (by simp), fun i hi => by simpa using h (i + 1) (by simpa using hi)⟩
theorem isSet_pw {l : List Int} : isSetL l = true ↔ l.Pairwise (· < ·) := by
  induction l with
  | nil => simp [isSetL]
  | cons x r ih =>
    cases r with
    | nil => simp [isSetL]
    | cons y r =>
      rw [isSetL, Bool.and_eq_true, decide_eq_true_eq, ih]
      constructor
      · rintro ⟨h1, h2⟩
        refine List.pairwise_cons.2 ⟨fun z hz => ?_, h2⟩
        rcases List.mem_cons.1 hz with rfl | hz
        · exact h1
        · have := (List.pairwise_cons.1 h2).1 z hz; omega
      · intro h
        obtain ⟨h1, h2⟩ := List.pairwise_cons.1 h
        exact ⟨h1 y (by simp), h2⟩
theorem set_step {l : List Int} {i k : Nat} (h0 : 1 ≤ i) (hk : k = i - 1) (h : ∀ j, j + 1 < i → l.getD j 0 < l.getD (j + 1) 0) (h9 : ¬ l.getD i 0 ≤ l.getD k 0) : ∀ j, j + 1 < i + 1 → l.getD j 0 < l.getD (j + 1) 0 := fun j hj => by
  by_cases e : j + 1 < i
  · exact h j e
  · obtain rfl : j = i - 1 := by omega
    subst hk
    rw [show i - 1 + 1 = i by omega]
    omega
theorem isSet_no {l : List Int} {i k : Nat} (hi : i < l.length) (h0 : 1 ≤ i) (hk : k = i - 1) (h : l.getD i 0 ≤ l.getD k 0) : isSetL l = false := by
  subst hk
  cases e : isSetL l with
  | false => rfl
  | true =>
    have := isSet_iff.1 e (i - 1) (by omega)
    rw [show i - 1 + 1 = i by omega] at this
    omega
def namedR (b : Bn) (ids L : List Int) : Int := if checkB b = 0 then (if isSetL L = true then (if ∀ x ∈ L, x ∈ ids then 0 else 5) else 1) else checkB b
theorem named_bad {b : Bn} {ids L : List Int} (h : ¬ checkB b = 0) : namedR b ids L = checkB b := if_neg h
theorem named_ill {b : Bn} {ids L : List Int} (h : checkB b = 0) (h2 : isSetL L = false) : namedR b ids L = 1 := (if_pos h).trans (if_neg (by rw [h2]; decide))
theorem named_none {b : Bn} {ids L : List Int} (h : checkB b = 0) (h2 : isSetL L = true) (h3 : ¬ ∀ x ∈ L, x ∈ ids) : namedR b ids L = 5 := (if_pos h).trans ((if_pos h2).trans (if_neg h3))
theorem named_ok {b : Bn} {ids L : List Int} (h : checkB b = 0) (h2 : isSetL L = true) (h3 : ∀ x ∈ L, x ∈ ids) : namedR b ids L = 0 := (if_pos h).trans ((if_pos h2).trans (if_pos h3))
def onlyB (b : Bn) (L : List Int) : Pb := ⟨b.p.boxes, onlyF L b.p.facts⟩
theorem onlyP_good {b : Bn} (h : GoodB b) (L : List Int) : onlyP b.p L = onlyB b L := by unfold onlyP; rw [if_pos h.gp]; rfl
theorem filter_any {α : Type} {p q : α → Bool} {l : List α} (h : (l.filter p).any q = true) : l.any q = true := by
  obtain ⟨x, h1, h2⟩ := List.any_eq_true.1 h
  exact List.any_eq_true.2 ⟨x, (List.mem_filter.1 h1).1, h2⟩
theorem only_check {b : Bn} (h : GoodB b) (L : List Int) : checkP (onlyB b L) = 0 := by
  have hz := h.gp
  unfold checkP at hz ⊢
  split at hz
  · cases hz
  rename_i h1
  split at hz
  · cases hz
  rename_i h2
  split at hz
  · cases hz
  rename_i h3
  have hle : (onlyB b L).facts.length ≤ b.p.facts.length := List.length_filter_le _ _
  have hb : (onlyB b L).boxes = b.p.boxes := rfl
  rw [if_neg (by rw [hb]; omega), hb, if_neg h2, if_neg]
  intro hh
  exact h3 (filter_any hh)
end BS
end
section
namespace Go.Proofs.YtoakoffdjeleoaaGreat
open Go.RowKit Go.Shelf Go.Sort
variable {P : Program} {H : Gh}
def sortI (l : List Int) : List Int := l.mergeSort fun x y => decide (x ≤ y)
@[simp] theorem sortI_length (l : List Int) : (sortI l).length = l.length := List.length_mergeSort l
theorem putCells_take {α : Type} [Inhabited α] (e : α → Value) (d : Array α) (cur : Array Value) (h : d.size ≤ cur.size) : (putCells e 0 d cur).toList.take d.size = d.toList.map e := by
  apply List.ext_getElem?
  intro j
  rw [List.getElem?_take]
  by_cases hj : j < d.size
  · have hc : j < cur.size := by omega
    rw [if_pos hj]
    simp [putCells, hc, hj, Array.getElem?_eq_getElem hc, getElem!_pos d j hj]
  · rw [if_neg hj]
    simp only [List.getElem?_map, Array.getElem?_toList]
    rw [Array.getElem?_eq_none (by omega)]
    rfl
theorem flat_one {α : Type} {e : α → Value} {enc : α → List Value} (henc : ∀ x, enc x = [e x]) : ∀ l : List α, l.flatMap enc = l.map e
  | [] => rfl
  | x :: l => by rw [List.flatMap_cons, henc, flat_one henc l]; rfl
theorem post_row {α : Type} [Inhabited α] {e : α → Value} {enc : α → List Value} (henc : ∀ x, enc x = [e x]) {g m c T : Nat} {l d : List α} (hd : d.length = l.length) (hm : m = l.length) (h0 : 0 < m) {w w' : World} {n : Nat} {os : Array Obj} (hH : H.In w) (ho : Ow w H [] [LR (some ⟨g, 0, none⟩) m c T 1 enc l]) (hw : w' = grow (putRow e (Go.Sort.ahead w n) g 0 d.toArray) os) {end_ : Ending} (he : end_ = .returned (.tuple #[])) :
    PostC w H (foot [] [LR (some ⟨g, 0, none⟩) m c T 1 enc l]) (fun _ : Unit => .tuple #[]) (fun _ => []) (fun _ => [LR (some ⟨g, 0, none⟩) m c T 1 enc d]) (fun _ _ => True) end_ w' := by
  have hr := ho.rows _ (List.mem_singleton.2 rfl)
  obtain ⟨g', cur, e1, h2, h3, h4, h5, h6, h7⟩ := row_some hr (by omega)
  injection e1 with e1; injection e1 with e1
  subst e1
  have hl : g < w.heap.size := (Array.getElem?_eq_some_iff.1 h3).1
  have hb : (LR (some ⟨g, 0, none⟩) m c T 1 enc l).v.ownBlock = some g := rfl
  have hput : (putRow e (Go.Sort.ahead w n) g 0 d.toArray).heap = w.heap.modify g (onCells (putCells e 0 d.toArray)) := rfl
  have hsz : (putRow e (Go.Sort.ahead w n) g 0 d.toArray).heap.size = w.heap.size := by rw [hput]; simp
  have hat : ∀ k, k < w.heap.size → w'.heap[k]? = (w.heap.modify g (onCells (putCells e 0 d.toArray)))[k]? := fun k hk => by
    rw [hw]
    show ((putRow e (Go.Sort.ahead w n) g 0 d.toArray).heap ++ os)[k]? = _
    rw [Array.getElem?_append_left (by rw [hsz]; exact hk), hput]
  have hg : w'.heap[g]? = some (.cells (putCells e 0 d.toArray cur) T (0, 0)) := by
    rw [hat g hl, Array.getElem?_modify, if_pos rfl]
    change w.heap[g]? = some (.cells cur T (0, 0)) at h3
    rw [h3]; rfl
  have hoth : ∀ k, k < w.heap.size → k ≠ g → w'.heap[k]? = w.heap[k]? := fun k hk hne => by
    rw [hat k hk, Array.getElem?_modify, if_neg (fun q => hne q.symm)]
  have hsize : w.heap.size ≤ w'.heap.size := by
    rw [hw]
    show _ ≤ ((putRow e (Go.Sort.ahead w n) g 0 d.toArray).heap ++ os).size
    rw [Array.size_append, hsz]; omega
  have hk : Kept (foot [] [LR (some ⟨g, 0, none⟩) m c T 1 enc l]) w w' := ⟨by rw [hw]; rfl, by rw [hw]; rfl, by rw [hw]; rfl, hsize, fun b hb' hn => hoth b hb' fun q => hn (mem_foot.2 (.inr ⟨_, List.mem_singleton.2 rfl, by rw [q]; rfl⟩)), by rw [hw]; exact Nat.le_add_right _ _⟩
  have hgn := ho.rgh _ (List.mem_singleton.2 rfl) g hb
  refine ⟨(), H, he, hk, Gh.Le.refl _, Gh.NewS.refl _ _ _, fun b o hbo => ?_, ?_, ?_, trivial⟩
  · have hne : b ≠ g := fun q => by rw [q, hgn] at hbo; cases hbo
    obtain ⟨o', k1, k2⟩ := hH b o hbo
    exact ⟨o', by rw [hoth b (Array.getElem?_eq_some_iff.1 k1).1 hne]; exact k1, k2⟩
  · refine ⟨fun q hq => (by cases hq), List.nodup_nil, fun q hq => (by cases hq), fun r hr' => ?_, fun r hr' g' hg' => ?_, fun r _ q hq => (by cases hq), List.pairwise_singleton _ _⟩
    · rw [List.mem_singleton.1 hr']
      have hds : d.length ≤ cur.size := by
        change cur.size = c * 1 at h6
        change m ≤ c at h4
        omega
      have hput2 := putCells_take e d.toArray cur (by simpa using hds)
      have hfl : d.flatMap enc = d.map e := flat_one henc d
      refine ⟨?_, .inr ⟨g, c, putCells e 0 d.toArray cur, rfl, Nat.zero_le _, hg, h4, h5, ?_, ?_⟩⟩
      · show (d.flatMap enc).length = m * 1
        rw [hfl]; simp; omega
      · rw [show (putCells e 0 d.toArray cur).size = cur.size by simp [putCells]]; exact h6
      · show (putCells e 0 d.toArray cur).toList.take (m * 1) = d.flatMap enc
        rw [hfl, Nat.mul_one, show m = d.toArray.size by simp; omega, hput2]
    · rw [List.mem_singleton.1 hr'] at hg'
      exact ho.rgh _ (List.mem_singleton.2 rfl) g' hg'
  · intro b hb'
    rcases mem_foot.1 hb' with ⟨q, hq, _⟩ | ⟨r, hr', hg'⟩
    · cases hq
    · rw [List.mem_singleton.1 hr'] at hg'
      exact .inr (mem_foot.2 (.inr ⟨_, List.mem_singleton.2 rfl, hg'⟩))
theorem post_same {α : Type} {A : Option Addr} {m c T k : Nat} {enc : α → List Value} {l : List α} {w : World} (hH : H.In w) (ho : Ow w H [] [LR A m c T k enc l]) {end_ : Ending} (he : end_ = .returned (.tuple #[])) :
    PostC w H (foot [] [LR A m c T k enc l]) (fun _ : Unit => .tuple #[]) (fun _ => []) (fun _ => [LR A m c T k enc l]) (fun _ _ => True) end_ w :=
  ⟨(), H, he, Kept.refl _ _, Gh.Le.refl _, Gh.NewS.refl _ _ _, hH, ho, fun _ hb => .inr hb, trivial⟩
theorem holds_row {α : Type} [Inhabited α] {e : α → Value} {enc : α → List Value} (henc : ∀ x, enc x = [e x]) {g m c T : Nat} {l : List α} (hm : m = l.length) (h0 : 0 < m) {w : World} (hr : w.ownsRow 0 T 1 (.slice (some ⟨g, 0, none⟩) m c) m (l.flatMap enc)) : Go.Sort.Holds e w g 0 l.toArray ∧ g < w.heap.size ∧ m ≤ maxLen := by
  obtain ⟨g', cur, e1, h2, h3, h4, h5, h6, h7⟩ := row_some hr h0
  injection e1 with e1; injection e1 with e1
  subst e1
  refine ⟨fun j hj => ?_, (Array.getElem?_eq_some_iff.1 h3).1, by omega⟩
  have hjl : j < l.length := by simpa using hj
  have hfl : l.flatMap enc = l.map e := flat_one henc l
  have hc : cur[j]? = some (e l.toArray[j]!) := by
    have := congrArg (·[j]?) h7
    simp only [hfl, List.getElem?_take, List.getElem?_map, Nat.mul_one, if_pos (show j < m by omega), Array.getElem?_toList, List.getElem?_eq_getElem hjl, Option.map_some] at this
    rw [this, getElem!_pos l.toArray j hj]
    simp
  constructor
  · simp only [World.cell?, h3, Nat.zero_add]
    simpa using hc
  · simp [World.frozen?, h3]
theorem sort_cc {A : Option Addr} {m c : Nat} (l : List Int) (hm : m = l.length) (hn : l.length ≤ 1000000) : Cc Tryz.prog 170 [.slice A m c] H [] [LR A m c 3 1 encI l] (fun _ : Unit => .tuple #[]) (fun _ => []) (fun _ => [LR A m c 3 1 encI (sortI l)]) (fun _ _ => True) := fun w hH ho => by
  have hr := ho.rows _ (List.mem_singleton.2 rfl)
  by_cases h0 : m = 0
  · subst h0
    have hl : l = [] := List.eq_nil_of_length_eq_zero hm.symm
    subst hl
    refine (Tryz.slices_Sort_int_none A c w).mono ?_
    rintro e w' ⟨h1, rfl⟩
    rw [show sortI [] = [] by simp [sortI]]
    exact post_same hH ho h1
  · obtain ⟨g, cur, rfl, _⟩ := row_some hr (show 0 < m by omega)
    obtain ⟨k1, k2, k3⟩ := holds_row (e := Value.int .i64) (fun _ => rfl) hm (by omega) hr
    have := Tryz.slices_Sort_int g 0 c l w k1 k2 (by omega)
    rw [← hm] at this
    refine this.mono ?_
    rintro e w' ⟨h1, n, os, h2⟩
    exact post_row (e := Value.int .i64) (fun _ => rfl) (d := sortI l) (by simp) hm (by omega) hH ho h2 h1
end Go.Proofs.YtoakoffdjeleoaaGreat
end
section
namespace Go.Proofs.YtoakoffdjeleoaaGreat
open Go.RowKit Go.Shelf
variable {P : Program} {ops : Array Oper} {Q : Exit → Act → World → Prop} {K : Act → World → Prop} {C : Cx} {n : Nat} {D : List Deferred} {H : Gh} {E : Env} {M : List (Nat × Obj)} {R : List Rw} {a : Act} {w : World} {l : List Oper} {o : Oper} {d : Nat} {b : Bool} {v : Value}
section
variable {ty : TypeId} {pos : String} {af : Array Edge} {gd : Option (Nat × Bool)}
theorem p_mkif {T : Nat} {x : Operand} (hu : ∃ q, P.underlying T = some (.int q)) (hg : Gd ops E gd b) (hx : Ev E b x v) : PV P ops n E M H ⟨some d, .makeInterface T x, ty, pos, af, gd⟩ d b (.iface T v) :=
  ⟨rfl, fun _ hf => hg.want rfl hf, fun hb a w hf _ _ => by
    obtain ⟨q, hq⟩ := hu
    simp only [execOp, hf.ev hx hb, Instr.makeInterface, run_underlying hq, Sem.run_bind, Result.andThen_ok, Sem.run_pure]⟩
end
theorem map_le {κ : Type} [DecidableEq κ] {mk : κ → Value} {kv : KV κ} {H H' : Gh} {g : Nat} (h : H g = some (mapObj mk kv)) (k : H.Le H') : H' g = some (mapObj mk kv) := by
  exact k _ _ h
theorem x_tp {N : Act → World → Prop} {ch : List PanicEntry} (h : RK (Q (.panic ch)) C n D H E M R) : RK (Exit.then N Q (.panic ch)) C n D H E M R := h
theorem x_bp {i : Nat} {ch : List PanicEntry} (h : RK (Q (.panic ch)) C n D H E M R) : RK (Exit.inBlock i Q (.panic ch)) C n D H E M R := h
theorem k_nop {c : Code} (h : RK (c.wp P (noP Q)) C n D H E M R) : RK (c.wp P Q) C n D H E M R := fun a w s => wp_noP (h a w s)
theorem x_nop (h : RK (Q .normal) C n D H E M R) : RK (noP Q .normal) C n D H E M R := h
theorem a_three {L : List (Nat × Nat × Obj)} {H0 : Gh} {fuel : Nat} {listed : Array Bool} (i j k : Nat) {o' o'' : Oper} (hi : ops[i]? = some o) (hj : ops[j]? = some o') (hk : ops[k]? = some o'')
    (h : RK (SX P ops Q o fun a w => SS L H0 (listed.setIfInBounds i true) w ∧ wpG P ops Q L H0 fuel (listed.setIfInBounds i true) a w) C n D H E M R)
    (h' : RK (SX P ops Q o' fun a w => SS L H0 (listed.setIfInBounds j true) w ∧ wpG P ops Q L H0 fuel (listed.setIfInBounds j true) a w) C n D H E M R)
    (h'' : RK (SX P ops Q o'' fun a w => SS L H0 (listed.setIfInBounds k true) w ∧ wpG P ops Q L H0 fuel (listed.setIfInBounds k true) a w) C n D H E M R) (hr : Region.ready .any ops listed = [i, j, k] := by kernel_rfl) : RK (wpG P ops Q L H0 (fuel + 1) listed) C n D H E M R := fun a w s =>
  wpG_ready hr (by simp) fun q hq => by
    rcases List.mem_cons.1 hq with rfl | hq
    · exact wpOp_of hi (h a w s)
    · rcases List.mem_cons.1 hq with rfl | hq
      · exact wpOp_of hj (h' a w s)
      · obtain rfl := List.mem_singleton.1 hq
        exact wpOp_of hk (h'' a w s)
abbrev panE (e : Int) : List PanicEntry := [{ v := .iface 34 (.int .i64 e), recovered := false }]
theorem run_panE (e : Int) (w : World) : (Instr.panic (.iface 34 (.int .i64 e))).run P w = .halt (.panic (.iface 34 (.int .i64 e))) w := rfl
end Go.Proofs.YtoakoffdjeleoaaGreat
end
section
namespace BS
def bitB (n j : Nat) : Bool := decide ((n : Int) / 2 ^ j % 2 = 1)
def subTo (l : List Int) (n i : Nat) : List Int := ((List.range i).filter (bitB n)).map fun j => l.getD j 0
def subB (l : List Int) (n : Nat) : List Int := subTo l n l.length
def subsetsL (l : List Int) : List (List Int) := (List.range (2 ^ l.length)).map (subB l)
theorem subTo_pos {l : List Int} {n i : Nat} (h : bitB n i = true) : subTo l n (i + 1) = subTo l n i ++ [l.getD i 0] := by
  rw [subTo, range_snoc, if_pos h]; simp [subTo]
theorem subTo_neg {l : List Int} {n i : Nat} (h : bitB n i = false) : subTo l n (i + 1) = subTo l n i := by
  rw [subTo, range_snoc, if_neg (by rw [h]; decide)]; simp [subTo]
theorem subTo_length (l : List Int) (n i : Nat) : (subTo l n i).length ≤ i := by rw [subTo, List.length_map]; exact filter_range_le _ _
theorem subs_prefix (l : List Int) {i : Nat} (h : i < 2 ^ l.length) : (List.range i).map (subB l) ++ [subB l i] <+: subsetsL l := by
  have e : (List.range (i + 1)).map (subB l) = (List.range i).map (subB l) ++ [subB l i] := by simp [List.range_succ]
  rw [← e]
  exact (range_prefix (show i + 1 ≤ 2 ^ l.length by omega)).map _
theorem subs_succ (l : List Int) (i : Nat) : (List.range (i + 1)).map (subB l) = (List.range i).map (subB l) ++ [subB l i] := by simp [List.range_succ]
theorem mask (p : Nat → Bool) : ∀ n, ∃ b, b < 2 ^ n ∧ ∀ j, j < n → bitB b j = p j
  | 0 => ⟨0, by simp, fun j h => by omega⟩
  | n + 1 => by
    obtain ⟨b, h1, h2⟩ := mask p n
    have hp : 2 ^ (n + 1) = 2 ^ n + 2 ^ n := by rw [Nat.pow_succ]; omega
    have low : ∀ c j, c < 2 ^ n → j < n → bitB (c + 2 ^ n) j = bitB c j := fun c j _ hj => by
      unfold bitB
      have e : 2 ^ n = 2 ^ j * (2 * 2 ^ (n - j - 1)) := by rw [← Nat.pow_succ', ← Nat.pow_add]; congr 1; omega
      have hpos : 0 < 2 ^ j := Nat.pow_pos (by omega)
      have e1 : (c + 2 ^ n) / 2 ^ j = c / 2 ^ j + 2 * 2 ^ (n - j - 1) := by rw [e, Nat.add_mul_div_left _ _ hpos]
      have q : ∀ x : Nat, ((x : Int) / 2 ^ j % 2 = 1) ↔ x / 2 ^ j % 2 = 1 := fun x => by
        have : ((x : Int) / 2 ^ j % 2) = ((x / 2 ^ j % 2 : Nat) : Int) := by push_cast; rfl
        rw [this]; omega
      simp only [decide_eq_decide, q, e1]
      omega
    have q2 : ∀ x : Nat, ((x : Int) / 2 ^ n % 2 = 1) ↔ x / 2 ^ n % 2 = 1 := fun x => by
      have : ((x : Int) / 2 ^ n % 2) = ((x / 2 ^ n % 2 : Nat) : Int) := by push_cast; rfl
      rw [this]; omega
    have hpn : 0 < 2 ^ n := Nat.pow_pos (by omega)
    by_cases hn : p n = true
    · refine ⟨b + 2 ^ n, by omega, fun j hj => ?_⟩
      by_cases e : j = n
      · subst e
        rw [hn]; unfold bitB
        rw [decide_eq_true_eq, q2]
        rw [show b + 2 ^ j = b + 2 ^ j * 1 by omega, Nat.add_mul_div_left _ _ hpn, Nat.div_eq_of_lt h1]
      · rw [low b j h1 (by omega)]; exact h2 j (by omega)
    · refine ⟨b, by omega, fun j hj => ?_⟩
      by_cases e : j = n
      · subst e
        rw [Bool.not_eq_true] at hn
        rw [hn]; unfold bitB
        rw [decide_eq_false_iff_not, q2, Nat.div_eq_of_lt h1]
        decide
      · exact h2 j (by omega)
theorem sub_is (l : List Int) (p : Int → Bool) {b : Nat} (h : ∀ j, j < l.length → bitB b j = p (l.getD j 0)) : subB l b = l.filter p := by
  have key : ∀ i, i ≤ l.length → subTo l b i = (l.take i).filter p := by
    intro i
    induction i with
    | zero => intro _; simp [subTo]
    | succ i ih =>
      intro hi
      rw [filter_take_succ (z := 0) (by omega), ← ih (by omega)]
      cases e : bitB b i with
      | true => rw [subTo_pos e, if_pos (by rw [← h i (by omega)]; exact e)]
      | false => rw [subTo_neg e, if_neg (by rw [← h i (by omega), e]; decide), List.append_nil]
  rw [subB, key _ (Nat.le_refl _), List.take_length]
theorem filter_mem_subs (l : List Int) (p : Int → Bool) : l.filter p ∈ subsetsL l := by
  obtain ⟨b, h1, h2⟩ := mask (fun j => p (l.getD j 0)) l.length
  exact List.mem_map.2 ⟨b, List.mem_range.2 h1, sub_is l p h2⟩
theorem subB_filter (l : List Int) (hnd : l.Nodup) (b : Nat) : ∃ p : Int → Bool, subB l b = l.filter p := by
  refine ⟨fun x => bitB b (l.idxOf x), sub_is l _ fun j hj => ?_⟩
  rw [List.getD_eq_getElem?_getD, List.getElem?_eq_getElem hj, Option.getD_some, hnd.idxOf_getElem j hj]
theorem pw_nodup {l : List Int} (h : l.Pairwise (· < ·)) : l.Nodup := h.imp fun h => by omega
theorem sorted_ext {a b : List Int} (ha : a.Pairwise (· < ·)) (hb : b.Pairwise (· < ·)) (h : ∀ x, x ∈ a ↔ x ∈ b) : a = b := by
  induction a generalizing b with
  | nil =>
    cases b with
    | nil => rfl
    | cons y b => exact absurd ((h y).2 (by simp)) (by simp)
  | cons x a ih =>
    cases b with
    | nil => exact absurd ((h x).1 (by simp)) (by simp)
    | cons y b =>
      obtain ⟨a1, a2⟩ := List.pairwise_cons.1 ha
      obtain ⟨b1, b2⟩ := List.pairwise_cons.1 hb
      have hxy : x = y := by
        rcases List.mem_cons.1 ((h x).1 (by simp)) with e | e
        · exact e
        · rcases List.mem_cons.1 ((h y).2 (by simp)) with e' | e'
          · exact e'.symm
          · have := b1 x e; have := a1 y e'; omega
      subst hxy
      rw [ih a2 b2 fun z => ?_]
      constructor
      · intro hz
        rcases List.mem_cons.1 ((h z).1 (by simp [hz])) with e | e
        · subst e; have := a1 z hz; omega
        · exact e
      · intro hz
        rcases List.mem_cons.1 ((h z).2 (by simp [hz])) with e | e
        · subst e; have := b1 z hz; omega
        · exact e
theorem mem_subs {l : List Int} (hl : l.Pairwise (· < ·)) {s : List Int} : s ∈ subsetsL l ↔ s.Pairwise (· < ·) ∧ ∀ x ∈ s, x ∈ l := by
  constructor
  · intro h
    obtain ⟨b, _, rfl⟩ := List.mem_map.1 h
    obtain ⟨p, hp⟩ := subB_filter l (pw_nodup hl) b
    rw [hp]
    exact ⟨hl.filter _, fun x hx => (List.mem_filter.1 hx).1⟩
  · rintro ⟨h1, h2⟩
    have : s = l.filter fun x => decide (x ∈ s) := sorted_ext h1 (hl.filter _) fun x => by
      rw [List.mem_filter, decide_eq_true_eq]
      exact ⟨fun h => ⟨h2 x h, h⟩, fun h => h.2⟩
    rw [this]
    exact filter_mem_subs l _
theorem subs_len {l s : List Int} (h : s ∈ subsetsL l) : s.length ≤ l.length := by
  obtain ⟨b, _, rfl⟩ := List.mem_map.1 h
  exact subTo_length _ _ _
theorem subs_count (l : List Int) : (subsetsL l).length = 2 ^ l.length := by simp [subsetsL]
def byteB (n : Int) (k : Nat) : Int := n / 2 ^ (8 * (k : Int)).toNat % 256
def bytes6 (n : Int) (k : Nat) : List Int := (List.range k).map (byteB n)
def keyBytes (l : List Int) : List Int := l.flatMap fun n => bytes6 n 6
theorem bytes6_succ (n : Int) (k : Nat) : bytes6 n (k + 1) = bytes6 n k ++ [byteB n k] := by simp [bytes6, List.range_succ]
theorem keyBytes_succ (l : List Int) {i : Nat} (hi : i < l.length) : keyBytes (l.take (i + 1)) = keyBytes (l.take i) ++ bytes6 (l.getD i 0) 6 := by
  rw [take_succ_getD _ 0 hi, keyBytes, List.flatMap_append]; simp [keyBytes]
theorem keyBytes_length (l : List Int) : (keyBytes l).length = 6 * l.length := by
  induction l with
  | nil => rfl
  | cons a l ih =>
    have : keyBytes (a :: l) = bytes6 a 6 ++ keyBytes l := by simp [keyBytes]
    rw [this, List.length_append, ih]; simp [bytes6]; omega
theorem bytes6_inj {a b : Int} (ha : 0 ≤ a ∧ a < 281474976710656) (hb : 0 ≤ b ∧ b < 281474976710656) (h : bytes6 a 6 = bytes6 b 6) : a = b := by
  have e : ∀ k, k < 6 → byteB a k = byteB b k := fun k hk => by
    have := congrArg (fun l => l.getD k 0) h
    simpa [bytes6, List.getD_eq_getElem?_getD, List.getElem?_range hk] using this
  have e0 := e 0 (by omega)
  have e1 := e 1 (by omega)
  have e2 := e 2 (by omega)
  have e3 := e 3 (by omega)
  have e4 := e 4 (by omega)
  have e5 := e 5 (by omega)
  simp [byteB] at e0 e1 e2 e3 e4 e5
  omega
theorem keyBytes_inj : ∀ {l m : List Int}, (∀ x ∈ l, 0 ≤ x ∧ x < 281474976710656) → (∀ x ∈ m, 0 ≤ x ∧ x < 281474976710656) → keyBytes l = keyBytes m → l = m
  | [], [], _, _, _ => rfl
  | [], b :: m, _, _, h => by have := congrArg List.length h; simp [keyBytes_length] at this
  | a :: l, [], _, _, h => by have := congrArg List.length h; simp [keyBytes_length] at this
  | a :: l, b :: m, hl, hm, h => by
    have ea : keyBytes (a :: l) = bytes6 a 6 ++ keyBytes l := by simp [keyBytes]
    have eb : keyBytes (b :: m) = bytes6 b 6 ++ keyBytes m := by simp [keyBytes]
    rw [ea, eb] at h
    obtain ⟨h1, h2⟩ := List.append_inj h (by simp [bytes6])
    rw [bytes6_inj (hl a (by simp)) (hm b (by simp)) h1, keyBytes_inj (fun x hx => hl x (by simp [hx])) (fun x hx => hm x (by simp [hx])) h2]
theorem keyBytes_range (l : List Int) : ∀ x ∈ keyBytes l, 0 ≤ x ∧ x < 256 := fun x hx => by
  simp only [keyBytes, bytes6, List.mem_flatMap, List.mem_map] at hx
  obtain ⟨n, _, k, _, rfl⟩ := hx
  unfold byteB
  exact ⟨Int.emod_nonneg _ (by omega), Int.emod_lt_of_pos _ (by omega)⟩
end BS
end
section
namespace Go.Proofs.YtoakoffdjeleoaaGreat
open Go.RowKit Go.Shelf
variable {P : Program} {ops : Array Oper} {Q : Exit → Act → World → Prop} {K : Act → World → Prop} {C : Cx} {n : Nat} {D : List Deferred} {H : Gh} {E : Env} {M : List (Nat × Obj)} {R : List Rw} {a : Act} {w : World} {l : List Oper} {o : Oper} {d : Nat} {b : Bool} {v : Value}
theorem p2_bd (n : Nat) (h : n ≤ 62) : (2 : Int) ^ n ≤ 4611686018427387904 := by
  have : 2 ^ n ≤ 2 ^ 62 := Nat.pow_le_pow_right (by omega) h
  have e : ((2 ^ n : Nat) : Int) = (2 : Int) ^ n := by push_cast; rfl
  omega
theorem p2_pos (n : Nat) : (0 : Int) < (2 : Int) ^ n := Int.pow_pos (by omega)
theorem r_shr (t : TypeId) {i j : Int} (hj : 0 ≤ j ∧ j < 64) (w : World) : (binOp .shr t (.int .i64 i) (.int .i64 j)).run P w = .ok (.int .i64 (i / 2 ^ j.toNat)) w := by
  simp [go_sem]
theorem r_shl (t : TypeId) {j : Int} (hj : 0 ≤ j ∧ j ≤ 62) (w : World) : (binOp .shl t (.int .i64 1) (.int .i64 j)).run P w = .ok (.int .i64 (2 ^ j.toNat)) w := by
  have h1 := p2_bd j.toNat (by omega)
  have h2 := p2_pos j.toNat
  have h3 : IntKind.i64.wrap (1 * 2 ^ (min j.toNat 64)) = 2 ^ j.toNat := by
    rw [Nat.min_eq_left (by omega), Int.one_mul]
    exact wrap_in ⟨by omega, by omega⟩
  simp only [go_sem, Op.shift, if_neg (show ¬ j < 0 by omega), h3, Sem.run_pure]
theorem bits_and_i64 (a b : Nat) (ha : a < 9223372036854775808) (hb : b < 9223372036854775808) : bits .and .i64 (a : Int) (b : Int) = ((a &&& b : Nat) : Int) := by
  have hx : a &&& b < 2 ^ 63 := Nat.and_lt_two_pow _ (by omega)
  have h1 : (BitVec.ofInt 64 (a : Int)).toNat = a := by
    rw [BitVec.ofInt_natCast, BitVec.toNat_ofNat]; exact Nat.mod_eq_of_lt (by omega)
  have h2 : (BitVec.ofInt 64 (b : Int)).toNat = b := by
    rw [BitVec.ofInt_natCast, BitVec.toNat_ofNat]; exact Nat.mod_eq_of_lt (by omega)
  show IntKind.i64.wrap ((BitVec.ofInt 64 (a : Int) &&& BitVec.ofInt 64 (b : Int)).toNat : Int) = _
  rw [BitVec.toNat_and, h1, h2]
  exact wrap_in ⟨by omega, by omega⟩
theorem r_and1 (t : TypeId) {i : Int} (hi : 0 ≤ i ∧ i ≤ 9223372036854775807) (w : World) : (binOp .and t (.int .i64 i) (.int .i64 1)).run P w = .ok (.int .i64 (i % 2)) w := by
  have h : bits .and .i64 i 1 = i % 2 := by
    obtain ⟨m, rfl⟩ : ∃ m : Nat, i = (m : Int) := ⟨i.toNat, by omega⟩
    have := bits_and_i64 m 1 (by omega) (by omega)
    rw [Nat.and_one_is_mod] at this
    simpa using this
  simp only [go_sem, h, Sem.run_pure]
theorem u8_wrap (i : Int) : IntKind.u8.wrap i = i % 256 := by simp [IntKind.wrap, IntKind.signed, IntKind.bits]
section
variable {ty : TypeId} {pos : String} {af : Array Edge} {gd : Option (Nat × Bool)}
theorem p_u8 {t t' : TypeId} {x : Operand} {i : Int} (hs : ∃ d, P.underlying t = some d) (hd : P.underlying t' = some (.int .u8)) (hg : Gd ops E gd b) (hx : Ev E b x (.int .i64 i)) : PV P ops n E M H ⟨some d, .convert t t' x, ty, pos, af, gd⟩ d b (.int .u8 (i % 256)) :=
  ⟨rfl, fun _ hf => hg.want rfl hf, fun hb a w hf _ _ => by
    obtain ⟨ds, hs⟩ := hs
    have e := u8_wrap i
    simp only [execOp, hf.ev hx hb]
    simp [go_sem, convert, run_underlying hs, run_underlying hd, e]⟩
end
def encU (x : Int) : List Value := [.int .u8 x]
def strB (ns : List Int) : ByteArray := ns.foldl (fun r n => r.push (UInt8.ofNat n.toNat)) ByteArray.empty
theorem flat_u : ∀ L : List Int, L.flatMap encU = L.map (Value.int .u8)
  | [] => rfl
  | x :: L => by rw [List.flatMap_cons, flat_u L]; rfl
theorem x_b2s {t t' e dst ty : Nat} {pos : String} {af : Array Edge} {x : Operand} {A : Option Addr} {m c T : Nat} {L : List Int} (i : Nat) (hs : P.underlying t = some (.slice e)) (he : P.underlying e = some (.int .u8)) (hd : P.underlying t' = some .string) (k : RK K C n D H ((dst, true, .string (strB L)) :: E) M R) (hi : R[i]? = some (LR A m c T 1 encU L) := by rfl) (hx : ev E x = some (true, .slice A m c) := by rfl) (hm : m = L.length := by first | rfl | (simp; done)) (hn : Nat.blt dst n = true := by rfl) : RK (SX P ops Q ⟨some dst, .convert t t' x, ty, pos, af, none⟩ K) C n D H E M R := fun a w s => by
  have hr := s.rows _ (List.mem_of_getElem? hi)
  have hrun : (convert t t' (.slice A m c)).run P w = .ok (.string (strB L)) w := by
    rw [run_convert_bytes_string w t t' e A m c hs he hd]
    by_cases h0 : m = 0
    · have hL : L = [] := List.eq_nil_of_length_eq_zero (by omega)
      subst hL; subst h0
      cases A with
      | none => rfl
      | some p =>
        have hz : (loadCells p 0).run P w = .ok (([] : List Int).map (Value.int .u8)).toArray w := by simp [loadCells, loadCellsFrom, Sem.run_pure]
        exact run_bytesToString w p 0 c [] hz
    · obtain ⟨g, cur, rfl, h2, h3, h4, h5, h6, h7⟩ := row_some hr (show 0 < m by omega)
      have hl : (loadCells (⟨g, 0, none⟩ : Addr) m).run P w = .ok (L.map (Value.int .u8)).toArray w := by
        have := run_loadCells_list (P := P) w ⟨g, 0, none⟩ (L.map (Value.int .u8)) (fun j v hj => by
          have hj' : (L.flatMap encU)[j]? = some v := by rw [flat_u]; exact hj
          change w.heap[g]? = some (.cells cur T (0, 0)) at h3
          have hjm : j < m := by
            have := (List.getElem?_eq_some_iff.1 hj).1
            rw [List.length_map] at this; omega
          have h8 : cur.toList.take (m * 1) = L.flatMap encU := h7
          rw [← h8, List.getElem?_take, if_pos (by omega), Array.getElem?_toList] at hj'
          rw [add_at]
          simp only [World.cell?, h3, Nat.zero_add]
          simpa using hj')
        rw [List.length_map, ← hm] at this
        exact this
      exact run_bytesToString w ⟨g, 0, none⟩ m c L hl
  unfold SX
  rw [if_pos (by simp [Region.wanted])]
  unfold Oper.wp
  simp only [execOp, s.fits.ev (e1 (b := true) hx) rfl, Sem.run_bind, hrun, Result.andThen_ok, Sem.run_pure]
  exact k _ _ (s.put hn rfl)
theorem strB_data : ∀ (ns : List Int) (s : ByteArray), (ns.foldl (fun r n => r.push (UInt8.ofNat n.toNat)) s).data = s.data ++ (ns.map fun n => UInt8.ofNat n.toNat).toArray
  | [], s => by simp
  | x :: ns, s => by
    rw [List.foldl_cons, strB_data ns]
    simp [ByteArray.push]
theorem strB_inj {l m : List Int} (hl : ∀ x ∈ l, 0 ≤ x ∧ x < 256) (hm : ∀ x ∈ m, 0 ≤ x ∧ x < 256) (h : strB l = strB m) : l = m := by
  have h1 := congrArg ByteArray.data h
  unfold strB at h1
  rw [strB_data, strB_data] at h1
  have h2 : (l.map fun n => UInt8.ofNat n.toNat) = m.map fun n => UInt8.ofNat n.toNat := by simpa using h1
  clear h h1
  induction l generalizing m with
  | nil =>
    cases m with
    | nil => rfl
    | cons b m => simp at h2
  | cons a l ih =>
    cases m with
    | nil => simp at h2
    | cons b m =>
      rw [List.map_cons, List.map_cons, List.cons.injEq] at h2
      obtain ⟨e1, e2⟩ := h2
      have e3 := congrArg UInt8.toNat e1
      have := hl a (by simp)
      have := hm b (by simp)
      simp only [UInt8.toNat_ofNat'] at e3
      rw [show a = b by omega, ih (fun x hx => hl x (by simp [hx])) (fun x hx => hm x (by simp [hx])) e2]
def keyB (l : List Int) : ByteArray := strB (BS.keyBytes l)
theorem keyB_inj {l m : List Int} (hl : ∀ x ∈ l, 0 ≤ x ∧ x < 281474976710656) (hm : ∀ x ∈ m, 0 ≤ x ∧ x < 281474976710656) (h : keyB l = keyB m) : l = m :=
  BS.keyBytes_inj hl hm (strB_inj (BS.keyBytes_range l) (BS.keyBytes_range m) h)
theorem mem_sortI {l : List Int} {x : Int} : x ∈ sortI l ↔ x ∈ l := List.mem_mergeSort
theorem sortI_le (l : List Int) : (sortI l).Pairwise (· ≤ ·) := by
  have := List.pairwise_mergeSort (le := fun x y : Int => decide (x ≤ y)) (by intro a b c; simp; omega) (by intro a b; simp; omega) l
  exact this.imp fun h => by simpa using h
theorem sortI_lt {l : List Int} (h : l.Nodup) : (sortI l).Pairwise (· < ·) := by
  have h1 := sortI_le l
  have h2 : (sortI l).Nodup := (List.mergeSort_perm l _).nodup_iff.2 h
  exact (h1.and h2).imp fun ⟨a, b⟩ => by omega
theorem upd_keys {ff : ByteArray → Bool} {pre : List (List Int)} {x : List Int} {b : Bool} {g : List Int → Bool} (h : ∀ s ∈ pre, ff (keyB s) = g s) (hx : b = g x) (hb : ∀ s ∈ pre ++ [x], ∀ y ∈ s, 0 ≤ y ∧ y < 281474976710656) : ∀ s ∈ pre ++ [x], upd ff (keyB x) b (keyB s) = g s := fun s hs => by
  unfold upd
  by_cases e : keyB s = keyB x
  · have : s = x := keyB_inj (hb s hs) (hb x (by simp)) e
    subst this
    rw [if_pos rfl, hx]
  · rw [if_neg e]
    rcases List.mem_append.1 hs with h1 | h1
    · exact h s h1
    · rw [List.mem_singleton.1 h1] at e; exact absurd rfl e
def idsB (b : BS.Bn) : List Int := sortI (BS.aIds b.ac)
theorem idsB_lt {b : BS.Bn} (h : BS.GoodB b) : (idsB b).Pairwise (· < ·) := sortI_lt h.ad
theorem mem_idsB {b : BS.Bn} {x : Int} : x ∈ idsB b ↔ x ∈ BS.aIds b.ac := mem_sortI
theorem idsB_bd {b : BS.Bn} (h : BS.GoodB b) : ∀ x ∈ idsB b, 1 ≤ x ∧ x ≤ 1099511627776 := fun x hx => by
  obtain ⟨a, ha, rfl⟩ := List.mem_map.1 (mem_idsB.1 hx)
  exact (h.ha a ha).1
theorem subs_bd {b : BS.Bn} (h : BS.GoodB b) {s : List Int} (hs : s ∈ BS.subsetsL (idsB b)) : ∀ y ∈ s, 0 ≤ y ∧ y < 281474976710656 := fun y hy => by
  have := idsB_bd h y (((BS.mem_subs (idsB_lt h)).1 hs).2 y hy)
  omega
theorem idsB_len {b : BS.Bn} (h : BS.GoodB b) : (idsB b).length ≤ 8 := by
  rw [idsB, sortI_length, List.length_map]; exact h.na
theorem sub_len {b : BS.Bn} (h : BS.GoodB b) {s : List Int} (hs : s ∈ BS.subsetsL (idsB b)) : s.length ≤ 8 := by
  obtain ⟨n, _, rfl⟩ := List.mem_map.1 hs
  exact Nat.le_trans (BS.subTo_length _ _ _) (idsB_len h)
def agreesB (b : BS.Bn) (s : List Int) : Bool := decide (BS.solveR (BS.onlyB b s) = 0)
def limitB (b : BS.Bn) (s : List Int) : Prop := BS.solveR (BS.onlyB b s) = 2
theorem row_hand {α : Type} {w1 : World} {H0 : Gh} {A : Option Addr} {m c T k : Nat} {enc : α → List Value} {L : List α} (s : St ⟨w1, [], H0⟩ n D H E M R a w) (i : Nat) (hi : R[i]? = some (LR A m c T k enc L)) (hm : m = L.length) : ∃ A' c', Value.slice A m c = .slice A' L.length c' ∧ w.ownsRow w1.heap.size T k (.slice A' L.length c') L.length (L.flatMap enc) := by
  subst hm
  have hr := s.rows _ (List.mem_of_getElem? hi)
  refine ⟨A, c, rfl, hr.1, ?_⟩
  rcases hr.2 with h | ⟨g, cap, cur, h1, h2, h3⟩
  · exact .inl h
  · refine .inr ⟨g, cap, cur, h1, ?_, h3⟩
    have := s.rown _ (List.mem_of_getElem? hi) g (by show Value.ownBlock (.slice A L.length c) = some g; rw [show Value.slice A L.length c = _ from h1]; rfl)
    simpa using this
end Go.Proofs.YtoakoffdjeleoaaGreat
end
section
namespace Go.Proofs.YtoakoffdjeleoaaGreat
open Go.RowKit Go.Shelf
variable {P : Program} {ops : Array Oper} {Q : Exit → Act → World → Prop} {K : Act → World → Prop} {C : Cx} {n : Nat} {D : List Deferred} {H : Gh} {E : Env} {M : List (Nat × Obj)} {R : List Rw} {a : Act} {w : World} {l : List Oper} {o : Oper} {d : Nat} {b : Bool} {v : Value}
section
variable {ty : TypeId} {pos : String} {af : Array Edge} {gd : Option (Nat × Bool)}
theorem addr_zero (a : Addr) : a.add 0 = a := by unfold Addr.add; rw [if_pos rfl]
theorem elem_of {t e : Nat} [ht : Sl P t e] : P.elem t = e ∧ P.underlying t = some (.slice (P.elem t)) := ⟨by simp [Program.elem, ht.und], Sl.elem⟩
theorem p_slh {t e k m c : Nat} {x y : Operand} {A : Option Addr} {i : Int} {q : IntKind} [ht : Sl P t e] [hs : Sz P e k] (hg : Gd ops E gd b) (hx : Ev E b x (.slice A m c)) (hy : Ev E b y (.int q i)) (hi : b = true → 0 ≤ i ∧ i ≤ (c : Int)) : PV P ops n E M H ⟨some d, .slice t x none (some y) none, ty, pos, af, gd⟩ d b (.slice A i.toNat c) :=
  ⟨rfl, fun _ hf => hg.want rfl hf, fun hb a w hf _ _ => by
    obtain ⟨e1, e2⟩ := elem_of (P := P) (t := t) (e := e)
    have h1 := run_sliceAt_slice (P := P) w t (.slice A m c) none (some (.int q i)) none e2
    have h2 := run_slice_h (P := P) w t A m c e2 q i (hi hb).1 (hi hb).2
    have h3 : sliced A 0 i.toNat c k = .slice A i.toNat c := by
      unfold sliced
      have : (A.map fun x => x.add (0 * k)) = A := by cases A <;> simp [addr_zero]
      simp only [this, ite_self, Nat.sub_zero]
    rw [h2, e1, hs.run w, Result.andThen_ok, h3] at h1
    simp [execOp, hf.ev hx hb, hf.ev hy hb, h1]⟩
theorem p_sll {t e k m c : Nat} {x y : Operand} {A : Option Addr} {i : Int} {q : IntKind} (j : Nat) (hj : i = (j : Int)) [ht : Sl P t e] [hs : Sz P e k] (hg : Gd ops E gd b) (hx : Ev E b x (.slice A m c)) (hy : Ev E b y (.int q i)) (hi : b = true → j ≤ m) : PV P ops n E M H ⟨some d, .slice t x (some y) none none, ty, pos, af, gd⟩ d b (sliced A j m c k) :=
  ⟨rfl, fun _ hf => hg.want rfl hf, fun hb a w hf _ _ => by
    obtain ⟨e1, e2⟩ := elem_of (P := P) (t := t) (e := e)
    have h1 := run_sliceAt_slice (P := P) w t (.slice A m c) (some (.int q i)) none none e2
    have hjm := hi hb
    have h2 := run_slice_l (P := P) w t A m c e2 q i (by omega) (by omega)
    rw [h2, e1, hs.run w, Result.andThen_ok, show i.toNat = j by omega] at h1
    simp [execOp, hf.ev hx hb, hf.ev hy hb, h1]⟩
end
theorem zeroCells_one (z : Value) (n : Nat) : (Builtin.zeroCells #[z] n).toList = List.replicate n z := by
  apply List.ext_getElem (by simp [Builtin.zeroCells])
  intro i h1 h2
  simp [Builtin.zeroCells, Nat.mod_one]
theorem x_clear {α : Type} {t e m c T : Nat} {pos : String} {ty : TypeId} {af : Array Edge} {x : Operand} {A : Option Addr} {enc : α → List Value} {L : List α} {zv : Value} (e_ : α → Value) (i lo : Nat) (z : α) [ht : Sl P t e] [hz : Zv P e zv] (hzc : zv.cells = #[zv]) (h1 : zv.oneCell' = true) (hzz : e_ z = zv) (henc : ∀ x, enc x = [e_ x]) (h : RK K C n D H E M (R.set i (LR A m c T 1 enc (L.take lo ++ List.replicate (m - lo) z)))) (hx : ev E x = some (true, sliced A lo m c 1)) (hlo : lo ≤ m) (hi : R[i]? = some (LR A m c T 1 enc L) := by rfl) (hm : m = L.length := by first | rfl | (simp; done)) : RK (SX P ops Q ⟨none, .call { callee := .builtin .clear, args := #[x], argTypes := #[t] }, ty, pos, af, none⟩ K) C n D H E M R := fun a w s => by
  have hr := s.rows _ (List.mem_of_getElem? hi)
  unfold SX
  rw [if_pos (by simp [Region.wanted])]
  unfold Oper.wp
  by_cases h0 : m - lo = 0
  · have hL : L.take lo ++ List.replicate (m - lo) z = L := by rw [h0, List.replicate_zero, List.append_nil, List.take_of_length_le (by omega)]
    rw [hL] at h
    have hrun : (Builtin.clear_ #[t] ty #[sliced A lo m c 1]).run P w = .ok (.tuple #[]) w := by
      unfold sliced
      rw [h0]
      cases hA : (if c = lo then A else A.map fun x => x.add (lo * 1)) <;> simp [Builtin.clear_, run_underlying ht.und]
    have ee : (execOp a.eval ⟨none, .call { callee := .builtin .clear, args := #[x], argTypes := #[t] }, ty, pos, af, none⟩).run P w = .ok (.value (.tuple #[])) w := by
      simp only [execOp, resolve, invoke, builtin, Sem.run_bind, Sem.run_pure, Result.andThen_ok, List.map_toArray, List.map_cons, List.map_nil, s.fits.ev (e1 (b := true) hx) rfl, hrun]
    rw [ee]
    show K (a.put none _) w
    have hset : R.set i (LR A m c T 1 enc L) = R := by
      apply List.ext_getElem?
      intro j
      rw [List.getElem?_set]
      by_cases hj : i = j
      · subst hj
        have := (List.getElem?_eq_some_iff.1 hi).1
        simp only [this, if_true]; exact hi.symm
      · rw [if_neg hj]
    rw [hset] at h
    exact h _ _ { s with fits := by simpa [Act.put] using s.fits, defs := by simpa [Act.put] using s.defs }
  · obtain ⟨g, cur, hA, h2, h3, h4, h5, h6, h7⟩ := row_some hr (show 0 < m by omega)
    change cur.toList.take (m * 1) = L.flatMap enc at h7
    change cur.size = c * 1 at h6
    change w.heap[g]? = some (.cells cur T (0, 0)) at h3
    have hval : sliced A lo m c 1 = .slice (some ⟨g, lo, none⟩) (m - lo) (c - lo) := by
      unfold sliced
      rw [if_neg (show ¬ c = lo by omega), hA]
      simp [add_at]
    have hst := run_storeCells_at P g lo T (List.replicate (m - lo) zv) 0 cur w h3 (by simp; omega) (fun u hu => by rw [List.eq_of_mem_replicate hu]; exact h1)
    have hrun : (Builtin.clear_ #[t] ty #[sliced A lo m c 1]).run P w = .ok (.tuple #[]) (w.setRow g (cur.toList.take lo ++ List.replicate (m - lo) zv ++ cur.toList.drop (lo + (m - lo))).toArray) := by
      rw [hval]
      obtain ⟨q, hq⟩ : ∃ q, m - lo = q + 1 := ⟨m - lo - 1, by omega⟩
      simp only [List.length_replicate, Nat.add_zero] at hst
      have hzc' : (Builtin.zeroCells zv.cells (m - lo)).toList = List.replicate (m - lo) zv := by rw [hzc]; exact zeroCells_one zv _
      rw [hq] at hst hzc' ⊢
      simp [Builtin.clear_, run_underlying ht.und, hz.run w, hzc', hst]
    have ee : (execOp a.eval ⟨none, .call { callee := .builtin .clear, args := #[x], argTypes := #[t] }, ty, pos, af, none⟩).run P w = .ok (.value (.tuple #[])) (w.setRow g (cur.toList.take lo ++ List.replicate (m - lo) zv ++ cur.toList.drop (lo + (m - lo))).toArray) := by
      simp only [execOp, resolve, invoke, builtin, Sem.run_bind, Sem.run_pure, Result.andThen_ok, List.map_toArray, List.map_cons, List.map_nil, s.fits.ev (e1 (b := true) hx) rfl, hrun]
    rw [ee]
    have hb : (LR A m c T 1 enc L).v.ownBlock = some g := by rw [hA]; rfl
    have hheap : (w.setRow g (cur.toList.take lo ++ List.replicate (m - lo) zv ++ cur.toList.drop (lo + (m - lo))).toArray).heap[g]? = some (.cells (cur.toList.take lo ++ List.replicate (m - lo) zv ++ cur.toList.drop (lo + (m - lo))).toArray T (0, 0)) := by
      simp only [World.setRow, Array.getElem?_modify, if_true]
      rw [h3]; rfl
    refine h _ _ ?_
    have s2 := s.row hi (r' := LR A m c T 1 enc (L.take lo ++ List.replicate (m - lo) z)) (w' := w.setRow g (cur.toList.take lo ++ List.replicate (m - lo) zv ++ cur.toList.drop (lo + (m - lo))).toArray) ?_ ?_ (.inl rfl)
    · exact { s2 with fits := by simpa [Act.put] using s2.fits, defs := by simpa [Act.put] using s2.defs }
    · rw [hb]
      refine ⟨rfl, rfl, rfl, by simp [World.setRow], fun k' _ hk' => ?_⟩
      simp only [World.setRow, Array.getElem?_modify]
      rw [if_neg (fun e => hk' (by rw [e]))]
    · have hfl : (L.take lo ++ List.replicate (m - lo) z).flatMap enc = (L.flatMap enc).take lo ++ List.replicate (m - lo) zv := by
        rw [flat_one henc, flat_one henc, List.map_append, List.map_take, List.map_replicate, hzz]
      refine ⟨?_, .inr ⟨g, c, _, by rw [hA], h2, hheap, h4, h5, ?_, ?_⟩⟩
      · show ((L.take lo ++ List.replicate (m - lo) z).flatMap enc).length = m * 1
        rw [flat_one henc, List.length_map, List.length_append, List.length_take, List.length_replicate]; omega
      · simp [h6]; omega
      · show List.take (m * 1) (cur.toList.take lo ++ List.replicate (m - lo) zv ++ cur.toList.drop (lo + (m - lo))) = (L.take lo ++ List.replicate (m - lo) z).flatMap enc
        rw [hfl, ← h7, List.take_take, Nat.mul_one, Nat.min_eq_left (by omega)]
        rw [List.take_append, List.take_of_length_le (by simp; omega)]
        have : (cur.toList.take lo ++ List.replicate (m - lo) zv).length = m := by simp [h6]; omega
        rw [this, Nat.sub_self, List.take_zero, List.append_nil]
theorem k_cut {α : Type} {A : Option Addr} {m c T k : Nat} {enc : α → List Value} {L : List α} (i hi_ : Nat) (h : RK K C n D H E M (R.set i (LR A hi_ c T k enc (L.take hi_)))) (hi : R[i]? = some (LR A m c T k enc L) := by rfl) (hle : hi_ ≤ m := by omega) (hm : m = L.length := by first | rfl | (simp; done)) (hk : ∀ x, (enc x).length = k := by exact fun _ => rfl) : RK K C n D H E M R := fun a w s => by
  have hr := s.rows _ (List.mem_of_getElem? hi)
  refine h a w (s.row hi (r' := LR A hi_ c T k enc (L.take hi_)) ?_ ?_ (.inl (by cases A <;> rfl)))
  · exact ⟨rfl, rfl, rfl, Nat.le_refl _, fun _ _ _ => rfl⟩
  · have hlen : ((L.take hi_).flatMap enc).length = hi_ * k := by rw [flat_length enc k hk, List.length_take, Nat.min_eq_left (by omega)]
    refine ⟨hlen, ?_⟩
    rcases hr.2 with ⟨h0, h1⟩ | ⟨g, cap, cur, h1, h2, h3, h4, h5, h6, h7⟩
    · change Value.slice A m c = _ at h0
      injection h0 with e1 e2 e3
      subst e1; subst e2; subst e3
      refine .inl ⟨?_, (show hi_ = 0 by omega)⟩
      show Value.slice none hi_ 0 = _
      rw [show hi_ = 0 by omega]
    · change Value.slice A m c = _ at h1
      injection h1 with e1 e2 e3
      subst e1; subst e3
      change m ≤ c at h4
      refine .inr ⟨g, c, cur, rfl, h2, h3, by show hi_ ≤ c; omega, h5, h6, ?_⟩
      change cur.toList.take (m * k) = L.flatMap enc at h7
      show cur.toList.take (hi_ * k) = (L.take hi_).flatMap enc
      have hmul : hi_ * k ≤ m * k := Nat.mul_le_mul_right _ hle
      have e9 : (L.flatMap enc).take (hi_ * k) = (L.take hi_).flatMap enc := by
        have hs : L.flatMap enc = (L.take hi_).flatMap enc ++ (L.drop hi_).flatMap enc := by rw [← List.flatMap_append, List.take_append_drop]
        rw [hs, ← hlen, List.take_left']
        rfl
      rw [← e9, ← h7, List.take_take, Nat.min_eq_left hmul]
theorem k_cap {α : Type} {A : Option Addr} {m c T k : Nat} {enc : α → List Value} {L : List α} (i : Nat) (h : m ≤ c → RK K C n D H E M R) (hi : R[i]? = some (LR A m c T k enc L) := by rfl) : RK K C n D H E M R := fun a w s => by
  have hr := s.rows _ (List.mem_of_getElem? hi)
  refine h ?_ a w s
  rcases hr.2 with ⟨h0, h1⟩ | ⟨g, cap, cur, h1, h2, h3, h4, _⟩
  · have e : m = 0 := h1
    omega
  · change Value.slice A m c = _ at h1
    injection h1 with e1 e2 e3
    subst e3
    exact h4
end Go.Proofs.YtoakoffdjeleoaaGreat
end
section
namespace Go.Proofs.YtoakoffdjeleoaaGreat
open Go.RowKit Go.Shelf Go.Sort
variable {H : Gh}
theorem compare_cv (x y : Int) : Cv Tryz.prog 209 [.int .i64 x, .int .i64 y] H fun u_ => u_ = .int .i64 (BS.cmpI x y) := fun w _ =>
  (Tryz.cmp_Compare_int x y w).mono fun e w' ⟨h1, h2⟩ => ⟨_, h1, by rw [h2]; exact Kept.refl _ _, by unfold Lib.compareInt BS.cmpI; rfl⟩
theorem world_of_kept {w w' : World} (h : Kept [] w w') : ∃ q os, w' = grow (w.drewN q) os := by
  refine ⟨w'.drawn - w.drawn, w'.heap.extract w.heap.size w'.heap.size, ?_⟩
  have hd := h.drawn
  have hh : w'.heap = w.heap ++ w'.heap.extract w.heap.size w'.heap.size := by
    apply Array.ext_getElem?
    intro i
    by_cases hi : i < w.heap.size
    · rw [Array.getElem?_append_left hi]; exact h.block i hi (by simp)
    · rw [Array.getElem?_append_right (by omega), Array.getElem?_extract]
      have := h.size
      by_cases h2 : i < w'.heap.size
      · rw [if_pos (by omega)]; congr 1; omega
      · rw [if_neg (by omega), Array.getElem?_eq_none (by omega)]
  cases w' with
  | mk heap tape drawn os output =>
    cases w with
    | mk heap0 tape0 drawn0 os0 output0 =>
      have h1 := h.os; have h2 := h.tape; have h3 := h.output
      simp only at h1 h2 h3 hd hh
      subst h1; subst h2; subst h3
      simp only [grow, World.drewN]
      rw [← hh]
      congr 1
      omega
end Go.Proofs.YtoakoffdjeleoaaGreat
end
section
set_option maxRecDepth 4000
set_option maxHeartbeats 4000000
namespace Go.Proofs.YtoakoffdjeleoaaGreat
open Go.RowKit Go.Shelf
instance : Sz Tryz.prog 3 1 := ⟨Tryz.sizeOf3⟩
instance : Sc Tryz.prog 3 := ⟨Tryz.isAgg3⟩
instance : Sz Tryz.prog 4 1 := ⟨Tryz.sizeOf4⟩
instance : Sc Tryz.prog 4 := ⟨Tryz.isAgg4⟩
instance : Sc Tryz.prog 22 := ⟨Tryz.isAgg22⟩
instance : Sl Tryz.prog 22 31 := ⟨Tryz.underlying22⟩
instance : Sc Tryz.prog 23 := ⟨Tryz.isAgg23⟩
instance : Sl Tryz.prog 23 92 := ⟨Tryz.underlying23⟩
instance : Sz Tryz.prog 24 1 := ⟨Tryz.sizeOf24⟩
instance : Sc Tryz.prog 24 := ⟨Tryz.isAgg24⟩
instance : Sl Tryz.prog 24 85 := ⟨Tryz.underlying24⟩
instance : Sz Tryz.prog 25 1 := ⟨Tryz.sizeOf25⟩
instance : Sc Tryz.prog 25 := ⟨Tryz.isAgg25⟩
instance : Sl Tryz.prog 25 42 := ⟨Tryz.underlying25⟩
instance : Sz Tryz.prog 27 2 := ⟨Tryz.sizeOf27⟩
instance : Ag Tryz.prog 27 2 := ⟨Tryz.isAgg27, Tryz.sizeOf27⟩
instance : Sz Tryz.prog 29 4 := ⟨Tryz.sizeOf29⟩
instance : Ag Tryz.prog 29 4 := ⟨Tryz.isAgg29, Tryz.sizeOf29⟩
instance : Sz Tryz.prog 31 3 := ⟨Tryz.sizeOf31⟩
instance : Ag Tryz.prog 31 3 := ⟨Tryz.isAgg31, Tryz.sizeOf31⟩
instance : Sz Tryz.prog 34 1 := ⟨Tryz.sizeOf34⟩
instance : Sc Tryz.prog 34 := ⟨Tryz.isAgg34⟩
instance : Sz Tryz.prog 40 2 := ⟨Tryz.sizeOf40⟩
instance : Ag Tryz.prog 40 2 := ⟨Tryz.isAgg40, Tryz.sizeOf40⟩
instance : Sz Tryz.prog 42 9 := ⟨Tryz.sizeOf42⟩
instance : Ag Tryz.prog 42 9 := ⟨Tryz.isAgg42, Tryz.sizeOf42⟩
instance : Sz Tryz.prog 43 1 := ⟨Tryz.sizeOf43⟩
instance : Sz Tryz.prog 45 3 := ⟨Tryz.sizeOf45⟩
instance : Ag Tryz.prog 45 3 := ⟨Tryz.isAgg45, Tryz.sizeOf45⟩
instance : Sz Tryz.prog 51 1 := ⟨Tryz.sizeOf51⟩
instance : Sc Tryz.prog 51 := ⟨Tryz.isAgg51⟩
instance : Sl Tryz.prog 51 3 := ⟨Tryz.underlying51⟩
instance : Sz Tryz.prog 53 1 := ⟨Tryz.sizeOf53⟩
instance : Sc Tryz.prog 53 := ⟨Tryz.isAgg53⟩
instance : Sl Tryz.prog 53 51 := ⟨Tryz.underlying53⟩
instance : Sz Tryz.prog 61 2 := ⟨Tryz.sizeOf61⟩
instance : Ag Tryz.prog 61 2 := ⟨Tryz.isAgg61, Tryz.sizeOf61⟩
instance : Sz Tryz.prog 82 1 := ⟨Tryz.sizeOf82⟩
instance : Sc Tryz.prog 82 := ⟨Tryz.isAgg82⟩
instance : Sl Tryz.prog 82 87 := ⟨Tryz.underlying82⟩
instance : Sz Tryz.prog 85 4 := ⟨Tryz.sizeOf85⟩
instance : Ag Tryz.prog 85 4 := ⟨Tryz.isAgg85, Tryz.sizeOf85⟩
instance : Sz Tryz.prog 87 2 := ⟨Tryz.sizeOf87⟩
instance : Ag Tryz.prog 87 2 := ⟨Tryz.isAgg87, Tryz.sizeOf87⟩
instance : Sz Tryz.prog 92 2 := ⟨Tryz.sizeOf92⟩
instance : Ag Tryz.prog 92 2 := ⟨Tryz.isAgg92, Tryz.sizeOf92⟩
instance : Sc Tryz.prog 129 := ⟨Tryz.isAgg129⟩
instance : Sz Tryz.prog 131 6 := ⟨Tryz.sizeOf131⟩
instance : Ag Tryz.prog 131 6 := ⟨Tryz.isAgg131, Tryz.sizeOf131⟩
instance : Sz Tryz.prog 195 1 := ⟨Tryz.sizeOf195⟩
instance : Sc Tryz.prog 195 := ⟨Tryz.isAgg195⟩
instance : Sl Tryz.prog 195 237 := ⟨Tryz.underlying195⟩
instance : Sz Tryz.prog 197 2 := ⟨Tryz.sizeOf197⟩
instance : Ag Tryz.prog 197 2 := ⟨Tryz.isAgg197, Tryz.sizeOf197⟩
instance : Sz Tryz.prog 206 1 := ⟨Tryz.sizeOf206⟩
instance : Sc Tryz.prog 206 := ⟨Tryz.isAgg206⟩
instance : Sz Tryz.prog 237 1 := ⟨Tryz.sizeOf237⟩
instance : Sc Tryz.prog 237 := ⟨Tryz.isAgg237⟩
instance : Sc Tryz.prog 239 := ⟨Tryz.isAgg239⟩
instance : Sl Tryz.prog 239 281 := ⟨Tryz.underlying239⟩
instance : Sz Tryz.prog 278 3 := ⟨Tryz.sizeOf278⟩
instance : Ag Tryz.prog 278 3 := ⟨Tryz.isAgg278, Tryz.sizeOf278⟩
instance : Sz Tryz.prog 281 4 := ⟨Tryz.sizeOf281⟩
instance : Sz Tryz.prog 282 1 := ⟨Tryz.sizeOf282⟩
instance : Sc Tryz.prog 282 := ⟨Tryz.isAgg282⟩
instance : Sz Tryz.prog 309 10 := ⟨Tryz.sizeOf309⟩
instance : Ag Tryz.prog 309 10 := ⟨Tryz.isAgg309, Tryz.sizeOf309⟩
instance : Sz Tryz.prog 326 8 := ⟨Tryz.sizeOf326⟩
instance : Ag Tryz.prog 326 8 := ⟨Tryz.isAgg326, Tryz.sizeOf326⟩
instance : Zv Tryz.prog 3 (.int .i64 0) := ⟨Tryz.zeroValue3⟩
instance : Zv Tryz.prog 4 (.bool false) := ⟨Tryz.zeroValue4⟩
instance : Zv Tryz.prog 24 (.slice none 0 0) := ⟨Tryz.zeroValue24⟩
instance : Zv Tryz.prog 27 (.agg #[.slice none 0 0, .slice none 0 0]) := ⟨Tryz.zeroValue27⟩
instance : Zv Tryz.prog 29 (.agg #[.slice none 0 0, .slice none 0 0, .slice none 0 0, .slice none 0 0]) := ⟨Tryz.zeroValue29⟩
instance : Zv Tryz.prog 31 (.agg #[.int .i64 0, .int .i64 0, .int .i64 0]) := ⟨Tryz.zeroValue31⟩
instance : Zv Tryz.prog 34 (.int .i64 0) := ⟨Tryz.zeroValue34⟩
instance : Zv Tryz.prog 40 (.agg #[.int .i64 0, .int .i64 0]) := ⟨Tryz.zeroValue40⟩
instance : Zv Tryz.prog 42 (.agg #[.int .i64 0, .int .i64 0, .bool false, .int .i64 0, .int .i64 0, .int .i64 0, .int .i64 0, .int .i64 0, .int .i64 0]) := ⟨Tryz.zeroValue42⟩
instance : Zv Tryz.prog 45 (.agg #[.int .i64 0, .bool false, .bool false]) := ⟨Tryz.zeroValue45⟩
instance : Zv Tryz.prog 51 (.slice none 0 0) := ⟨Tryz.zeroValue51⟩
instance : Zv Tryz.prog 53 (.slice none 0 0) := ⟨Tryz.zeroValue53⟩
instance : Zv Tryz.prog 61 (.agg #[.slice none 0 0, .int .i64 0]) := ⟨Tryz.zeroValue61⟩
instance : Zv Tryz.prog 82 (.slice none 0 0) := ⟨Tryz.zeroValue82⟩
instance : Zv Tryz.prog 85 (.agg #[.int .i64 0, .int .i64 0, .int .i64 0, .int .i64 0]) := ⟨Tryz.zeroValue85⟩
instance : Zv Tryz.prog 87 (.agg #[.int .i64 0, .int .i64 0]) := ⟨Tryz.zeroValue87⟩
instance : Zv Tryz.prog 92 (.agg #[.int .i64 0, .int .i64 0]) := ⟨Tryz.zeroValue92⟩
instance : Zv Tryz.prog 131 (.agg #[.slice none 0 0, .slice none 0 0, .slice none 0 0, .slice none 0 0, .slice none 0 0, .map none]) := ⟨Tryz.zeroValue131⟩
instance : Zv Tryz.prog 197 (.agg #[.bool false, .slice none 0 0]) := ⟨Tryz.zeroValue197⟩
instance : Zv Tryz.prog 206 (.nilFunc) := ⟨Tryz.zeroValue206⟩
instance : Zv Tryz.prog 237 (.pointer none) := ⟨Tryz.zeroValue237⟩
instance : Zv Tryz.prog 278 (.agg #[.int .i64 0, .int .i64 0, .bool false]) := ⟨Tryz.zeroValue278⟩
instance : Zv Tryz.prog 282 (.nilFunc) := ⟨Tryz.zeroValue282⟩
instance : Zv Tryz.prog 309 (.agg #[.int .i64 0, .int .i64 0, .bool false, .int .i64 0, .int .i64 0, .int .i64 0, .int .i64 0, .int .i64 0, .int .i64 0, .slice none 0 0]) := ⟨Tryz.zeroValue309⟩
instance : Zv Tryz.prog 326 (.agg #[.int .i64 0, .int .i64 0, .int .i64 0, .int .i64 0, .int .i64 0, .int .i64 0, .int .i64 0, .int .i64 0]) := ⟨Tryz.zeroValue326⟩
instance : Fd Tryz.prog 27 0 0 := ⟨fun g j w => by kernel_rfl⟩
instance : Fd Tryz.prog 27 1 1 := ⟨fun g j w => by kernel_rfl⟩
instance : Fd Tryz.prog 29 0 0 := ⟨fun g j w => by kernel_rfl⟩
instance : Fd Tryz.prog 29 1 1 := ⟨fun g j w => by kernel_rfl⟩
instance : Fd Tryz.prog 29 2 2 := ⟨fun g j w => by kernel_rfl⟩
instance : Fd Tryz.prog 31 0 0 := ⟨fun g j w => by kernel_rfl⟩
instance : Fd Tryz.prog 31 1 1 := ⟨fun g j w => by kernel_rfl⟩
instance : Fd Tryz.prog 31 2 2 := ⟨fun g j w => by kernel_rfl⟩
instance : Fd Tryz.prog 40 0 0 := ⟨fun g j w => by kernel_rfl⟩
instance : Fd Tryz.prog 40 1 1 := ⟨fun g j w => by kernel_rfl⟩
instance : Fd Tryz.prog 42 0 0 := ⟨fun g j w => by kernel_rfl⟩
instance : Fd Tryz.prog 42 1 1 := ⟨fun g j w => by kernel_rfl⟩
instance : Fd Tryz.prog 42 2 2 := ⟨fun g j w => by kernel_rfl⟩
instance : Fd Tryz.prog 42 3 3 := ⟨fun g j w => by kernel_rfl⟩
instance : Fd Tryz.prog 42 4 4 := ⟨fun g j w => by kernel_rfl⟩
instance : Fd Tryz.prog 42 5 5 := ⟨fun g j w => by kernel_rfl⟩
instance : Fd Tryz.prog 42 6 6 := ⟨fun g j w => by kernel_rfl⟩
instance : Fd Tryz.prog 42 7 8 := ⟨fun g j w => by kernel_rfl⟩
instance : Fd Tryz.prog 45 0 0 := ⟨fun g j w => by kernel_rfl⟩
instance : Fd Tryz.prog 45 1 1 := ⟨fun g j w => by kernel_rfl⟩
instance : Fd Tryz.prog 45 2 2 := ⟨fun g j w => by kernel_rfl⟩
instance : Fd Tryz.prog 61 0 0 := ⟨fun g j w => by kernel_rfl⟩
instance : Fd Tryz.prog 61 1 1 := ⟨fun g j w => by kernel_rfl⟩
instance : Fd Tryz.prog 85 0 0 := ⟨fun g j w => by kernel_rfl⟩
instance : Fd Tryz.prog 85 1 2 := ⟨fun g j w => by kernel_rfl⟩
instance : Fd Tryz.prog 87 0 0 := ⟨fun g j w => by kernel_rfl⟩
instance : Fd Tryz.prog 87 1 1 := ⟨fun g j w => by kernel_rfl⟩
instance : Fd Tryz.prog 92 0 0 := ⟨fun g j w => by kernel_rfl⟩
instance : Fd Tryz.prog 92 1 1 := ⟨fun g j w => by kernel_rfl⟩
instance : Fd Tryz.prog 131 0 0 := ⟨fun g j w => by kernel_rfl⟩
instance : Fd Tryz.prog 131 1 4 := ⟨fun g j w => by kernel_rfl⟩
instance : Fd Tryz.prog 131 2 5 := ⟨fun g j w => by kernel_rfl⟩
instance : Fd Tryz.prog 197 0 0 := ⟨fun g j w => by kernel_rfl⟩
instance : Fd Tryz.prog 197 1 1 := ⟨fun g j w => by kernel_rfl⟩
instance : Fd Tryz.prog 241 0 0 := ⟨fun g j w => by kernel_rfl⟩
instance : Fd Tryz.prog 241 1 1 := ⟨fun g j w => by kernel_rfl⟩
instance : Fd Tryz.prog 241 2 2 := ⟨fun g j w => by kernel_rfl⟩
instance : Fd Tryz.prog 241 3 3 := ⟨fun g j w => by kernel_rfl⟩
instance : Fd Tryz.prog 278 0 0 := ⟨fun g j w => by kernel_rfl⟩
instance : Fd Tryz.prog 278 1 1 := ⟨fun g j w => by kernel_rfl⟩
instance : Fd Tryz.prog 278 2 2 := ⟨fun g j w => by kernel_rfl⟩
instance : Fd Tryz.prog 309 0 0 := ⟨fun g j w => by kernel_rfl⟩
instance : Fd Tryz.prog 309 1 9 := ⟨fun g j w => by kernel_rfl⟩
instance : En Tryz.prog 21 := ⟨enters_of Tryz.func21 (by kernel_rfl) rfl⟩
instance : En Tryz.prog 22 := ⟨enters_of Tryz.func22 (by kernel_rfl) rfl⟩
instance : En Tryz.prog 24 := ⟨enters_of Tryz.func24 (by kernel_rfl) rfl⟩
instance : En Tryz.prog 26 := ⟨enters_of Tryz.func26 (by kernel_rfl) rfl⟩
instance : En Tryz.prog 30 := ⟨enters_of Tryz.func30 (by kernel_rfl) rfl⟩
instance : En Tryz.prog 31 := ⟨enters_of Tryz.func31 (by kernel_rfl) rfl⟩
instance : En Tryz.prog 32 := ⟨enters_of Tryz.func32 (by kernel_rfl) rfl⟩
instance : En Tryz.prog 33 := ⟨enters_of Tryz.func33 (by kernel_rfl) rfl⟩
instance : En Tryz.prog 38 := ⟨enters_of Tryz.func38 (by kernel_rfl) rfl⟩
instance : En Tryz.prog 39 := ⟨enters_of Tryz.func39 (by kernel_rfl) rfl⟩
instance : En Tryz.prog 40 := ⟨enters_of Tryz.func40 (by kernel_rfl) rfl⟩
instance : En Tryz.prog 41 := ⟨enters_of Tryz.func41 (by kernel_rfl) rfl⟩
instance : En Tryz.prog 42 := ⟨enters_of Tryz.func42 (by kernel_rfl) rfl⟩
instance : En Tryz.prog 43 := ⟨enters_of Tryz.func43 (by kernel_rfl) rfl⟩
instance : En Tryz.prog 44 := ⟨enters_of Tryz.func44 (by kernel_rfl) rfl⟩
instance : En Tryz.prog 48 := ⟨enters_of Tryz.func48 (by kernel_rfl) rfl⟩
instance : En Tryz.prog 71 := ⟨enters_of Tryz.func71 (by kernel_rfl) rfl⟩
instance : En Tryz.prog 72 := ⟨enters_of Tryz.func72 (by kernel_rfl) rfl⟩
instance : En Tryz.prog 73 := ⟨enters_of Tryz.func73 (by kernel_rfl) rfl⟩
instance : En Tryz.prog 74 := ⟨enters_of Tryz.func74 (by kernel_rfl) rfl⟩
instance : En Tryz.prog 76 := ⟨enters_of Tryz.func76 (by kernel_rfl) rfl⟩
instance : En Tryz.prog 77 := ⟨enters_of Tryz.func77 (by kernel_rfl) rfl⟩
instance : En Tryz.prog 80 := ⟨enters_of Tryz.func80 (by kernel_rfl) rfl⟩
instance : En Tryz.prog 82 := ⟨enters_of Tryz.func82 (by kernel_rfl) rfl⟩
instance : En Tryz.prog 83 := ⟨enters_of Tryz.func83 (by kernel_rfl) rfl⟩
instance : En Tryz.prog 84 := ⟨enters_of Tryz.func84 (by kernel_rfl) rfl⟩
instance : En Tryz.prog 85 := ⟨enters_of Tryz.func85 (by kernel_rfl) rfl⟩
instance : En Tryz.prog 86 := ⟨enters_of Tryz.func86 (by kernel_rfl) rfl⟩
instance : En Tryz.prog 87 := ⟨enters_of Tryz.func87 (by kernel_rfl) rfl⟩
instance : En Tryz.prog 91 := ⟨enters_of Tryz.func91 (by kernel_rfl) rfl⟩
instance : En Tryz.prog 93 := ⟨enters_of Tryz.func93 (by kernel_rfl) rfl⟩
instance : En Tryz.prog 94 := ⟨enters_of Tryz.func94 (by kernel_rfl) rfl⟩
instance : En Tryz.prog 95 := ⟨enters_of Tryz.func95 (by kernel_rfl) rfl⟩
instance : En Tryz.prog 96 := ⟨enters_of Tryz.func96 (by kernel_rfl) rfl⟩
instance : En Tryz.prog 97 := ⟨enters_of Tryz.func97 (by kernel_rfl) rfl⟩
instance : En Tryz.prog 98 := ⟨enters_of Tryz.func98 (by kernel_rfl) rfl⟩
instance : En Tryz.prog 99 := ⟨enters_of Tryz.func99 (by kernel_rfl) rfl⟩
instance : En Tryz.prog 100 := ⟨enters_of Tryz.func100 (by kernel_rfl) rfl⟩
instance : En Tryz.prog 101 := ⟨enters_of Tryz.func101 (by kernel_rfl) rfl⟩
instance : En Tryz.prog 102 := ⟨enters_of Tryz.func102 (by kernel_rfl) rfl⟩
instance : En Tryz.prog 103 := ⟨enters_of Tryz.func103 (by kernel_rfl) rfl⟩
instance : En Tryz.prog 104 := ⟨enters_of Tryz.func104 (by kernel_rfl) rfl⟩
instance : En Tryz.prog 105 := ⟨enters_of Tryz.func105 (by kernel_rfl) rfl⟩
instance : En Tryz.prog 106 := ⟨enters_of Tryz.func106 (by kernel_rfl) rfl⟩
instance : En Tryz.prog 107 := ⟨enters_of Tryz.func107 (by kernel_rfl) rfl⟩
instance : En Tryz.prog 109 := ⟨enters_of Tryz.func109 (by kernel_rfl) rfl⟩
instance : En Tryz.prog 112 := ⟨enters_of Tryz.func112 (by kernel_rfl) rfl⟩
instance : En Tryz.prog 115 := ⟨enters_of Tryz.func115 (by kernel_rfl) rfl⟩
instance : En Tryz.prog 126 := ⟨enters_of Tryz.func126 (by kernel_rfl) rfl⟩
instance : En Tryz.prog 127 := ⟨enters_of Tryz.func127 (by kernel_rfl) rfl⟩
instance : En Tryz.prog 135 := ⟨enters_of Tryz.func135 (by kernel_rfl) rfl⟩
instance : En Tryz.prog 137 := ⟨enters_of Tryz.func137 (by kernel_rfl) rfl⟩
instance : En Tryz.prog 140 := ⟨enters_of Tryz.func140 (by kernel_rfl) rfl⟩
instance : En Tryz.prog 141 := ⟨enters_of Tryz.func141 (by kernel_rfl) rfl⟩
instance : En Tryz.prog 142 := ⟨enters_of Tryz.func142 (by kernel_rfl) rfl⟩
instance : En Tryz.prog 145 := ⟨enters_of Tryz.func145 (by kernel_rfl) rfl⟩
instance : En Tryz.prog 146 := ⟨enters_of Tryz.func146 (by kernel_rfl) rfl⟩
instance : En Tryz.prog 147 := ⟨enters_of Tryz.func147 (by kernel_rfl) rfl⟩
instance : En Tryz.prog 150 := ⟨enters_of Tryz.func150 (by kernel_rfl) rfl⟩
instance : En Tryz.prog 151 := ⟨enters_of Tryz.func151 (by kernel_rfl) rfl⟩
instance : En Tryz.prog 152 := ⟨enters_of Tryz.func152 (by kernel_rfl) rfl⟩
instance : En Tryz.prog 153 := ⟨enters_of Tryz.func153 (by kernel_rfl) rfl⟩
instance : En Tryz.prog 154 := ⟨enters_of Tryz.func154 (by kernel_rfl) rfl⟩
instance : En Tryz.prog 155 := ⟨enters_of Tryz.func155 (by kernel_rfl) rfl⟩
instance : En Tryz.prog 156 := ⟨enters_of Tryz.func156 (by kernel_rfl) rfl⟩
instance : En Tryz.prog 160 := ⟨enters_of Tryz.func160 (by kernel_rfl) rfl⟩
instance : En Tryz.prog 161 := ⟨enters_of Tryz.func161 (by kernel_rfl) rfl⟩
instance : En Tryz.prog 163 := ⟨enters_of Tryz.func163 (by kernel_rfl) rfl⟩
instance : En Tryz.prog 164 := ⟨enters_of Tryz.func164 (by kernel_rfl) rfl⟩
instance : En Tryz.prog 166 := ⟨enters_of Tryz.func166 (by kernel_rfl) rfl⟩
instance : En Tryz.prog 167 := ⟨enters_of Tryz.func167 (by kernel_rfl) rfl⟩
instance : En Tryz.prog 168 := ⟨enters_of Tryz.func168 (by kernel_rfl) rfl⟩
instance : En Tryz.prog 169 := ⟨enters_of Tryz.func169 (by kernel_rfl) rfl⟩
instance : En Tryz.prog 170 := ⟨enters_of Tryz.func170 (by kernel_rfl) rfl⟩
instance : En Tryz.prog 171 := ⟨enters_of Tryz.func171 (by kernel_rfl) rfl⟩
instance : En Tryz.prog 172 := ⟨enters_of Tryz.func172 (by kernel_rfl) rfl⟩
instance : En Tryz.prog 173 := ⟨enters_of Tryz.func173 (by kernel_rfl) rfl⟩
instance : En Tryz.prog 174 := ⟨enters_of Tryz.func174 (by kernel_rfl) rfl⟩
instance : En Tryz.prog 175 := ⟨enters_of Tryz.func175 (by kernel_rfl) rfl⟩
instance : En Tryz.prog 177 := ⟨enters_of Tryz.func177 (by kernel_rfl) rfl⟩
instance : En Tryz.prog 186 := ⟨enters_of Tryz.func186 (by kernel_rfl) rfl⟩
instance : En Tryz.prog 190 := ⟨enters_of Tryz.func190 (by kernel_rfl) rfl⟩
instance : En Tryz.prog 192 := ⟨enters_of Tryz.func192 (by kernel_rfl) rfl⟩
instance : En Tryz.prog 198 := ⟨enters_of Tryz.func198 (by kernel_rfl) rfl⟩
instance : En Tryz.prog 200 := ⟨enters_of Tryz.func200 (by kernel_rfl) rfl⟩
instance : En Tryz.prog 201 := ⟨enters_of Tryz.func201 (by kernel_rfl) rfl⟩
instance : En Tryz.prog 202 := ⟨enters_of Tryz.func202 (by kernel_rfl) rfl⟩
instance : En Tryz.prog 203 := ⟨enters_of Tryz.func203 (by kernel_rfl) rfl⟩
instance : En Tryz.prog 204 := ⟨enters_of Tryz.func204 (by kernel_rfl) rfl⟩
instance : En Tryz.prog 205 := ⟨enters_of Tryz.func205 (by kernel_rfl) rfl⟩
instance : En Tryz.prog 208 := ⟨enters_of Tryz.func208 (by kernel_rfl) rfl⟩
instance : En Tryz.prog 209 := ⟨enters_of Tryz.func209 (by kernel_rfl) rfl⟩
instance : En Tryz.prog 210 := ⟨enters_of Tryz.func210 (by kernel_rfl) rfl⟩
instance : En Tryz.prog 211 := ⟨enters_of Tryz.func211 (by kernel_rfl) rfl⟩
instance : En Tryz.prog 214 := ⟨enters_of Tryz.func214 (by kernel_rfl) rfl⟩
instance : En Tryz.prog 215 := ⟨enters_of Tryz.func215 (by kernel_rfl) rfl⟩
instance : En Tryz.prog 228 := ⟨enters_of Tryz.func228 (by kernel_rfl) rfl⟩
instance : En Tryz.prog 230 := ⟨enters_of Tryz.func230 (by kernel_rfl) rfl⟩
instance : En Tryz.prog 231 := ⟨enters_of Tryz.func231 (by kernel_rfl) rfl⟩
instance : En Tryz.prog 235 := ⟨enters_of Tryz.func235 (by kernel_rfl) rfl⟩
instance : En Tryz.prog 236 := ⟨enters_of Tryz.func236 (by kernel_rfl) rfl⟩
instance : En Tryz.prog 237 := ⟨enters_of Tryz.func237 (by kernel_rfl) rfl⟩
instance : En Tryz.prog 238 := ⟨enters_of Tryz.func238 (by kernel_rfl) rfl⟩
instance : En Tryz.prog 239 := ⟨enters_of Tryz.func239 (by kernel_rfl) rfl⟩
instance : En Tryz.prog 240 := ⟨enters_of Tryz.func240 (by kernel_rfl) rfl⟩
instance : En Tryz.prog 241 := ⟨enters_of Tryz.func241 (by kernel_rfl) rfl⟩
instance : En Tryz.prog 242 := ⟨enters_of Tryz.func242 (by kernel_rfl) rfl⟩
instance : En Tryz.prog 243 := ⟨enters_of Tryz.func243 (by kernel_rfl) rfl⟩
instance : En Tryz.prog 267 := ⟨enters_of Tryz.func267 (by kernel_rfl) rfl⟩
instance : En Tryz.prog 268 := ⟨enters_of Tryz.func268 (by kernel_rfl) rfl⟩
instance : En Tryz.prog 269 := ⟨enters_of Tryz.func269 (by kernel_rfl) rfl⟩
instance : En Tryz.prog 270 := ⟨enters_of Tryz.func270 (by kernel_rfl) rfl⟩
instance : En Tryz.prog 271 := ⟨enters_of Tryz.func271 (by kernel_rfl) rfl⟩
instance : En Tryz.prog 272 := ⟨enters_of Tryz.func272 (by kernel_rfl) rfl⟩
instance : En Tryz.prog 277 := ⟨enters_of Tryz.func277 (by kernel_rfl) rfl⟩
instance : En Tryz.prog 278 := ⟨enters_of Tryz.func278 (by kernel_rfl) rfl⟩
instance : En Tryz.prog 287 := ⟨enters_of Tryz.func287 (by kernel_rfl) rfl⟩
instance : En Tryz.prog 288 := ⟨enters_of Tryz.func288 (by kernel_rfl) rfl⟩
instance : En Tryz.prog 289 := ⟨enters_of Tryz.func289 (by kernel_rfl) rfl⟩
instance : En Tryz.prog 290 := ⟨enters_of Tryz.func290 (by kernel_rfl) rfl⟩
instance : En Tryz.prog 291 := ⟨enters_of Tryz.func291 (by kernel_rfl) rfl⟩
instance : En Tryz.prog 295 := ⟨enters_of Tryz.func295 (by kernel_rfl) rfl⟩
theorem beql4 (i j : Bool) : ∀ w, (binOp .eql 4 (.bool i) (.bool j)).run Tryz.prog w = .ok (.bool (i == j)) w := fun _ => by cases i <;> cases j <;> kernel_rfl
theorem bneq4 (i j : Bool) : ∀ w, (binOp .neq 4 (.bool i) (.bool j)).run Tryz.prog w = .ok (.bool (i != j)) w := fun _ => by cases i <;> cases j <;> kernel_rfl
instance : Mixed Tryz.prog := ⟨by kernel_rfl⟩
theorem gt40 : Tryz.prog.eqGuardType Tryz.prog.depth 40 = false := by kernel_rfl
theorem eq40 (a0 a1 b0 b1 : Int) (w : World) : (Op.equal 40 (.agg #[.int .i64 a0, .int .i64 a1]) (.agg #[.int .i64 b0, .int .i64 b1])).run Tryz.prog w = .ok (a0 == b0 && a1 == b1) w := ef_of Tryz.underlying40 (by kernel_rfl) (ef_cons (by rfl) (by go_simp; rfl) (by go_simp; rfl) (by go_simp) (ef_last (by rfl) (by go_simp; rfl) (by go_simp; rfl) (by go_simp)))
theorem eqs40 (a b : BS.Sp) (w : World) : (Op.equal 40 (.agg (encSp a).toArray) (.agg (encSp b).toArray)).run Tryz.prog w = .ok (decide (a = b)) w := by
  refine (eq40 a.lo a.hi b.lo b.hi w).trans ?_
  congr 1
  cases a; cases b
  rw [Bool.eq_iff_iff]
  simp
instance : El Tryz.prog 22 31 3 24 (.agg #[.int .i64 0, .int .i64 0, .int .i64 0]) := ⟨Tryz.underlying22, by kernel_rfl, by rfl, by decide⟩
instance : El Tryz.prog 23 92 2 16 (.agg #[.int .i64 0, .int .i64 0]) := ⟨Tryz.underlying23, by kernel_rfl, by rfl, by decide⟩
instance : El Tryz.prog 24 85 4 32 (.agg #[.int .i64 0, .int .i64 0, .int .i64 0, .int .i64 0]) := ⟨Tryz.underlying24, by kernel_rfl, by rfl, by decide⟩
instance : El Tryz.prog 25 42 9 72 (.agg #[.int .i64 0, .int .i64 0, .bool false, .int .i64 0, .int .i64 0, .int .i64 0, .int .i64 0, .int .i64 0, .int .i64 0]) := ⟨Tryz.underlying25, by kernel_rfl, by rfl, by decide⟩
instance : El Tryz.prog 51 3 1 8 (.int .i64 0) := ⟨Tryz.underlying51, by kernel_rfl, by rfl, by decide⟩
instance : El Tryz.prog 53 51 1 24 (.slice none 0 0) := ⟨Tryz.underlying53, by kernel_rfl, by rfl, by decide⟩
instance : El Tryz.prog 82 87 2 16 (.agg #[.int .i64 0, .int .i64 0]) := ⟨Tryz.underlying82, by kernel_rfl, by rfl, by decide⟩
instance : El Tryz.prog 195 237 1 8 (.pointer none) := ⟨Tryz.underlying195, by kernel_rfl, by rfl, by decide⟩
instance : El Tryz.prog 234 5 1 1 (.int .u8 0) := ⟨Tryz.underlying234, by kernel_rfl, by rfl, by decide⟩
instance : El Tryz.prog 239 281 4 96 (.agg #[.slice none 0 0, .slice none 0 0, .slice none 0 0, .slice none 0 0]) := ⟨Tryz.underlying239, by kernel_rfl, by rfl, by decide⟩
instance : Kd Tryz.prog 3 mkI := kd_int Tryz.underlying3
instance : Mp Tryz.prog 124 3 4 := ⟨Tryz.underlying124⟩
instance : Mp Tryz.prog 210 3 31 := ⟨Tryz.underlying210⟩
instance : Mp Tryz.prog 129 9 4 := ⟨Tryz.underlying129⟩
instance : Kd Tryz.prog 9 mkS := kd_str Tryz.underlying9
instance : Arr Tryz.prog 326 4 87 2 := ⟨Tryz.underlying326, Tryz.isAgg87, Tryz.sizeOf87⟩
end Go.Proofs.YtoakoffdjeleoaaGreat
end
section
set_option maxRecDepth 4000
set_option maxHeartbeats 4000000
namespace Go.Proofs.YtoakoffdjeleoaaGreat
open Go.RowKit Go.Shelf
theorem within_cv {H : Gh} (n lo hi : Int) : Cv Tryz.prog 190 [.int .i64 n, .int .i64 lo, .int .i64 hi] H fun u_ => u_ = .bool (BS.within n lo hi) := by
 refine cv_of Tryz.func190 rfl Tryz.ntmps190 rfl fun w0 hw => ?_;refine c_seq<|c_region ?_;refine la ?_;refine l_end<|x_next<|c_seq<|c_region ?_;refine lm ?_;refine lm ?_;refine lleq ?_;refine lm ?_;refine l_v (p_move (by exact .yes rfl rfl) (by exact e1 rfl)) ?_;refine l_v (p_move (by exact .yes rfl rfl) (by exact e1 rfl)) ?_;refine l_v (p_bin (by exact .yes rfl rfl) (by exact e2 rfl) (by exact e2 rfl) (fun _ => r_leq _ _ _ _)) ?_;refine l_v (p_and (by rfl) (by rfl)) ?_;refine la ?_;refine l_end<|x_next ?_;refine c_ret ?_;refine x_ret (vs := [.bool (decide (lo ≤ n) && decide (n ≤ hi))]) rfl ⟨rfl, trivial⟩ ?_;rfl
theorem span_cv {H : Gh} (a : BS.Sp) (lo hi : Int) : Cv Tryz.prog 198 [.agg (encSp a).toArray, .int .i64 lo, .int .i64 hi] H fun u_ => u_ = .bool (BS.spanIn a lo hi) := by
 refine cv_of Tryz.func198 rfl Tryz.ntmps198 rfl fun w0 hw => ?_;refine c_seq<|c_region ?_;refine lbx (encSp a) (fun m1 hm2 => ?_);refine la ?_;refine l_end<|x_next<|c_seq<|c_region ?_;refine lm ?_;refine lf ?_;refine ll 0 ?_;refine lleq ?_;refine lm ?_;refine l_v (p_field (by exact .yes rfl rfl) (by exact e1 rfl)) ?_;refine l_v (p_load 0 (by exact .yes rfl rfl) (by exact e2 rfl)) ?_;refine l_v (p_field (by exact .yes rfl rfl) (by exact e1 rfl)) ?_;refine l_v (p_load 0 (by exact .yes rfl rfl) (by exact e2 rfl)) ?_;refine l_v (p_bin (by exact .yes rfl rfl) (by exact e2 rfl) (by exact e2 rfl) (fun _ => r_leq _ _ _ _)) ?_;refine l_v (p_and (by rfl) (by rfl)) ?_;refine lm ?_;refine l_v (p_field (by exact .yes rfl rfl) (by exact e1 rfl)) ?_;refine l_v (p_load 0 (by exact .yes rfl rfl) (by exact e2 rfl)) ?_;refine l_v (p_move (by exact .yes rfl rfl) (by exact e1 rfl)) ?_;refine l_v (p_bin (by exact .yes rfl rfl) (by exact e2 rfl) (by exact e2 rfl) (fun _ => r_leq _ _ _ _)) ?_
 refine l_v (p_and (by rfl) (by rfl)) ?_;refine la ?_;refine l_end<|x_next ?_;refine c_ret ?_;refine x_ret (vs := [.bool ((decide (lo ≤ a.lo) && decide (a.lo ≤ a.hi)) && decide (a.hi ≤ hi))]) rfl ⟨rfl, trivial⟩ ?_;rfl
theorem valid_cv {H : Gh} (b : BS.Bx) : Cv Tryz.prog 145 [.agg (encBx b).toArray] H fun u_ => u_ = .bool (BS.validB b) := by
 refine cv_of Tryz.func145 rfl Tryz.ntmps145 rfl fun w0 hw => ?_;refine c_seq<|c_region ?_;refine lbx (encBx b) (fun m1 hm2 => ?_);refine la ?_;refine l_end<|x_next<|c_seq<|c_region ?_;refine lf ?_;refine lk 0 (encSp b.x) ?_;refine lcl (span_cv b.x (-1048576) 1048576) ?_;refine lm ?_;refine l_v (p_field (by exact .yes rfl rfl) (by exact e1 rfl)) ?_;refine l_v (p_loadK 0 (encSp b.y) (by exact .yes rfl rfl) (by exact e2 rfl)) ?_;refine l_x (x_calle (vs := [.agg (encSp b.y).toArray, .int .i64 (-1048576), .int .i64 1048576]) (by exact .yes rfl rfl) ⟨(by exact e2 rfl), (by exact e1 rfl), (by exact e1 rfl), trivial⟩ (fun hb => span_cv b.y (-1048576) 1048576) (k := ?_));refine l_v (p_and (by rfl) (by rfl)) ?_;refine la ?_;refine l_end<|x_next ?_;refine c_ret ?_;refine x_ret (vs := [.bool ((BS.spanIn b.x (-1048576) 1048576) && (BS.spanIn b.y (-1048576) 1048576))]) rfl ⟨rfl, trivial⟩ ?_;rfl
theorem size_cv {H : Gh} (a : BS.Sp) (ha : -4000000 ≤ a.lo ∧ a.lo ≤ 4000000 ∧ -4000000 ≤ a.hi ∧ a.hi ≤ 4000000) : Cv Tryz.prog 146 [.agg (encSp a).toArray] H fun u_ => u_ = .int .i64 (BS.spanSize a) := by
 refine cv_of Tryz.func146 rfl Tryz.ntmps146 rfl fun w0 hw => ?_;refine c_seq<|c_region ?_;refine lbx (encSp a) (fun m1 hm2 => ?_);refine la ?_;refine l_end<|x_next<|c_seq<|c_region ?_;refine lf ?_;refine ll 0 ?_;refine lf ?_;refine ll 0 ?_;refine lsub ?_;refine ladd ?_;refine la ?_;refine l_end<|x_next ?_;refine c_ret ?_;refine x_ret (vs := [.int .i64 (a.hi - a.lo + 1)]) rfl ⟨rfl, trivial⟩ ?_;rfl
theorem formed_cv {H : Gh} (f : BS.Fc) (n : Int) (hn : 0 ≤ n ∧ n ≤ 1000000) : Cv Tryz.prog 147 [.agg (encFc f).toArray, .int .i64 n] H fun u_ => u_ = .bool (BS.formedB f n) := by
 refine cv_of Tryz.func147 rfl Tryz.ntmps147 rfl fun w0 hw => ?_;refine c_seq<|c_region ?_;refine lbx (encFc f) (fun m1 hm2 => ?_);refine la ?_;refine l_end<|x_next<|c_seq<|c_seq<|c_region ?_;refine lf ?_;refine ll 0 ?_;refine lcl (within_cv f.id 0 1099511627776) ?_;refine lnot ?_;refine lm ?_;refine l_v (p_field (by exact .not rfl rfl) (by exact e1 rfl)) ?_;refine l_v (p_load 0 (by exact .not rfl rfl) (by exact e2 rfl)) ?_;refine l_v (p_move (by exact .not rfl rfl) (by exact e1 rfl)) ?_;refine l_v (p_bin (by exact .not rfl rfl) (by exact e2 rfl) (by exact e1 rfl) (fun hb => r_sub _ (by simp only [bps] at hb; omega))) ?_;refine l_x (x_calle (vs := [.int .i64 f.a, .int .i64 0, .int .i64 (n - 1)]) (by exact .not rfl rfl) ⟨(by exact e2 rfl), (by exact e1 rfl), (by exact e2 rfl), trivial⟩ (fun hb => within_cv f.a 0 (n - 1)) (k := ?_));refine l_v (p_not (by exact .not rfl rfl) (by exact e2 rfl)) ?_
 refine l_v (p_or (by rfl) (by rfl)) ?_;refine lm ?_;refine l_v (p_field (by exact .not rfl rfl) (by exact e1 rfl)) ?_;refine l_v (p_load 0 (by exact .not rfl rfl) (by exact e2 rfl)) ?_;refine l_v (p_move (by exact .not rfl rfl) (by exact e1 rfl)) ?_;refine l_v (p_bin (by exact .not rfl rfl) (by exact e2 rfl) (by exact e1 rfl) (fun hb => r_sub _ (by simp only [bps] at hb; omega))) ?_;refine l_x (x_calle (vs := [.int .i64 f.b, .int .i64 0, .int .i64 (n - 1)]) (by exact .not rfl rfl) ⟨(by exact e2 rfl), (by exact e1 rfl), (by exact e2 rfl), trivial⟩ (fun hb => within_cv f.b 0 (n - 1)) (k := ?_));refine l_v (p_not (by exact .not rfl rfl) (by exact e2 rfl)) ?_;refine l_v (p_or (by rfl) (by rfl)) ?_;refine lm ?_;refine l_v (p_field (by exact .not rfl rfl) (by exact e1 rfl)) ?_;refine l_v (p_load 0 (by exact .not rfl rfl) (by exact e2 rfl)) ?_;refine l_v (p_field (by exact .not rfl rfl) (by exact e1 rfl)) ?_
 refine l_v (p_load 0 (by exact .not rfl rfl) (by exact e2 rfl)) ?_;refine l_v (p_bin (by exact .not rfl rfl) (by exact e2 rfl) (by exact e2 rfl) (fun _ => r_eql _ _ _ _)) ?_;refine l_v (p_or (by rfl) (by rfl)) ?_;refine lm ?_;refine l_v (p_field (by exact .not rfl rfl) (by exact e1 rfl)) ?_;refine l_v (p_loadK 0 (encSp f.span) (by exact .not rfl rfl) (by exact e2 rfl)) ?_;refine l_x (x_calle (vs := [.agg (encSp f.span).toArray, .int .i64 (-17592186044416), .int .i64 17592186044416]) (by exact .not rfl rfl) ⟨(by exact e2 rfl), (by exact e1 rfl), (by exact e1 rfl), trivial⟩ (fun hb => span_cv f.span (-17592186044416) 17592186044416) (k := ?_));refine l_v (p_not (by exact .not rfl rfl) (by exact e2 rfl)) ?_;refine l_v (p_or (by rfl) (by rfl)) ?_;refine l_end<|x_next ?_;refine c_if (by rfl) (fun h3 => ?_) (fun h3 => ?_)
 ·have h3' := h3;(try simp only [bps] at h3);refine c_seq<|c_region ?_;refine la ?_;refine l_end<|x_next ?_;refine c_ret ?_;refine x_tr ?_;refine x_ret (vs := [.bool false]) rfl ⟨rfl, trivial⟩ ?_;simp [oneOf, BS.formedB, h3', h3]
 ·have h3' := h3;(try simp only [bps] at h3);refine c_skip ?_;refine x_next<|c_seq<|c_seq<|c_region ?_;refine lf ?_;refine ll 0 ?_;refine leql ?_;refine l_end<|x_next ?_;refine c_if (by rfl) (fun h4 => ?_) (fun h4 => ?_)
  ·have h4' := h4;(try simp only [bps] at h4);refine c_seq<|c_region ?_;refine lf ?_;refine ll 0 ?_;refine lm ?_;refine lsub ?_;refine lcl (within_cv f.c 0 (n - 1)) ?_;refine lm ?_;refine l_v (p_field (by exact .yes rfl rfl) (by exact e1 rfl)) ?_;refine l_v (p_load 0 (by exact .yes rfl rfl) (by exact e2 rfl)) ?_;refine l_v (p_field (by exact .yes rfl rfl) (by exact e1 rfl)) ?_;refine l_v (p_load 0 (by exact .yes rfl rfl) (by exact e2 rfl)) ?_;refine l_v (p_bin (by exact .yes rfl rfl) (by exact e2 rfl) (by exact e2 rfl) (fun _ => r_neq _ _ _ _)) ?_;refine l_v (p_and (by rfl) (by rfl)) ?_;refine lm ?_;refine l_v (p_field (by exact .yes rfl rfl) (by exact e1 rfl)) ?_;refine l_v (p_load 0 (by exact .yes rfl rfl) (by exact e2 rfl)) ?_;refine l_v (p_field (by exact .yes rfl rfl) (by exact e1 rfl)) ?_;refine l_v (p_load 0 (by exact .yes rfl rfl) (by exact e2 rfl)) ?_;refine l_v (p_bin (by exact .yes rfl rfl) (by exact e2 rfl) (by exact e2 rfl) (fun _ => r_neq _ _ _ _)) ?_
   refine l_v (p_and (by rfl) (by rfl)) ?_;refine lm ?_;refine l_v (p_field (by exact .yes rfl rfl) (by exact e1 rfl)) ?_;refine l_v (p_load 0 (by exact .yes rfl rfl) (by exact e2 rfl)) ?_;refine l_v (p_bin (by exact .yes rfl rfl) (by exact e2 rfl) (by exact e1 rfl) (fun _ => r_eql _ _ _ _)) ?_;refine l_v (p_and (by rfl) (by rfl)) ?_;refine la ?_;refine l_end<|x_next ?_;refine c_ret ?_;refine x_tr ?_;refine x_ret (vs := [.bool ((((BS.within f.c 0 (n - 1)) && decide (f.c ≠ f.a)) && decide (f.c ≠ f.b)) && decide (f.quarter = 0))]) rfl ⟨rfl, trivial⟩ ?_;simp [oneOf, BS.formedB, h3', h4', h3, h4]
  ·have h4' := h4;(try simp only [bps] at h4);refine c_skip ?_;refine x_next<|c_seq<|c_seq<|c_region ?_;refine lf ?_;refine ll 0 ?_;refine lneq ?_;refine l_end<|x_next ?_;refine c_if (by rfl) (fun h5 => ?_) (fun h5 => ?_)
   ·have h5' := h5;(try simp only [bps] at h5);refine c_seq<|c_region ?_;refine la ?_;refine l_end<|x_next ?_;refine c_ret ?_;refine x_tr ?_;refine x_ret (vs := [.bool false]) rfl ⟨rfl, trivial⟩ ?_;simp [oneOf, BS.formedB, h3', h4', h5', h3, h4, h5]
   ·have h5' := h5;(try simp only [bps] at h5);refine c_skip ?_;refine x_next<|c_seq<|c_seq<|c_region ?_;refine lf ?_;refine ll 0 ?_;refine l_end<|x_next<|c_block<|c_seq<|c_seq<|c_region ?_;refine leql ?_;refine la ?_;refine l_end<|x_next ?_;refine c_if (by rfl) (fun h6 => ?_) (fun h6 => ?_)
    ·have h6' := h6;(try simp only [bps] at h6);refine c_skip ?_;refine x_next ?_;refine c_if (by rfl) (fun h7 => ?_) (fun h7 => ?_)
     ·have h7' := h7;(try simp only [bps] at h7);refine c_seq<|c_region ?_;refine lf ?_;refine ll 0 ?_;refine leql ?_;refine la ?_;refine l_end<|x_next ?_;refine c_ret ?_;refine x_br ?_;refine x_tr ?_;refine x_ret (vs := [.bool (decide (f.quarter = 0))]) rfl ⟨rfl, trivial⟩ ?_;simp [oneOf, BS.formedB, h3', h4', h5', h6', h7', h3, h4, h5, h6, h7]
     ·have h7' := h7;(try simp only [bps] at h7);exfalso
      first | omega | (simp_all; done)
    ·have h6' := h6;(try simp only [bps] at h6);refine c_seq<|c_region ?_;refine leql ?_;refine la ?_;refine l_end<|x_next ?_;refine c_if (by rfl) (fun h8 => ?_) (fun h8 => ?_)
     ·have h8' := h8;(try simp only [bps] at h8);refine c_skip ?_;refine x_next ?_;refine c_if (by rfl) (fun h9 => ?_) (fun h9 => ?_)
      ·have h9' := h9;(try simp only [bps] at h9);refine c_seq<|c_region ?_;refine lf ?_;refine ll 0 ?_;refine leql ?_;refine la ?_;refine l_end<|x_next ?_;refine c_ret ?_;refine x_br ?_;refine x_tr ?_;refine x_ret (vs := [.bool (decide (f.quarter = 0))]) rfl ⟨rfl, trivial⟩ ?_;simp [oneOf, BS.formedB, h3', h4', h5', h6', h8', h9', h3, h4, h5, h6, h8, h9]
      ·have h9' := h9;(try simp only [bps] at h9);exfalso
       first | omega | (simp_all; done)
     ·have h8' := h8;(try simp only [bps] at h8);refine c_region ?_;refine leql ?_;refine la ?_;refine l_end<|x_next ?_;refine c_if (by rfl) (fun h10 => ?_) (fun h10 => ?_)
      ·have h10' := h10;(try simp only [bps] at h10);refine c_seq<|c_region ?_;refine lf ?_;refine ll 0 ?_;refine leql ?_;refine la ?_;refine l_end<|x_next ?_;refine c_ret ?_;refine x_br ?_;refine x_tr ?_;refine x_ret (vs := [.bool (decide (f.quarter = 0))]) rfl ⟨rfl, trivial⟩ ?_;simp [oneOf, BS.formedB, h3', h4', h5', h6', h8', h10', h3, h4, h5, h6, h8, h10]
      ·have h10' := h10;(try simp only [bps] at h10);refine c_seq<|c_region ?_;refine leql ?_;refine la ?_;refine l_end<|x_next ?_;refine c_if (by rfl) (fun h11 => ?_) (fun h11 => ?_)
       ·have h11' := h11;(try simp only [bps] at h11);refine c_seq<|c_region ?_;refine lf ?_;refine ll 0 ?_;refine leql ?_;refine lm ?_;refine l_v (p_field (by exact .yes rfl rfl) (by exact e1 rfl)) ?_;refine l_v (p_field (by exact .yes rfl rfl) (by exact e2 rfl)) ?_;refine l_v (p_load 0 (by exact .yes rfl rfl) (by exact e2 rfl)) ?_;refine l_v (p_bin (by exact .yes rfl rfl) (by exact e2 rfl) (by exact e1 rfl) (fun _ => r_eql _ _ _ _)) ?_;refine l_v (p_and (by rfl) (by rfl)) ?_;refine la ?_;refine l_end<|x_next ?_;refine c_ret ?_;refine x_br ?_;refine x_tr ?_;refine x_ret (vs := [.bool (decide (f.quarter = 0) && decide (f.span.lo = 0))]) rfl ⟨rfl, trivial⟩ ?_;simp [oneOf, BS.formedB, h3', h4', h5', h6', h8', h10', h11', h3, h4, h5, h6, h8, h10, h11]
       ·have h11' := h11;(try simp only [bps] at h11);refine c_seq<|c_region ?_;refine leql ?_;refine la ?_;refine l_end<|x_next ?_;refine c_if (by rfl) (fun h12 => ?_) (fun h12 => ?_)
        ·have h12' := h12;(try simp only [bps] at h12);refine c_seq<|c_region ?_;refine lf ?_;refine ll 0 ?_;refine lcl (within_cv f.quarter 0 3) ?_;refine lm ?_;refine l_v (p_field (by exact .yes rfl rfl) (by exact e1 rfl)) ?_;refine l_v (p_loadK 0 (encSp f.span) (by exact .yes rfl rfl) (by exact e2 rfl)) ?_;refine l_v (p_build (v := .agg (encSp ⟨0, 0⟩).toArray) [] (by exact .yes rfl rfl) (fun _ hf hb => ps_nil) (fun _ => by kernel_rfl)) ?_;refine l_v (p_eql (fun w => eqs40 (f.span) (⟨0, 0⟩) w) gt40 (by exact .yes rfl rfl) (by exact e2 rfl) (by exact e2 rfl)) ?_;refine l_v (p_and (by rfl) (by rfl)) ?_;refine la ?_;refine l_end<|x_next ?_;refine c_ret ?_;refine x_br ?_;refine x_tr ?_;refine x_ret (vs := [.bool ((BS.within f.quarter 0 3) && decide (f.span = ⟨0, 0⟩))]) rfl ⟨rfl, trivial⟩ ?_;simp [oneOf, BS.formedB, h3', h4', h5', h6', h8', h10', h11', h12', h3, h4, h5, h6, h8, h10, h11, h12]
        ·have h12' := h12;(try simp only [bps] at h12);refine c_skip ?_;refine x_bn ?_;refine x_next<|c_seq<|c_region ?_;refine la ?_;refine l_end<|x_next ?_;refine c_ret ?_;refine x_ret (vs := [.bool false]) rfl ⟨rfl, trivial⟩ ?_;simp [oneOf, BS.formedB, h3', h4', h5', h6', h8', h10', h11', h12', h3, h4, h5, h6, h8, h10, h11, h12]
theorem less_cv {H : Gh} (a b : BS.Sp) (ha : BS.OkSp a) (hb : BS.OkSp b) : Cv Tryz.prog 295 [.agg (encSp a).toArray, .agg (encSp b).toArray] H fun u_ => u_ = .agg (encSp (BS.less a b)).toArray := by
 obtain ⟨ha1, ha2, ha3, ha4⟩ := ha;obtain ⟨hb1, hb2, hb3, hb4⟩ := hb;refine cv_of Tryz.func295 rfl Tryz.ntmps295 rfl fun w0 hw => ?_;refine c_seq<|c_region ?_;refine lbx (encSp a) (fun m1 hm2 => ?_);refine lbx (encSp b) (fun m3 hm4 => ?_);refine lal (fun m5 hm6 => ?_);refine l_end<|x_next<|c_seq<|c_region ?_;refine lf ?_;refine ll 2 ?_;refine lf ?_;refine ll 1 ?_;refine lsub ?_;refine lf ?_;refine ll 2 ?_;refine lf ?_;refine ll 1 ?_;refine lsub ?_;refine lbd (v := .agg (encSp ⟨a.lo - b.hi, a.hi - b.lo⟩).toArray) [(0, .int .i64 (a.lo - b.hi)), (1, .int .i64 (a.hi - b.lo))] ?_ (fun _ => by kernel_rfl) (by simp [ev, eget, Nat.beq]);refine lst 0 (encSp ⟨a.lo - b.hi, a.hi - b.lo⟩) (encSp ⟨a.lo - b.hi, a.hi - b.lo⟩) ?_;refine l_end<|x_next ?_;refine c_ret ?_;refine x_ret (vs := [.agg (encSp ⟨a.lo - b.hi, a.hi - b.lo⟩).toArray]) rfl ⟨rv_cell 0 (encSp ⟨a.lo - b.hi, a.hi - b.lo⟩), trivial⟩ ?_;rfl
theorem amount_cv {H : Gh} (a : BS.Sp) (ha : BS.OkSp a) : Cv Tryz.prog 288 [.agg (encSp a).toArray] H fun u_ => u_ = .agg (encSp (BS.amount a)).toArray := by
 obtain ⟨ha1, ha2, ha3, ha4⟩ := ha;refine cv_of Tryz.func288 rfl Tryz.ntmps288 rfl fun w0 hw => ?_;refine c_seq<|c_region ?_;refine lbx (encSp a) (fun m1 hm2 => ?_);refine lal (fun m3 hm4 => ?_);refine l_end<|x_next<|c_seq<|c_block<|c_seq<|c_region ?_;refine lf ?_;refine ll 1 ?_;refine lgeq ?_;refine la ?_;refine l_end<|x_next ?_;refine c_if (by rfl) (fun h5 => ?_) (fun h5 => ?_)
 ·have h5' := h5;(try simp only [bps] at h5);refine c_seq<|c_region ?_;refine lk 1 (encSp a) ?_;refine lst 0 (encSp a) (encSp a) ?_;refine l_end<|x_next ?_;refine c_ret ?_;refine x_br ?_;refine x_tr ?_;refine x_ret (vs := [.agg (encSp a).toArray]) rfl ⟨rv_cell 0 (encSp a), trivial⟩ ?_;show Value.agg _ = _;unfold BS.amount
  repeat' split
  all_goals first | rfl | omega
 ·have h5' := h5;(try simp only [bps] at h5);refine c_seq<|c_region ?_;refine lf ?_;refine ll 1 ?_;refine lleq ?_;refine la ?_;refine l_end<|x_next ?_;refine c_if (by rfl) (fun h6 => ?_) (fun h6 => ?_)
  ·have h6' := h6;(try simp only [bps] at h6);refine c_seq<|c_region ?_;refine lf ?_;refine ll 1 ?_;refine lneg ?_;refine lf ?_;refine ll 1 ?_;refine lneg ?_;refine lbd (v := .agg (encSp ⟨-a.hi, -a.lo⟩).toArray) [(0, .int .i64 (-a.hi)), (1, .int .i64 (-a.lo))] ?_ (fun _ => by kernel_rfl) (by simp [ev, eget, Nat.beq]);refine lst 0 (encSp ⟨-a.hi, -a.lo⟩) (encSp ⟨-a.hi, -a.lo⟩) ?_;refine l_end<|x_next ?_;refine c_ret ?_;refine x_br ?_;refine x_tr ?_;refine x_ret (vs := [.agg (encSp ⟨-a.hi, -a.lo⟩).toArray]) rfl ⟨rv_cell 0 (encSp ⟨-a.hi, -a.lo⟩), trivial⟩ ?_;show Value.agg _ = _;unfold BS.amount
   repeat' split
   all_goals first | rfl | omega
  ·have h6' := h6;(try simp only [bps] at h6);refine c_skip ?_;refine x_bn ?_;refine x_next<|c_seq<|c_region ?_;refine lf ?_;refine ll 1 ?_;refine lneg ?_;refine lf ?_;refine ll 1 ?_;refine lmax ?_;refine lbd (v := .agg (encSp ⟨0, max (-a.lo) a.hi⟩).toArray) [(0, .int .i64 0), (1, .int .i64 (max (-a.lo) a.hi))] ?_ (fun _ => by kernel_rfl) (by simp [ev, eget, Nat.beq]);refine lst 0 (encSp ⟨0, max (-a.lo) a.hi⟩) (encSp ⟨0, max (-a.lo) a.hi⟩) ?_;refine l_end<|x_next ?_;refine c_ret ?_;refine x_ret (vs := [.agg (encSp ⟨0, max (-a.lo) a.hi⟩).toArray]) rfl ⟨rv_cell 0 (encSp ⟨0, max (-a.lo) a.hi⟩), trivial⟩ ?_;show Value.agg _ = _;unfold BS.amount
   repeat' split
   all_goals first | rfl | omega
end Go.Proofs.YtoakoffdjeleoaaGreat
end
section
set_option maxRecDepth 4000
set_option maxHeartbeats 4000000
namespace Go.Proofs.YtoakoffdjeleoaaGreat
open Go.RowKit Go.Shelf
theorem valued_cv {H : Gh} {A : Option Addr} {c : Nat} (f : BS.Fc) (l : List BS.Bx) (hl : GRow H A c encBx 4 l) (v : BS.Sp) : Cv Tryz.prog 289 [.agg [.int .i64 f.id, .int .i64 f.kind, .bool f.neg, .int .i64 f.a, .int .i64 f.b, .int .i64 f.c, .int .i64 f.span.lo, .int .i64 f.span.hi, .int .i64 f.quarter, .slice A l.length c].toArray, .agg (encSp v).toArray] H fun u_ => u_ = .tuple #[.bool (BS.valued f.span v).1, .bool (BS.valued f.span v).2] := by
 refine cv_of Tryz.func289 rfl Tryz.ntmps289 rfl fun w0 hw => ?_;refine c_seq<|c_region ?_;refine lbx ([.int .i64 f.id, .int .i64 f.kind, .bool f.neg, .int .i64 f.a, .int .i64 f.b, .int .i64 f.c, .int .i64 f.span.lo, .int .i64 f.span.hi, .int .i64 f.quarter, .slice A l.length c]) (fun m1 hm2 => ?_);refine lbx (encSp v) (fun m3 hm4 => ?_);refine la ?_;refine la ?_;refine l_end<|x_next<|c_seq ?_;refine c_draw [(9999, m3, .cells (encSp v).toArray 40 (0, 0)), (9999, m1, .cells ([.int .i64 f.id, .int .i64 f.kind, .bool f.neg, .int .i64 f.a, .int .i64 f.b, .int .i64 f.c, .int .i64 f.span.lo, .int .i64 f.span.hi, .int .i64 f.quarter, .slice A l.length c]).toArray 309 (0, 0))] H ?_;refine a_v 0 rfl [] (p_field .no (by exact e1 rfl)) (inM_at 0 (inM_at 1 inM_nil)) te0 ?_;refine a_l 1 rfl 0 (p_load 0 .no (by exact e1 rfl)) (inM_at 0 (inM_at 1 inM_nil)) te0 ?_;refine a_v 2 rfl [] (p_field .no (by exact e1 rfl)) (inM_at 0 (inM_at 1 inM_nil)) te0 ?_
 refine a_v 3 rfl [] (p_field .no (by exact e1 rfl)) (inM_at 0 (inM_at 1 inM_nil)) te0 ?_;refine a_v 4 rfl [] (p_field .no (by exact e1 rfl)) (inM_at 0 (inM_at 1 inM_nil)) te0 ?_;refine a_l 5 rfl 1 (p_load 0 .no (by exact e1 rfl)) (inM_at 0 (inM_at 1 inM_nil)) te0 ?_;refine a_v 6 rfl [] (p_bin .no (by exact e1 rfl) (by exact e1 rfl) (fun _ => r_leq _ _ _ _)) (inM_at 0 (inM_at 1 inM_nil)) te0 ?_;refine a_v 7 rfl [] (p_move .no (by exact e1 rfl)) (inM_at 0 (inM_at 1 inM_nil)) te0 ?_;refine a_v 8 rfl [] (p_field (by exact .yes rfl rfl) (by exact e1 rfl)) (inM_at 0 (inM_at 1 inM_nil)) te0 ?_;refine a_v 9 rfl [] (p_field (by exact .yes rfl rfl) (by exact e2 rfl)) (inM_at 0 (inM_at 1 inM_nil)) te0 ?_;refine a_v 10 rfl [] (p_field (by exact .yes rfl rfl) (by exact e2 rfl)) (inM_at 0 (inM_at 1 inM_nil)) te0 ?_;refine a_l 11 rfl 1 (p_load 0 (by exact .yes rfl rfl) (by exact e2 rfl)) (inM_at 0 (inM_at 1 inM_nil)) te0 ?_
 refine a_v 12 rfl [] (p_field (by exact .yes rfl rfl) (by exact e1 rfl)) (inM_at 0 (inM_at 1 inM_nil)) te0 ?_;refine a_l 13 rfl 0 (p_load 0 (by exact .yes rfl rfl) (by exact e2 rfl)) (inM_at 0 (inM_at 1 inM_nil)) te0 ?_;refine a_v 14 rfl [] (p_bin (by exact .yes rfl rfl) (by exact e2 rfl) (by exact e2 rfl) (fun _ => r_leq _ _ _ _)) (inM_at 0 (inM_at 1 inM_nil)) te0 ?_;refine a_v 15 rfl [] (p_and (by rfl) (by rfl)) (inM_at 0 (inM_at 1 inM_nil)) te0 ?_;refine a_v 16 rfl [] (p_field .no (by exact e1 rfl)) (inM_at 0 (inM_at 1 inM_nil)) te0 ?_;refine a_v 17 rfl [] (p_field .no (by exact e1 rfl)) (inM_at 0 (inM_at 1 inM_nil)) te0 ?_;refine a_v 18 rfl [] (p_field .no (by exact e1 rfl)) (inM_at 0 (inM_at 1 inM_nil)) te0 ?_;refine a_l 19 rfl 1 (p_load 0 .no (by exact e1 rfl)) (inM_at 0 (inM_at 1 inM_nil)) te0 ?_;refine a_v 20 rfl [] (p_field .no (by exact e1 rfl)) (inM_at 0 (inM_at 1 inM_nil)) te0 ?_
 refine a_l 21 rfl 0 (p_load 0 .no (by exact e1 rfl)) (inM_at 0 (inM_at 1 inM_nil)) te0 ?_;refine a_v 22 rfl [] (p_bin .no (by exact e1 rfl) (by exact e1 rfl) (fun _ => r_leq _ _ _ _)) (inM_at 0 (inM_at 1 inM_nil)) te0 ?_;refine a_v 23 rfl [] (p_move .no (by exact e1 rfl)) (inM_at 0 (inM_at 1 inM_nil)) te0 ?_;refine a_v 24 rfl [] (p_field (by exact .yes rfl rfl) (by exact e1 rfl)) (inM_at 0 (inM_at 1 inM_nil)) te0 ?_;refine a_l 25 rfl 0 (p_load 0 (by exact .yes rfl rfl) (by exact e2 rfl)) (inM_at 0 (inM_at 1 inM_nil)) te0 ?_;refine a_v 26 rfl [] (p_field (by exact .yes rfl rfl) (by exact e1 rfl)) (inM_at 0 (inM_at 1 inM_nil)) te0 ?_;refine a_v 27 rfl [] (p_field (by exact .yes rfl rfl) (by exact e2 rfl)) (inM_at 0 (inM_at 1 inM_nil)) te0 ?_;refine a_v 28 rfl [] (p_field (by exact .yes rfl rfl) (by exact e2 rfl)) (inM_at 0 (inM_at 1 inM_nil)) te0 ?_;refine a_l 29 rfl 1 (p_load 0 (by exact .yes rfl rfl) (by exact e2 rfl)) (inM_at 0 (inM_at 1 inM_nil)) te0 ?_
 refine a_v 30 rfl [] (p_bin (by exact .yes rfl rfl) (by exact e2 rfl) (by exact e2 rfl) (fun _ => r_leq _ _ _ _)) (inM_at 0 (inM_at 1 inM_nil)) te0 ?_;refine a_v 31 rfl [] (p_and (by rfl) (by rfl)) (inM_at 0 (inM_at 1 inM_nil)) te0 ?_;refine a_v 32 rfl [] (p_assign .no (by exact e1 rfl)) (inM_at 0 (inM_at 1 inM_nil)) te0 ?_;refine a_v 33 rfl [] (p_assign .no (by exact e1 rfl)) (inM_at 0 (inM_at 1 inM_nil)) te0 ?_;refine a_end ?_;refine x_next ?_;refine c_ret ?_;refine x_ret (vs := [.bool (decide (v.lo ≤ f.span.hi) && decide (f.span.lo ≤ v.hi)), .bool (decide (f.span.lo ≤ v.lo) && decide (v.hi ≤ f.span.hi))]) rfl ⟨rfl, rfl, trivial⟩ ?_;rfl
theorem okSp_of {a : BS.Sp} (h : -1048576 ≤ a.lo ∧ a.lo ≤ 1048576 ∧ -1048576 ≤ a.hi ∧ a.hi ≤ 1048576) : BS.OkSp a := by simp only [BS.OkSp]; omega
theorem vector_cv {H : Gh} {A : Option Addr} {c : Nat} (f : BS.Fc) (l : List BS.Bx) (hl : GRow H A c encBx 4 l) (hV : BS.OkV l) (ha : 0 ≤ f.a ∧ f.a < l.length) (hb : 0 ≤ f.b ∧ f.b < l.length) : Cv Tryz.prog 287 [.agg [.int .i64 f.id, .int .i64 f.kind, .bool f.neg, .int .i64 f.a, .int .i64 f.b, .int .i64 f.c, .int .i64 f.span.lo, .int .i64 f.span.hi, .int .i64 f.quarter, .slice A l.length c].toArray] H fun u_ => u_ = .tuple #[.agg (encSp (BS.dx f l)).toArray, .agg (encSp (BS.dy f l)).toArray] := by
 refine cv_of Tryz.func287 rfl Tryz.ntmps287 rfl fun w0 hw => ?_;refine c_seq<|c_region ?_;refine lbx ([.int .i64 f.id, .int .i64 f.kind, .bool f.neg, .int .i64 f.a, .int .i64 f.b, .int .i64 f.c, .int .i64 f.span.lo, .int .i64 f.span.hi, .int .i64 f.quarter, .slice A l.length c]) (fun m1 hm2 => ?_);refine lal (fun m3 hm4 => ?_);refine lal (fun m5 hm6 => ?_);refine l_end<|x_next<|c_seq ?_;refine k_joinc (ι := Nat × Nat) (fun ⟨m13, m15⟩ => True) (fun ⟨m13, m15⟩ => H) (fun ⟨m13, m15⟩ => [(2, true, .pointer (some ⟨m3, 0, none⟩)), (3, true, .pointer (some ⟨m5, 0, none⟩)), (4, true, .pointer (some ⟨m13, 0, none⟩)), (5, true, .pointer (some ⟨m15, 0, none⟩))]) (fun ⟨m13, m15⟩ => [(m3, .cells (encSp ⟨0, 0⟩).toArray 40 (0, 0)), (m5, .cells (encSp ⟨0, 0⟩).toArray 40 (0, 0)), (m13, .cells (encBx (l.getD (f.a).toNat BS.z0)).toArray 85 (0, 0)), (m15, .cells (encBx (l.getD (f.b).toNat BS.z0)).toArray 85 (0, 0)), (m1, .cells ([.int .i64 f.id, .int .i64 f.kind, .bool f.neg, .int .i64 f.a, .int .i64 f.b, .int .i64 f.c, .int .i64 f.span.lo, .int .i64 f.span.hi, .int .i64 f.quarter, .slice A l.length c]).toArray 309 (0, 0))]) (fun ⟨m13, m15⟩ => []) ?_ ?_
 ·skip
  refine c_draw [(9999, m1, .cells ([.int .i64 f.id, .int .i64 f.kind, .bool f.neg, .int .i64 f.a, .int .i64 f.b, .int .i64 f.c, .int .i64 f.span.lo, .int .i64 f.span.hi, .int .i64 f.quarter, .slice A l.length c]).toArray 309 (0, 0))] H ?_;refine a_v 0 rfl [] (p_field .no (by exact e1 rfl)) (inM_at 2 inM_nil) te0 ?_;refine a_l 1 rfl 0 (p_load 0 .no (by exact e1 rfl)) (inM_at 2 inM_nil) te0 ?_;refine a_v 2 rfl [] (p_field .no (by exact e1 rfl)) (inM_at 2 inM_nil) te0 ?_;refine a_v 3 rfl [] (p_field .no (by exact e1 rfl)) (inM_at 2 inM_nil) te0 ?_;refine a_l 4 rfl 0 (p_load 0 .no (by exact e1 rfl)) (inM_at 2 inM_nil) te0 ?_;refine a_ix 5 rfl hl BS.z0 (f.a).toNat rfl .no (by exact e1 rfl) (by exact e1 rfl) (by rfl) (fun _ => (by omega)) (inM_at 2 inM_nil) te0 (fun p7 o8 g9 => ?_);refine a_v 6 rfl [] (p_gloadK 0 (encBx (l.getD (f.a).toNat BS.z0)) g9 .no (by exact e1 rfl)) (inM_at 2 inM_nil) te0 ?_
  refine a_v 7 rfl [] (p_field .no (by exact e1 rfl)) (inM_at 2 inM_nil) te0 ?_;refine a_l 8 rfl 0 (p_load 0 .no (by exact e1 rfl)) (inM_at 2 inM_nil) te0 ?_;refine a_v 9 rfl [] (p_field .no (by exact e1 rfl)) (inM_at 2 inM_nil) te0 ?_;refine a_v 10 rfl [] (p_field .no (by exact e1 rfl)) (inM_at 2 inM_nil) te0 ?_;refine a_l 11 rfl 0 (p_load 0 .no (by exact e1 rfl)) (inM_at 2 inM_nil) te0 ?_;refine a_ix 12 rfl hl BS.z0 (f.b).toNat rfl .no (by exact e1 rfl) (by exact e1 rfl) (by rfl) (fun _ => (by omega)) (inM_at 2 inM_nil) te0 (fun p10 o11 g12 => ?_);refine a_v 13 rfl [] (p_gloadK 0 (encBx (l.getD (f.b).toNat BS.z0)) g12 .no (by exact e1 rfl)) (inM_at 2 inM_nil) te0 ?_;refine a_two 14 15 rfl rfl ?_ ?_
  ·skip
   refine x_alloc (k := fun m13 hm14 => ?_);refine a_in (inM_at 3 inM_nil) te0 ?_;refine a_one 15 rfl (x_alloc (k := fun m15 hm16 => ?_));refine a_in (inM_at 4 inM_nil) te0 ?_;refine a_one 16 rfl (x_store 1 (encBx (l.getD (f.a).toNat BS.z0)) (encBx (l.getD (f.a).toNat BS.z0)) (k := ?_));refine a_in (inM_at 4 inM_nil) te0 ?_;refine a_one 17 rfl (x_store 0 (encBx (l.getD (f.b).toNat BS.z0)) (encBx (l.getD (f.b).toNat BS.z0)) (k := ?_));refine a_in (inM_at 4 inM_nil) te0 ?_;refine a_end ?_;refine k_mf 4 ?_;refine k_mf 1 ?_;refine k_mf 2 ?_;refine k_mf 3 ?_;refine k_mf 4 ?_;exact x_joined (ι := Nat × Nat) (m13, m15) (trivial) rfl (sub_consb rfl (sub_consb rfl (sub_consb rfl (sub_consb rfl (sub_nil _))))) rfl rfl
  ·skip
   refine x_alloc (k := fun m17 hm18 => ?_);refine a_in (inM_at 3 inM_nil) te0 ?_;refine a_one 14 rfl (x_alloc (k := fun m19 hm20 => ?_));refine a_in (inM_at 4 inM_nil) te0 ?_;refine a_one 16 rfl (x_store 0 (encBx (l.getD (f.a).toNat BS.z0)) (encBx (l.getD (f.a).toNat BS.z0)) (k := ?_));refine a_in (inM_at 4 inM_nil) te0 ?_;refine a_one 17 rfl (x_store 1 (encBx (l.getD (f.b).toNat BS.z0)) (encBx (l.getD (f.b).toNat BS.z0)) (k := ?_));refine a_in (inM_at 4 inM_nil) te0 ?_;refine a_end ?_;refine k_mf 4 ?_;refine k_mf 2 ?_;refine k_mf 2 ?_;refine k_mf 3 ?_;refine k_mf 4 ?_;exact x_joined (ι := Nat × Nat) (m19, m17) (trivial) rfl (sub_consb rfl (sub_consb rfl (sub_consb rfl (sub_consb rfl (sub_nil _))))) rfl rfl
 rintro ⟨m13, m15⟩ -
 show RK (_) _ _ _ H [(2, true, .pointer (some ⟨m3, 0, none⟩)), (3, true, .pointer (some ⟨m5, 0, none⟩)), (4, true, .pointer (some ⟨m13, 0, none⟩)), (5, true, .pointer (some ⟨m15, 0, none⟩))] [(m3, .cells (encSp ⟨0, 0⟩).toArray 40 (0, 0)), (m5, .cells (encSp ⟨0, 0⟩).toArray 40 (0, 0)), (m13, .cells (encBx (l.getD (f.a).toNat BS.z0)).toArray 85 (0, 0)), (m15, .cells (encBx (l.getD (f.b).toNat BS.z0)).toArray 85 (0, 0)), (m1, .cells ([.int .i64 f.id, .int .i64 f.kind, .bool f.neg, .int .i64 f.a, .int .i64 f.b, .int .i64 f.c, .int .i64 f.span.lo, .int .i64 f.span.hi, .int .i64 f.quarter, .slice A l.length c]).toArray 309 (0, 0))] [];refine x_next<|c_seq ?_;refine c_draw [(9999, m13, .cells (encBx (l.getD (f.a).toNat BS.z0)).toArray 85 (0, 0)), (9999, m15, .cells (encBx (l.getD (f.b).toNat BS.z0)).toArray 85 (0, 0))] H ?_;refine a_v 0 rfl [] (p_field .no (by exact e1 rfl)) (inM_at 2 (inM_at 3 inM_nil)) te0 ?_
 refine a_l 1 rfl 1 (p_loadK 0 (encSp (l.getD (f.b).toNat BS.z0).x) .no (by exact e1 rfl)) (inM_at 2 (inM_at 3 inM_nil)) te0 ?_;refine a_v 2 rfl [] (p_field .no (by exact e1 rfl)) (inM_at 2 (inM_at 3 inM_nil)) te0 ?_;refine a_l 3 rfl 0 (p_loadK 0 (encSp (l.getD (f.a).toNat BS.z0).x) .no (by exact e1 rfl)) (inM_at 2 (inM_at 3 inM_nil)) te0 ?_;refine a_v 5 rfl [] (p_field .no (by exact e1 rfl)) (inM_at 2 (inM_at 3 inM_nil)) te0 ?_;refine a_l 6 rfl 1 (p_loadK 0 (encSp (l.getD (f.b).toNat BS.z0).y) .no (by exact e1 rfl)) (inM_at 2 (inM_at 3 inM_nil)) te0 ?_;refine a_v 7 rfl [] (p_field .no (by exact e1 rfl)) (inM_at 2 (inM_at 3 inM_nil)) te0 ?_;refine a_l 8 rfl 0 (p_loadK 0 (encSp (l.getD (f.a).toNat BS.z0).y) .no (by exact e1 rfl)) (inM_at 2 (inM_at 3 inM_nil)) te0 ?_;refine a_one 4 rfl (x_calle (vs := [.agg (encSp (l.getD (f.b).toNat BS.z0).x).toArray, .agg (encSp (l.getD (f.a).toNat BS.z0).x).toArray]) .no ⟨(by exact e1 rfl), (by exact e1 rfl), trivial⟩ (fun _ => less_cv (l.getD (f.b).toNat BS.z0).x (l.getD (f.a).toNat BS.z0).x (okSp_of (hV _).1) (okSp_of (hV _).1)) (k := ?_))
 refine a_in (inM_at 2 (inM_at 3 inM_nil)) te0 ?_;refine a_one 9 rfl (x_calle (vs := [.agg (encSp (l.getD (f.b).toNat BS.z0).y).toArray, .agg (encSp (l.getD (f.a).toNat BS.z0).y).toArray]) .no ⟨(by exact e1 rfl), (by exact e1 rfl), trivial⟩ (fun _ => less_cv (l.getD (f.b).toNat BS.z0).y (l.getD (f.a).toNat BS.z0).y (okSp_of (hV _).2) (okSp_of (hV _).2)) (k := ?_));refine a_in (inM_at 2 (inM_at 3 inM_nil)) te0 ?_;refine a_one 10 rfl (x_store 0 (encSp (BS.less (l.getD (f.b).toNat BS.z0).x (l.getD (f.a).toNat BS.z0).x)) (encSp (BS.less (l.getD (f.b).toNat BS.z0).x (l.getD (f.a).toNat BS.z0).x)) (k := ?_));refine a_in (inM_at 2 (inM_at 3 inM_nil)) te0 ?_;refine a_one 11 rfl (x_store 1 (encSp (BS.less (l.getD (f.b).toNat BS.z0).y (l.getD (f.a).toNat BS.z0).y)) (encSp (BS.less (l.getD (f.b).toNat BS.z0).y (l.getD (f.a).toNat BS.z0).y)) (k := ?_));refine a_in (inM_at 2 (inM_at 3 inM_nil)) te0 ?_
 refine a_end ?_;refine x_next ?_;refine c_ret ?_;refine x_ret (vs := [.agg (encSp (BS.less (l.getD (f.b).toNat BS.z0).x (l.getD (f.a).toNat BS.z0).x)).toArray, .agg (encSp (BS.less (l.getD (f.b).toNat BS.z0).y (l.getD (f.a).toNat BS.z0).y)).toArray]) rfl ⟨rv_cell 0 (encSp (BS.less (l.getD (f.b).toNat BS.z0).x (l.getD (f.a).toNat BS.z0).x)), rv_cell 1 (encSp (BS.less (l.getD (f.b).toNat BS.z0).y (l.getD (f.a).toNat BS.z0).y)), trivial⟩ ?_;rfl
theorem dist_cv {H : Gh} {A : Option Addr} {c : Nat} (f : BS.Fc) (l : List BS.Bx) (hl : GRow H A c encBx 4 l) (hV : BS.OkV l) (ha : 0 ≤ f.a ∧ f.a < l.length) (hb : 0 ≤ f.b ∧ f.b < l.length) : Cv Tryz.prog 267 [.agg [.int .i64 f.id, .int .i64 f.kind, .bool f.neg, .int .i64 f.a, .int .i64 f.b, .int .i64 f.c, .int .i64 f.span.lo, .int .i64 f.span.hi, .int .i64 f.quarter, .slice A l.length c].toArray] H fun u_ => u_ = .tuple #[.bool (BS.valued f.span (BS.distSpan (BS.dx f l) (BS.dy f l))).1, .bool (BS.valued f.span (BS.distSpan (BS.dx f l) (BS.dy f l))).2] := by
 have hx : BS.OkSp (BS.dx f l) := BS.okSp_less (hV _).1 (hV _).1;have hy : BS.OkSp (BS.dy f l) := BS.okSp_less (hV _).2 (hV _).2;have hax := BS.okSp_amount hx;have hay := BS.okSp_amount hy;obtain ⟨hax1, hax2, hax3, hax4⟩ := id hax;obtain ⟨hay1, hay2, hay3, hay4⟩ := id hay;have qxlo := BS.mul_small (A := 4000000) (x := (BS.amount (BS.dx f l)).lo) (y := (BS.amount (BS.dx f l)).lo) (by omega) (by omega);have qxhi := BS.mul_small (A := 4000000) (x := (BS.amount (BS.dx f l)).hi) (y := (BS.amount (BS.dx f l)).hi) (by omega) (by omega);have qylo := BS.mul_small (A := 4000000) (x := (BS.amount (BS.dy f l)).lo) (y := (BS.amount (BS.dy f l)).lo) (by omega) (by omega);have qyhi := BS.mul_small (A := 4000000) (x := (BS.amount (BS.dy f l)).hi) (y := (BS.amount (BS.dy f l)).hi) (by omega) (by omega);refine cv_of Tryz.func267 rfl Tryz.ntmps267 rfl fun w0 hw => ?_;refine c_seq<|c_region ?_;refine lbx ([.int .i64 f.id, .int .i64 f.kind, .bool f.neg, .int .i64 f.a, .int .i64 f.b, .int .i64 f.c, .int .i64 f.span.lo, .int .i64 f.span.hi, .int .i64 f.quarter, .slice A l.length c]) (fun m1 hm2 => ?_)
 refine la ?_;refine la ?_;refine l_end<|x_next<|c_seq<|c_region ?_;refine lk 0 ([.int .i64 f.id, .int .i64 f.kind, .bool f.neg, .int .i64 f.a, .int .i64 f.b, .int .i64 f.c, .int .i64 f.span.lo, .int .i64 f.span.hi, .int .i64 f.quarter, .slice A l.length c]) ?_;refine lcl (vector_cv f l hl hV ha hb) ?_;refine lm ?_;refine lext ?_;refine lext ?_;refine lal (fun m3 hm4 => ?_);refine lal (fun m5 hm6 => ?_);refine lst 1 (encSp (BS.dx f l)) (encSp (BS.dx f l)) ?_;refine lst 0 (encSp (BS.dy f l)) (encSp (BS.dy f l)) ?_;refine l_end<|x_next<|c_seq ?_;refine c_draw [(5, m5, .cells (encSp (BS.dy f l)).toArray 40 (0, 0)), (4, m3, .cells (encSp (BS.dx f l)).toArray 40 (0, 0))] H ?_;refine a_l 0 rfl 1 (p_loadK 0 (encSp (BS.dx f l)) .no (by exact e1 rfl)) (inM_at 0 (inM_at 1 inM_nil)) te0 ?_;refine a_l 2 rfl 0 (p_loadK 0 (encSp (BS.dy f l)) .no (by exact e1 rfl)) (inM_at 0 (inM_at 1 inM_nil)) te0 ?_;refine a_one 1 rfl (x_calle (vs := [.agg (encSp (BS.dx f l)).toArray]) .no ⟨(by exact e1 rfl), trivial⟩ (fun _ => amount_cv (BS.dx f l) (by assumption)) (k := ?_))
 refine a_in (inM_at 0 (inM_at 1 inM_nil)) te0 ?_;refine a_one 3 rfl (x_calle (vs := [.agg (encSp (BS.dy f l)).toArray]) .no ⟨(by exact e1 rfl), trivial⟩ (fun _ => amount_cv (BS.dy f l) (by assumption)) (k := ?_));refine a_in (inM_at 0 (inM_at 1 inM_nil)) te0 ?_;refine a_one 4 rfl (x_store 1 (encSp (BS.amount (BS.dx f l))) (encSp (BS.amount (BS.dx f l))) (k := ?_));refine a_in (inM_at 0 (inM_off inM_nil)) te0 ?_;refine a_one 5 rfl (x_store 0 (encSp (BS.amount (BS.dy f l))) (encSp (BS.amount (BS.dy f l))) (k := ?_));refine a_in (inM_off (inM_off inM_nil)) te0 ?_;refine a_end ?_;refine x_next<|c_seq<|c_region ?_;refine lk 2 ([.int .i64 f.id, .int .i64 f.kind, .bool f.neg, .int .i64 f.a, .int .i64 f.b, .int .i64 f.c, .int .i64 f.span.lo, .int .i64 f.span.hi, .int .i64 f.quarter, .slice A l.length c]) ?_;refine lf ?_;refine ll 1 ?_;refine lf ?_;refine ll 1 ?_;refine lmul ?_;refine lf ?_;refine ll 0 ?_
 refine lf ?_;refine ll 0 ?_;refine lmul ?_;refine ladd ?_;refine lf ?_;refine ll 1 ?_;refine lf ?_;refine ll 1 ?_;refine lmul ?_;refine lf ?_;refine ll 0 ?_;refine lf ?_;refine ll 0 ?_;refine lmul ?_;refine ladd ?_;refine lbd (v := .agg (encSp ⟨((BS.amount (BS.dx f l)).lo * (BS.amount (BS.dx f l)).lo) + ((BS.amount (BS.dy f l)).lo * (BS.amount (BS.dy f l)).lo), ((BS.amount (BS.dx f l)).hi * (BS.amount (BS.dx f l)).hi) + ((BS.amount (BS.dy f l)).hi * (BS.amount (BS.dy f l)).hi)⟩).toArray) [(0, .int .i64 (((BS.amount (BS.dx f l)).lo * (BS.amount (BS.dx f l)).lo) + ((BS.amount (BS.dy f l)).lo * (BS.amount (BS.dy f l)).lo))), (1, .int .i64 (((BS.amount (BS.dx f l)).hi * (BS.amount (BS.dx f l)).hi) + ((BS.amount (BS.dy f l)).hi * (BS.amount (BS.dy f l)).hi)))] ?_ (fun _ => by kernel_rfl) (by simp [ev, eget, Nat.beq]);refine lcl (valued_cv f l hl ⟨((BS.amount (BS.dx f l)).lo * (BS.amount (BS.dx f l)).lo) + ((BS.amount (BS.dy f l)).lo * (BS.amount (BS.dy f l)).lo), ((BS.amount (BS.dx f l)).hi * (BS.amount (BS.dx f l)).hi) + ((BS.amount (BS.dy f l)).hi * (BS.amount (BS.dy f l)).hi)⟩) ?_
 refine lext ?_;refine lext ?_;refine la ?_;refine la ?_;refine l_end<|x_next ?_;refine c_ret ?_;refine x_ret (vs := [.bool (BS.valued f.span ⟨((BS.amount (BS.dx f l)).lo * (BS.amount (BS.dx f l)).lo) + ((BS.amount (BS.dy f l)).lo * (BS.amount (BS.dy f l)).lo), ((BS.amount (BS.dx f l)).hi * (BS.amount (BS.dx f l)).hi) + ((BS.amount (BS.dy f l)).hi * (BS.amount (BS.dy f l)).hi)⟩).1, .bool (BS.valued f.span ⟨((BS.amount (BS.dx f l)).lo * (BS.amount (BS.dx f l)).lo) + ((BS.amount (BS.dy f l)).lo * (BS.amount (BS.dy f l)).lo), ((BS.amount (BS.dx f l)).hi * (BS.amount (BS.dx f l)).hi) + ((BS.amount (BS.dy f l)).hi * (BS.amount (BS.dy f l)).hi)⟩).2]) rfl ⟨rfl, rfl, trivial⟩ ?_;rfl
theorem east_cv {H : Gh} {A : Option Addr} {c : Nat} (f : BS.Fc) (l : List BS.Bx) (hl : GRow H A c encBx 4 l) (hV : BS.OkV l) (ha : 0 ≤ f.a ∧ f.a < l.length) (hb : 0 ≤ f.b ∧ f.b < l.length) : Cv Tryz.prog 271 [.agg [.int .i64 f.id, .int .i64 f.kind, .bool f.neg, .int .i64 f.a, .int .i64 f.b, .int .i64 f.c, .int .i64 f.span.lo, .int .i64 f.span.hi, .int .i64 f.quarter, .slice A l.length c].toArray] H fun u_ => u_ = .tuple #[.bool (BS.valued f.span (BS.dx f l)).1, .bool (BS.valued f.span (BS.dx f l)).2] := by
 have hx : BS.OkSp (BS.dx f l) := BS.okSp_less (hV _).1 (hV _).1;have hy : BS.OkSp (BS.dy f l) := BS.okSp_less (hV _).2 (hV _).2;have hax := BS.okSp_amount hx;have hay := BS.okSp_amount hy;refine cv_of Tryz.func271 rfl Tryz.ntmps271 rfl fun w0 hw => ?_;refine c_seq<|c_region ?_;refine lbx ([.int .i64 f.id, .int .i64 f.kind, .bool f.neg, .int .i64 f.a, .int .i64 f.b, .int .i64 f.c, .int .i64 f.span.lo, .int .i64 f.span.hi, .int .i64 f.quarter, .slice A l.length c]) (fun m1 hm2 => ?_);refine la ?_;refine la ?_;refine l_end<|x_next<|c_seq<|c_region ?_;refine lk 0 ([.int .i64 f.id, .int .i64 f.kind, .bool f.neg, .int .i64 f.a, .int .i64 f.b, .int .i64 f.c, .int .i64 f.span.lo, .int .i64 f.span.hi, .int .i64 f.quarter, .slice A l.length c]) ?_;refine lcl (vector_cv f l hl hV ha hb) ?_;refine lm ?_;refine lext ?_;refine lext ?_;refine lal (fun m3 hm4 => ?_);refine lal (fun m5 hm6 => ?_);refine lst 1 (encSp (BS.dx f l)) (encSp (BS.dx f l)) ?_
 refine lst 0 (encSp (BS.dy f l)) (encSp (BS.dy f l)) ?_;refine l_end<|x_next<|c_seq<|c_region ?_;refine lk 2 ([.int .i64 f.id, .int .i64 f.kind, .bool f.neg, .int .i64 f.a, .int .i64 f.b, .int .i64 f.c, .int .i64 f.span.lo, .int .i64 f.span.hi, .int .i64 f.quarter, .slice A l.length c]) ?_;refine lk 1 (encSp (BS.dx f l)) ?_;refine lcl (valued_cv f l hl (BS.dx f l)) ?_;refine lext ?_;refine lext ?_;refine la ?_;refine la ?_;refine l_end<|x_next ?_;refine c_ret ?_;refine x_ret (vs := [.bool (BS.valued f.span (BS.dx f l)).1, .bool (BS.valued f.span (BS.dx f l)).2]) rfl ⟨rfl, rfl, trivial⟩ ?_;rfl
theorem north_cv {H : Gh} {A : Option Addr} {c : Nat} (f : BS.Fc) (l : List BS.Bx) (hl : GRow H A c encBx 4 l) (hV : BS.OkV l) (ha : 0 ≤ f.a ∧ f.a < l.length) (hb : 0 ≤ f.b ∧ f.b < l.length) : Cv Tryz.prog 272 [.agg [.int .i64 f.id, .int .i64 f.kind, .bool f.neg, .int .i64 f.a, .int .i64 f.b, .int .i64 f.c, .int .i64 f.span.lo, .int .i64 f.span.hi, .int .i64 f.quarter, .slice A l.length c].toArray] H fun u_ => u_ = .tuple #[.bool (BS.valued f.span (BS.dy f l)).1, .bool (BS.valued f.span (BS.dy f l)).2] := by
 have hx : BS.OkSp (BS.dx f l) := BS.okSp_less (hV _).1 (hV _).1;have hy : BS.OkSp (BS.dy f l) := BS.okSp_less (hV _).2 (hV _).2;have hax := BS.okSp_amount hx;have hay := BS.okSp_amount hy;refine cv_of Tryz.func272 rfl Tryz.ntmps272 rfl fun w0 hw => ?_;refine c_seq<|c_region ?_;refine lbx ([.int .i64 f.id, .int .i64 f.kind, .bool f.neg, .int .i64 f.a, .int .i64 f.b, .int .i64 f.c, .int .i64 f.span.lo, .int .i64 f.span.hi, .int .i64 f.quarter, .slice A l.length c]) (fun m1 hm2 => ?_);refine la ?_;refine la ?_;refine l_end<|x_next<|c_seq<|c_region ?_;refine lk 0 ([.int .i64 f.id, .int .i64 f.kind, .bool f.neg, .int .i64 f.a, .int .i64 f.b, .int .i64 f.c, .int .i64 f.span.lo, .int .i64 f.span.hi, .int .i64 f.quarter, .slice A l.length c]) ?_;refine lcl (vector_cv f l hl hV ha hb) ?_;refine lm ?_;refine lext ?_;refine lext ?_;refine lal (fun m3 hm4 => ?_);refine lal (fun m5 hm6 => ?_);refine lst 1 (encSp (BS.dx f l)) (encSp (BS.dx f l)) ?_
 refine lst 0 (encSp (BS.dy f l)) (encSp (BS.dy f l)) ?_;refine l_end<|x_next<|c_seq<|c_region ?_;refine lk 2 ([.int .i64 f.id, .int .i64 f.kind, .bool f.neg, .int .i64 f.a, .int .i64 f.b, .int .i64 f.c, .int .i64 f.span.lo, .int .i64 f.span.hi, .int .i64 f.quarter, .slice A l.length c]) ?_;refine lk 0 (encSp (BS.dy f l)) ?_;refine lcl (valued_cv f l hl (BS.dy f l)) ?_;refine lext ?_;refine lext ?_;refine la ?_;refine la ?_;refine l_end<|x_next ?_;refine c_ret ?_;refine x_ret (vs := [.bool (BS.valued f.span (BS.dy f l)).1, .bool (BS.valued f.span (BS.dy f l)).2]) rfl ⟨rfl, rfl, trivial⟩ ?_;rfl
theorem near_cv {H : Gh} {A : Option Addr} {c : Nat} (f : BS.Fc) (l : List BS.Bx) (hl : GRow H A c encBx 4 l) (hV : BS.OkV l) (ha : 0 ≤ f.a ∧ f.a < l.length) (hb : 0 ≤ f.b ∧ f.b < l.length) : Cv Tryz.prog 270 [.agg [.int .i64 f.id, .int .i64 f.kind, .bool f.neg, .int .i64 f.a, .int .i64 f.b, .int .i64 f.c, .int .i64 f.span.lo, .int .i64 f.span.hi, .int .i64 f.quarter, .slice A l.length c].toArray] H fun u_ => u_ = .tuple #[.bool (BS.nearB f.span (BS.dx f l) (BS.dy f l)).1, .bool (BS.nearB f.span (BS.dx f l) (BS.dy f l)).2] := by
 have hx : BS.OkSp (BS.dx f l) := BS.okSp_less (hV _).1 (hV _).1;have hy : BS.OkSp (BS.dy f l) := BS.okSp_less (hV _).2 (hV _).2;have hax := BS.okSp_amount hx;have hay := BS.okSp_amount hy;refine cv_of Tryz.func270 rfl Tryz.ntmps270 rfl fun w0 hw => ?_;refine c_seq<|c_region ?_;refine lbx ([.int .i64 f.id, .int .i64 f.kind, .bool f.neg, .int .i64 f.a, .int .i64 f.b, .int .i64 f.c, .int .i64 f.span.lo, .int .i64 f.span.hi, .int .i64 f.quarter, .slice A l.length c]) (fun m1 hm2 => ?_);refine la ?_;refine la ?_;refine l_end<|x_next<|c_seq<|c_region ?_;refine lk 0 ([.int .i64 f.id, .int .i64 f.kind, .bool f.neg, .int .i64 f.a, .int .i64 f.b, .int .i64 f.c, .int .i64 f.span.lo, .int .i64 f.span.hi, .int .i64 f.quarter, .slice A l.length c]) ?_;refine lcl (vector_cv f l hl hV ha hb) ?_;refine lm ?_;refine lext ?_;refine lext ?_;refine lal (fun m3 hm4 => ?_);refine lal (fun m5 hm6 => ?_);refine lst 1 (encSp (BS.dx f l)) (encSp (BS.dx f l)) ?_
 refine lst 0 (encSp (BS.dy f l)) (encSp (BS.dy f l)) ?_;refine l_end<|x_next<|c_seq ?_;refine c_draw [(5, m5, .cells (encSp (BS.dy f l)).toArray 40 (0, 0)), (4, m3, .cells (encSp (BS.dx f l)).toArray 40 (0, 0))] H ?_;refine a_l 0 rfl 1 (p_loadK 0 (encSp (BS.dx f l)) .no (by exact e1 rfl)) (inM_at 0 (inM_at 1 inM_nil)) te0 ?_;refine a_l 2 rfl 0 (p_loadK 0 (encSp (BS.dy f l)) .no (by exact e1 rfl)) (inM_at 0 (inM_at 1 inM_nil)) te0 ?_;refine a_one 1 rfl (x_calle (vs := [.agg (encSp (BS.dx f l)).toArray]) .no ⟨(by exact e1 rfl), trivial⟩ (fun _ => amount_cv (BS.dx f l) (by assumption)) (k := ?_));refine a_in (inM_at 0 (inM_at 1 inM_nil)) te0 ?_;refine a_one 3 rfl (x_calle (vs := [.agg (encSp (BS.dy f l)).toArray]) .no ⟨(by exact e1 rfl), trivial⟩ (fun _ => amount_cv (BS.dy f l) (by assumption)) (k := ?_));refine a_in (inM_at 0 (inM_at 1 inM_nil)) te0 ?_;refine a_one 4 rfl (x_store 1 (encSp (BS.amount (BS.dx f l))) (encSp (BS.amount (BS.dx f l))) (k := ?_))
 refine a_in (inM_at 0 (inM_off inM_nil)) te0 ?_;refine a_one 5 rfl (x_store 0 (encSp (BS.amount (BS.dy f l))) (encSp (BS.amount (BS.dy f l))) (k := ?_));refine a_in (inM_off (inM_off inM_nil)) te0 ?_;refine a_end ?_;refine x_next<|c_seq ?_;refine c_draw [(9999, m5, .cells (encSp (BS.amount (BS.dy f l))).toArray 40 (0, 0)), (9999, m3, .cells (encSp (BS.amount (BS.dx f l))).toArray 40 (0, 0)), (9999, m1, .cells ([.int .i64 f.id, .int .i64 f.kind, .bool f.neg, .int .i64 f.a, .int .i64 f.b, .int .i64 f.c, .int .i64 f.span.lo, .int .i64 f.span.hi, .int .i64 f.quarter, .slice A l.length c]).toArray 309 (0, 0))] H ?_;refine a_v 0 rfl [] (p_field .no (by exact e1 rfl)) (inM_at 0 (inM_at 1 (inM_at 2 inM_nil))) te0 ?_;refine a_l 1 rfl 1 (p_load 0 .no (by exact e1 rfl)) (inM_at 0 (inM_at 1 (inM_at 2 inM_nil))) te0 ?_;refine a_v 2 rfl [] (p_field .no (by exact e1 rfl)) (inM_at 0 (inM_at 1 (inM_at 2 inM_nil))) te0 ?_
 refine a_l 3 rfl 0 (p_load 0 .no (by exact e1 rfl)) (inM_at 0 (inM_at 1 (inM_at 2 inM_nil))) te0 ?_;refine a_v 4 rfl [] (p_max .no (by exact e1 rfl) (by exact e1 rfl)) (inM_at 0 (inM_at 1 (inM_at 2 inM_nil))) te0 ?_;refine a_v 5 rfl [] (p_field .no (by exact e1 rfl)) (inM_at 0 (inM_at 1 (inM_at 2 inM_nil))) te0 ?_;refine a_v 6 rfl [] (p_field .no (by exact e1 rfl)) (inM_at 0 (inM_at 1 (inM_at 2 inM_nil))) te0 ?_;refine a_v 7 rfl [] (p_field .no (by exact e1 rfl)) (inM_at 0 (inM_at 1 (inM_at 2 inM_nil))) te0 ?_;refine a_l 8 rfl 2 (p_load 0 .no (by exact e1 rfl)) (inM_at 0 (inM_at 1 (inM_at 2 inM_nil))) te0 ?_;refine a_v 9 rfl [] (p_bin .no (by exact e1 rfl) (by exact e1 rfl) (fun _ => r_leq _ _ _ _)) (inM_at 0 (inM_at 1 (inM_at 2 inM_nil))) te0 ?_;refine a_v 10 rfl [] (p_field .no (by exact e1 rfl)) (inM_at 0 (inM_at 1 (inM_at 2 inM_nil))) te0 ?_;refine a_l 11 rfl 1 (p_load 0 .no (by exact e1 rfl)) (inM_at 0 (inM_at 1 (inM_at 2 inM_nil))) te0 ?_
 refine a_v 12 rfl [] (p_field .no (by exact e1 rfl)) (inM_at 0 (inM_at 1 (inM_at 2 inM_nil))) te0 ?_;refine a_l 13 rfl 0 (p_load 0 .no (by exact e1 rfl)) (inM_at 0 (inM_at 1 (inM_at 2 inM_nil))) te0 ?_;refine a_v 14 rfl [] (p_max .no (by exact e1 rfl) (by exact e1 rfl)) (inM_at 0 (inM_at 1 (inM_at 2 inM_nil))) te0 ?_;refine a_v 15 rfl [] (p_field .no (by exact e1 rfl)) (inM_at 0 (inM_at 1 (inM_at 2 inM_nil))) te0 ?_;refine a_v 16 rfl [] (p_field .no (by exact e1 rfl)) (inM_at 0 (inM_at 1 (inM_at 2 inM_nil))) te0 ?_;refine a_v 17 rfl [] (p_field .no (by exact e1 rfl)) (inM_at 0 (inM_at 1 (inM_at 2 inM_nil))) te0 ?_;refine a_l 18 rfl 2 (p_load 0 .no (by exact e1 rfl)) (inM_at 0 (inM_at 1 (inM_at 2 inM_nil))) te0 ?_;refine a_v 19 rfl [] (p_bin .no (by exact e1 rfl) (by exact e1 rfl) (fun _ => r_leq _ _ _ _)) (inM_at 0 (inM_at 1 (inM_at 2 inM_nil))) te0 ?_;refine a_v 20 rfl [] (p_assign .no (by exact e1 rfl)) (inM_at 0 (inM_at 1 (inM_at 2 inM_nil))) te0 ?_
 refine a_v 21 rfl [] (p_assign .no (by exact e1 rfl)) (inM_at 0 (inM_at 1 (inM_at 2 inM_nil))) te0 ?_;refine a_end ?_;refine x_next ?_;refine c_ret ?_;refine x_ret (vs := [.bool (decide (max (BS.amount (BS.dx f l)).lo (BS.amount (BS.dy f l)).lo ≤ f.span.hi)), .bool (decide (max (BS.amount (BS.dx f l)).hi (BS.amount (BS.dy f l)).hi ≤ f.span.hi))]) rfl ⟨rfl, rfl, trivial⟩ ?_;rfl
end Go.Proofs.YtoakoffdjeleoaaGreat
end
