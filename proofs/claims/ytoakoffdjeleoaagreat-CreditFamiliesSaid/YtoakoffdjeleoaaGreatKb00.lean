import Derived.Shelf.SlSortCmp.NoneTotal
import Derived.Test.YtoakoffdjeleoaaGreatProg
import Derived.Shelf.Small.Wraps
import Derived.Shelf.Sort.Plain
import Derived.Shelf.Slices.In.SortNone
/- What is proved: creditFamilies_proved, that is the given statement CreditFamiliesSaid: whatever list of sets of numbers and whatever list of numbers the law CreditFamilies is called with, it answers true, and its input reads as it did. There is no condition beyond the statement's own. The texts hold, in order: the plain mathematics (families of sets, boxes, benches), a small proof library over the model, the contracts of the program's functions one by one, and the statement at the end. -/
namespace Go.Proofs.YtoakoffdjeleoaaGreat
theorem bps : (∀ a b : Bool, ((a && b) = true) = (a = true ∧ b = true)) ∧ (∀ a b : Bool, ((a || b) = true) = (a = true ∨ b = true)) ∧ (∀ b : Bool, ((!b) = true) ↔ (b = false)) ∧ (∀ b : Bool, ((!b) = false) ↔ (b = true)) ∧ (∀ a b : Bool, ((a && b) = false) ↔ (a = false ∨ b = false)) ∧ (∀ a b : Bool, ((a || b) = false) ↔ (a = false ∧ b = false)) ∧ (∀ (p : Prop) [Decidable p], (decide p = true) = p) ∧ (∀ (p : Prop) [Decidable p], (decide p = false) ↔ ¬p) ∧ (∀ b : Bool, (¬(b = true)) = (b = false)) ∧ (∀ b : Bool, (¬(b = false)) = (b = true)) :=
  ⟨fun a b => Bool.and_eq_true a b, fun a b => Bool.or_eq_true a b, fun b => by simp, fun b => by simp, fun _ _ => Bool.and_eq_false_iff, fun _ _ => Bool.or_eq_false_iff, fun _ _ => decide_eq_true_eq, fun _ _ => decide_eq_false_iff_not, fun b => Bool.not_eq_true b, fun b => Bool.not_eq_false b⟩
end Go.Proofs.YtoakoffdjeleoaaGreat
set_option linter.unusedVariables false
set_option linter.unusedSimpArgs false
set_option linter.unusedSectionVars false
section
namespace Go.Proofs
open Go.Shelf
def Tryz.laysF164_ren : Go.Shelf.Ren := ⟨fun | 6 => 164 | 15 => 207 | 14 => 206 | 28 => 252 | 29 => 253 | 20 => 244 | 21 => 245 | 22 => 246 | 23 => 247 | 24 => 248 | 25 => 249 | 26 => 250 | 27 => 251 | 46 => 279 | 47 => 280 | 48 => 281 | 49 => 282 | 50 => 283 | 57 => 293 | n => n, fun | 22 => 53 | 24 => 51 | 25 => 204 | 3 => 3 | 39 => 182 | 0 => 0 | 53 => 296 | 55 => 298 | 4 => 4 | 46 => 290 | 45 => 289 | 50 => 175 | 5 => 5 | 9 => 9 | 66 => 316 | 70 => 320 | 76 => 329 | 77 => 313 | n => n, fun | n => n⟩
theorem Tryz.laysF164 : Go.Proofs.SlLaysF.n6 Tryz.prog Tryz.laysF164_ren := {
  mixed := by kernel_rfl
  f6 := ⟨Tryz.f164.name, by decide, Tryz.func164.trans (congrArg some (by kernel_rfl))⟩
  f14 := ⟨Tryz.f206.name, by decide, Tryz.func206.trans (congrArg some (by kernel_rfl))⟩
  f15 := Tryz.func207.trans (congrArg some (by kernel_rfl))
  f20 := ⟨Tryz.f244.name, by decide, Tryz.func244.trans (congrArg some (by kernel_rfl))⟩
  f21 := ⟨Tryz.f245.name, by decide, Tryz.func245.trans (congrArg some (by kernel_rfl))⟩
  f22 := ⟨Tryz.f246.name, by decide, Tryz.func246.trans (congrArg some (by kernel_rfl))⟩
  f23 := ⟨Tryz.f247.name, by decide, Tryz.func247.trans (congrArg some (by kernel_rfl))⟩
  f24 := ⟨Tryz.f248.name, by decide, Tryz.func248.trans (congrArg some (by kernel_rfl))⟩
  f25 := ⟨Tryz.f249.name, by decide, Tryz.func249.trans (congrArg some (by kernel_rfl))⟩
  f26 := ⟨Tryz.f250.name, by decide, Tryz.func250.trans (congrArg some (by kernel_rfl))⟩
  f27 := ⟨Tryz.f251.name, by decide, Tryz.func251.trans (congrArg some (by kernel_rfl))⟩
  f28 := Tryz.func252.trans (congrArg some (by kernel_rfl))
  f29 := Tryz.func253.trans (congrArg some (by kernel_rfl))
  f46 := ⟨Tryz.f279.name, by decide, Tryz.func279.trans (congrArg some (by kernel_rfl))⟩
  f47 := Tryz.func280.trans (congrArg some (by kernel_rfl))
  f48 := Tryz.func281.trans (congrArg some (by kernel_rfl))
  f49 := ⟨Tryz.f282.name, by decide, Tryz.func282.trans (congrArg some (by kernel_rfl))⟩
  f50 := ⟨Tryz.f283.name, by decide, Tryz.func283.trans (congrArg some (by kernel_rfl))⟩
  f57 := ⟨Tryz.f293.name, by decide, Tryz.func293.trans (congrArg some (by kernel_rfl))⟩
  t0 := Tryz.underlying0
  a0 := Tryz.isAgg0
  z0 := Tryz.sizeOf0
  v0 := Tryz.zeroValue0
  t3 := Tryz.underlying3
  a3 := Tryz.isAgg3
  z3 := Tryz.sizeOf3
  v3 := Tryz.zeroValue3
  t4 := Tryz.underlying4
  a4 := Tryz.isAgg4
  z4 := Tryz.sizeOf4
  v4 := Tryz.zeroValue4
  t5 := Tryz.underlying5
  a5 := Tryz.isAgg5
  z5 := Tryz.sizeOf5
  v5 := Tryz.zeroValue5
  t9 := Tryz.underlying9
  a9 := Tryz.isAgg9
  z9 := Tryz.sizeOf9
  v9 := Tryz.zeroValue9
  t22 := Tryz.underlying53
  a22 := Tryz.isAgg53
  z22 := Tryz.sizeOf53
  v22 := Tryz.zeroValue53
  a24 := Tryz.isAgg51
  z24 := Tryz.sizeOf51
  t25 := Tryz.underlying204
  a25 := Tryz.isAgg204
  z25 := Tryz.sizeOf204
  v25 := Tryz.zeroValue204
  t39 := Tryz.underlying182
  a39 := Tryz.isAgg182
  z39 := Tryz.sizeOf182
  v39 := Tryz.zeroValue182
  t45 := Tryz.underlying289
  a45 := Tryz.isAgg289
  z45 := Tryz.sizeOf289
  v45 := Tryz.zeroValue289
  t46 := Tryz.underlying290
  a46 := Tryz.isAgg290
  z46 := Tryz.sizeOf290
  v46 := Tryz.zeroValue290
  t50 := Tryz.underlying175
  a50 := Tryz.isAgg175
  z50 := Tryz.sizeOf175
  v50 := Tryz.zeroValue175
  t53 := Tryz.underlying296
  a53 := Tryz.isAgg296
  z53 := Tryz.sizeOf296
  v53 := Tryz.zeroValue296
  t55 := Tryz.underlying298
  a55 := Tryz.isAgg298
  z55 := Tryz.sizeOf298
  v55 := Tryz.zeroValue298
  t66 := Tryz.underlying316
  a66 := Tryz.isAgg316
  z66 := Tryz.sizeOf316
  v66 := Tryz.zeroValue316
  t70 := Tryz.underlying320
  a70 := Tryz.isAgg320
  z70 := Tryz.sizeOf320
  v70 := Tryz.zeroValue320
  t76 := Tryz.underlying329
  a76 := Tryz.isAgg329
  z76 := Tryz.sizeOf329
  v76 := Tryz.zeroValue329
  t77 := Tryz.underlying313
  a77 := Tryz.isAgg313
  z77 := Tryz.sizeOf313
  v77 := Tryz.zeroValue313 }
end Go.Proofs
end
section
namespace BS
def IsSet (l : List Int) : Prop := l.Pairwise (· < ·)
def Part (a b : List Int) : Prop := ∀ x ∈ a, x ∈ b
instance (l : List Int) : Decidable (IsSet l) := by unfold IsSet; infer_instance
instance (a b : List Int) : Decidable (Part a b) := by unfold Part; infer_instance
def partB (a b : List Int) : Bool := a.all fun x => b.contains x
theorem partB_iff {a b : List Int} : partB a b = true ↔ Part a b := by simp [partB, Part]
theorem Part.refl (a : List Int) : Part a a := fun _ h => h
theorem Part.trans {a b c : List Int} (h : Part a b) (k : Part b c) : Part a c := fun x hx => k x (h x hx)
theorem IsSet.nodup {l : List Int} (h : IsSet l) : l.Nodup := List.Pairwise.imp (fun h => by omega) h
theorem set_ext {a : List Int} : ∀ {b : List Int}, IsSet a → IsSet b → (∀ x, x ∈ a ↔ x ∈ b) → a = b := by
  induction a with
  | nil =>
    intro b _ _ h
    cases b with
    | nil => rfl
    | cons y b => exact absurd ((h y).2 List.mem_cons_self) (by simp)
  | cons x a ih =>
    intro b ha hb h
    cases b with
    | nil => exact absurd ((h x).1 List.mem_cons_self) (by simp)
    | cons y b =>
      obtain ⟨a1, a2⟩ := List.pairwise_cons.1 ha
      obtain ⟨b1, b2⟩ := List.pairwise_cons.1 hb
      have hxy : x = y := by
        have h1 := (h x).1 List.mem_cons_self
        have h2 := (h y).2 List.mem_cons_self
        rcases List.mem_cons.1 h1 with e | e
        · exact e
        · rcases List.mem_cons.1 h2 with e' | e'
          · exact e'.symm
          · have := b1 x e; have := a1 y e'; omega
      subst hxy
      congr 1
      refine ih a2 b2 fun z => ⟨fun hz => ?_, fun hz => ?_⟩
      · rcases List.mem_cons.1 ((h z).1 (List.mem_cons_of_mem _ hz)) with e | e
        · have := a1 z hz; omega
        · exact e
      · rcases List.mem_cons.1 ((h z).2 (List.mem_cons_of_mem _ hz)) with e | e
        · have := b1 z hz; omega
        · exact e
theorem part_antisymm {a b : List Int} (ha : IsSet a) (hb : IsSet b) (h : Part a b) (k : Part b a) : a = b := set_ext ha hb fun x => ⟨h x, k x⟩
theorem nodup_length {a : List Int} : ∀ {b : List Int}, a.Nodup → Part a b → a.length ≤ b.length := by
  induction a with
  | nil => exact fun _ _ => Nat.zero_le _
  | cons x a ih =>
    intro b hn h
    obtain ⟨n1, n2⟩ := List.nodup_cons.1 hn
    have hx : x ∈ b := h x List.mem_cons_self
    have h1 := ih (b := b.erase x) n2 fun y hy => (List.mem_erase_of_ne (fun (e : y = x) => n1 (e ▸ hy))).2 (h y (List.mem_cons_of_mem _ hy))
    rw [List.length_erase_of_mem hx] at h1
    have := List.length_pos_of_mem hx
    rw [List.length_cons]
    omega
theorem part_length {a b : List Int} (ha : IsSet a) (h : Part a b) : a.length ≤ b.length := nodup_length ha.nodup h
theorem part_same_length {a b : List Int} (ha : IsSet a) (hb : IsSet b) (h : Part a b) (hl : a.length = b.length) : a = b := by
  refine part_antisymm ha hb h fun y hy => Decidable.byContradiction fun hn => ?_
  have h1 := nodup_length (b := b.erase y) ha.nodup fun x hx => (List.mem_erase_of_ne (fun (e : x = y) => hn (e ▸ hx))).2 (h x hx)
  rw [List.length_erase_of_mem hy] at h1
  have := List.length_pos_of_mem hy
  omega
def lexlt : List Int → List Int → Bool
  | x :: a, y :: b => if x = y then lexlt a b else decide (x < y)
  | _, _ => false
def ahead (a b : List Int) : Bool := if a.length = b.length then lexlt a b else decide (a.length < b.length)
theorem lexlt_irrefl (a : List Int) : lexlt a a = false := by
  induction a with
  | nil => rfl
  | cons x a ih => simp [lexlt, ih]
theorem lexlt_trans : ∀ {a b c : List Int}, a.length = b.length → lexlt a b = true → lexlt b c = true → lexlt a c = true := by
  intro a
  induction a with
  | nil => intro b c _ h; simp [lexlt] at h
  | cons x a ih =>
    intro b c hl h k
    cases b with
    | nil => simp at hl
    | cons y b =>
      cases c with
      | nil => simp [lexlt] at k
      | cons z c =>
        simp only [lexlt] at *
        by_cases e1 : x = y
        · subst e1
          rw [if_pos rfl] at h
          by_cases e2 : x = z
          · subst e2
            rw [if_pos rfl] at k ⊢
            exact ih (by simpa using hl) h k
          · rw [if_neg e2] at k ⊢
            exact k
        · rw [if_neg e1] at h
          by_cases e2 : y = z
          · subst e2
            rw [if_neg e1]
            exact h
          · rw [if_neg e2] at k
            simp only [decide_eq_true_eq] at h k
            rw [if_neg (by omega)]
            simp only [decide_eq_true_eq]
            omega
theorem lexlt_total : ∀ {a b : List Int}, a.length = b.length → a ≠ b → lexlt a b = true ∨ lexlt b a = true := by
  intro a
  induction a with
  | nil => intro b hl h; cases b with
    | nil => exact absurd rfl h
    | cons y b => simp at hl
  | cons x a ih =>
    intro b hl h
    cases b with
    | nil => simp at hl
    | cons y b =>
      simp only [lexlt]
      by_cases e : x = y
      · subst e
        simp only [if_true]
        exact ih (by simpa using hl) (fun e => h (by rw [e]))
      · rw [if_neg e, if_neg (fun h => e h.symm)]
        simp only [decide_eq_true_eq]
        omega
theorem ahead_irrefl (a : List Int) : ahead a a = false := by simp [ahead, lexlt_irrefl]
theorem ahead_trans {a b c : List Int} (h : ahead a b = true) (k : ahead b c = true) : ahead a c = true := by
  unfold ahead at *
  by_cases e1 : a.length = b.length
  · rw [if_pos e1] at h
    by_cases e2 : b.length = c.length
    · rw [if_pos e2] at k
      rw [if_pos (by omega)]
      exact lexlt_trans e1 h k
    · rw [if_neg e2] at k
      rw [if_neg (by omega)]
      simp only [decide_eq_true_eq] at *
      omega
  · rw [if_neg e1] at h
    simp only [decide_eq_true_eq] at h
    by_cases e2 : b.length = c.length
    · rw [if_neg (by omega)]
      simp only [decide_eq_true_eq]
      omega
    · rw [if_neg e2] at k
      simp only [decide_eq_true_eq] at k
      rw [if_neg (by omega)]
      simp only [decide_eq_true_eq]
      omega
theorem ahead_total {a b : List Int} (h : a ≠ b) : ahead a b = true ∨ ahead b a = true := by
  unfold ahead
  by_cases e : a.length = b.length
  · rw [if_pos e, if_pos e.symm]
    exact lexlt_total e h
  · rw [if_neg e, if_neg (fun h => e h.symm)]
    simp only [decide_eq_true_eq]
    omega
def Ordered (L : List (List Int)) : Prop := L.Pairwise fun a b => ahead a b = true
theorem ordered_ext {L : List (List Int)} : ∀ {M : List (List Int)}, Ordered L → Ordered M → (∀ x, x ∈ L ↔ x ∈ M) → L = M := by
  induction L with
  | nil =>
    intro M _ _ h
    cases M with
    | nil => rfl
    | cons y M => exact absurd ((h y).2 List.mem_cons_self) (by simp)
  | cons x L ih =>
    intro M hL hM h
    cases M with
    | nil => exact absurd ((h x).1 List.mem_cons_self) (by simp)
    | cons y M =>
      obtain ⟨a1, a2⟩ := List.pairwise_cons.1 hL
      obtain ⟨b1, b2⟩ := List.pairwise_cons.1 hM
      have no : ∀ {z : List Int}, ahead z z = true → False := fun hz => by rw [ahead_irrefl] at hz; cases hz
      have hxy : x = y := by
        rcases List.mem_cons.1 ((h x).1 List.mem_cons_self) with e | e
        · exact e
        · rcases List.mem_cons.1 ((h y).2 List.mem_cons_self) with e' | e'
          · exact e'.symm
          · exact (no (ahead_trans (a1 y e') (b1 x e))).elim
      subst hxy
      congr 1
      refine ih a2 b2 fun z => ⟨fun hz => ?_, fun hz => ?_⟩
      · rcases List.mem_cons.1 ((h z).1 (List.mem_cons_of_mem _ hz)) with e | e
        · exact (no (e ▸ a1 z hz)).elim
        · exact e
      · rcases List.mem_cons.1 ((h z).2 (List.mem_cons_of_mem _ hz)) with e | e
        · exact (no (e ▸ b1 z hz)).elim
        · exact e
def place (L : List (List Int)) (x : List Int) : List (List Int) :=
  match L with
  | [] => [x]
  | y :: L => if ahead y x = true then y :: place L x else if y = x then y :: L else x :: y :: L
theorem mem_place {L : List (List Int)} {x z : List Int} : z ∈ place L x ↔ z = x ∨ z ∈ L := by
  induction L with
  | nil => simp [place]
  | cons y L ih =>
    unfold place
    split
    · rw [List.mem_cons, ih, List.mem_cons]
      constructor
      · rintro (h | h | h)
        · exact .inr (.inl h)
        · exact .inl h
        · exact .inr (.inr h)
      · rintro (h | h | h)
        · exact .inr (.inl h)
        · exact .inl h
        · exact .inr (.inr h)
    · split
      · rename_i h; subst h; simp
      · simp
theorem place_ordered {L : List (List Int)} (h : Ordered L) (x : List Int) : Ordered (place L x) := by
  induction L with
  | nil => simp [place, Ordered]
  | cons y L ih =>
    obtain ⟨h1, h2⟩ := List.pairwise_cons.1 h
    unfold place
    split
    · rename_i hyx
      refine List.pairwise_cons.2 ⟨fun z hz => ?_, ih h2⟩
      rcases mem_place.1 hz with e | e
      · rw [e]; exact hyx
      · exact h1 z e
    · rename_i hyx
      split
      · exact h
      · rename_i hne
        have hxy : ahead x y = true := (ahead_total (fun e => hne e.symm)).resolve_right hyx
        refine List.pairwise_cons.2 ⟨fun z hz => ?_, h⟩
        rcases List.mem_cons.1 hz with e | e
        · rw [e]; exact hxy
        · exact ahead_trans hxy (h1 z e)
def MinOf (F : List (List Int)) (x : List Int) : Prop := x ∈ F ∧ ∀ y ∈ F, Part y x → y = x
def Sets (F : List (List Int)) : Prop := ∀ x ∈ F, IsSet x
structure IsMinimal (F L : List (List Int)) : Prop where
  ord : Ordered L
  mem : ∀ x, x ∈ L ↔ MinOf F x
theorem IsMinimal.unique {F L M : List (List Int)} (h : IsMinimal F L) (k : IsMinimal F M) : L = M := ordered_ext h.ord k.ord fun x => (h.mem x).trans (k.mem x).symm
def minimalF (F : List (List Int)) : List (List Int) := (F.filter fun x => F.all fun y => !(partB y x) || y == x).foldl place []
theorem foldl_place (K : List (List Int)) : ∀ L, Ordered L → Ordered (K.foldl place L) ∧ ∀ x, x ∈ K.foldl place L ↔ x ∈ K ∨ x ∈ L := by
  induction K with
  | nil => exact fun L h => ⟨h, fun x => by simp⟩
  | cons y K ih =>
    intro L h
    obtain ⟨h1, h2⟩ := ih (place L y) (place_ordered h y)
    refine ⟨h1, fun x => ?_⟩
    rw [List.foldl_cons, h2, mem_place, List.mem_cons]
    constructor
    · rintro (h | h | h)
      · exact .inl (.inr h)
      · exact .inl (.inl h)
      · exact .inr h
    · rintro ((h | h) | h)
      · exact .inr (.inl h)
      · exact .inl h
      · exact .inr (.inr h)
theorem minimalF_spec (F : List (List Int)) : IsMinimal F (minimalF F) := by
  obtain ⟨h1, h2⟩ := foldl_place (F.filter fun x => F.all fun y => !(partB y x) || y == x) [] List.Pairwise.nil
  refine ⟨h1, fun x => ?_⟩
  show x ∈ List.foldl place [] _ ↔ _
  rw [h2]
  simp only [List.mem_filter, List.not_mem_nil, or_false, List.all_eq_true, Bool.or_eq_true, Bool.not_eq_true', beq_iff_eq, MinOf]
  constructor
  · rintro ⟨a, b⟩
    refine ⟨a, fun y hy hp => ?_⟩
    rcases b y hy with h | h
    · rw [partB_iff.2 hp] at h; cases h
    · exact h
  · rintro ⟨a, b⟩
    refine ⟨a, fun y hy => ?_⟩
    cases hp : partB y x with
    | false => exact .inl rfl
    | true => exact .inr (b y hy (partB_iff.1 hp))
theorem min_below {F : List (List Int)} (hF : Sets F) {x : List Int} (hx : x ∈ F) : ∃ y, MinOf F y ∧ Part y x := by
  have key : ∀ n, ∀ x ∈ F, x.length = n → ∃ y, MinOf F y ∧ Part y x := by
    intro n
    induction n using Nat.strongRecOn with
    | _ n ih =>
      intro x hx hn
      by_cases h : ∃ y ∈ F, Part y x ∧ y ≠ x
      · obtain ⟨y, hy, hp, hne⟩ := h
        have h1 := part_length (hF y hy) hp
        have h2 : y.length ≠ x.length := fun e => hne (part_same_length (hF y hy) (hF x hx) hp e)
        obtain ⟨z, hz, hzp⟩ := ih y.length (by omega) y hy rfl
        exact ⟨z, hz, hzp.trans hp⟩
      · exact ⟨x, ⟨hx, fun y hy hp => Decidable.byContradiction fun hne => h ⟨y, hy, hp, hne⟩⟩, Part.refl x⟩
  exact key _ x hx rfl
def sieve (K : List (List Int)) : List (List Int) := K.foldl (fun out x => if out.any (fun y => partB y x) then out else out ++ [x]) []
def WeakOrdered (K : List (List Int)) : Prop := K.Pairwise fun a b => ahead b a = false
theorem sieve_spec {F K : List (List Int)} (hF : Sets F) (hK : WeakOrdered K) (hm : ∀ x, x ∈ K ↔ x ∈ F) : IsMinimal F (sieve K) := by
  have key : ∀ (R : List (List Int)) (S : List (List Int)) (out : List (List Int)), S ++ R = K → Ordered out → (∀ x, x ∈ out ↔ x ∈ S ∧ MinOf F x) →
      Ordered (R.foldl (fun out x => if out.any (fun y => partB y x) then out else out ++ [x]) out) ∧ ∀ x, x ∈ R.foldl (fun out x => if out.any (fun y => partB y x) then out else out ++ [x]) out ↔ x ∈ K ∧ MinOf F x := by
    intro R
    induction R with
    | nil => intro S out hS ho hmem; rw [List.append_nil] at hS; subst hS; exact ⟨ho, hmem⟩
    | cons x R ih =>
      intro S out hS ho hmem
      rw [List.foldl_cons]
      have hxK : x ∈ K := by rw [← hS]; simp
      have hxF : x ∈ F := (hm x).1 hxK
      by_cases hany : out.any (fun y => partB y x) = true
      · rw [if_pos hany]
        refine ih (S ++ [x]) out (by simpa using hS) ho fun z => ?_
        rw [hmem z, List.mem_append, List.mem_singleton]
        constructor
        · exact fun h => ⟨.inl h.1, h.2⟩
        · rintro ⟨h | h, k⟩
          · exact ⟨h, k⟩
          · subst h
            obtain ⟨y, hy, hp⟩ := List.any_eq_true.1 hany
            obtain ⟨y1, y2⟩ := (hmem y).1 hy
            have : y = z := k.2 y y2.1 (partB_iff.1 hp)
            subst this
            exact ⟨y1, k⟩
      · rw [if_neg hany]
        have hmin : MinOf F x := by
          obtain ⟨y, hy, hp⟩ := min_below hF hxF
          by_cases hyx : y = x
          · rw [← hyx]; exact hy
          · exfalso
            have h1 := part_length (hF y hy.1) hp
            have h2 : y.length ≠ x.length := fun e => hyx (part_same_length (hF y hy.1) (hF x hxF) hp e)
            have hah : ahead y x = true := by unfold ahead; rw [if_neg h2]; simp only [decide_eq_true_eq]; omega
            have hyK : y ∈ S ++ x :: R := by rw [hS]; exact (hm y).2 hy.1
            rcases List.mem_append.1 hyK with h | h
            · exact hany (List.any_eq_true.2 ⟨y, (hmem y).2 ⟨h, hy⟩, partB_iff.2 hp⟩)
            · rcases List.mem_cons.1 h with e | e
              · exact hyx e
              · rw [WeakOrdered, ← hS] at hK
                have := (List.pairwise_cons.1 (List.pairwise_append.1 hK).2.1).1 y e
                rw [hah] at this
                cases this
        refine ih (S ++ [x]) (out ++ [x]) (by simpa using hS) ?_ fun z => ?_
        · refine List.pairwise_append.2 ⟨ho, List.pairwise_singleton _ _, fun a ha b hb => ?_⟩
          rw [List.mem_singleton.1 hb]
          obtain ⟨a1, a2⟩ := (hmem a).1 ha
          rw [WeakOrdered, ← hS] at hK
          have h1 := (List.pairwise_append.1 hK).2.2 a a1 x List.mem_cons_self
          refine (ahead_total (fun e => ?_)).resolve_right (by rw [h1]; simp)
          subst e
          exact hany (List.any_eq_true.2 ⟨a, ha, partB_iff.2 (Part.refl a)⟩)
        · rw [List.mem_append, List.mem_singleton, hmem z, List.mem_append, List.mem_singleton]
          constructor
          · rintro (h | h)
            · exact ⟨.inl h.1, h.2⟩
            · subst h; exact ⟨.inr rfl, hmin⟩
          · rintro ⟨h | h, k⟩
            · exact .inl ⟨h, k⟩
            · exact .inr h
  obtain ⟨h1, h2⟩ := key K [] [] rfl List.Pairwise.nil (by simp)
  refine ⟨h1, fun x => ?_⟩
  show x ∈ List.foldl _ _ _ ↔ _
  rw [h2, hm]
  exact ⟨fun h => h.2, fun h => ⟨h.1, h⟩⟩
def Hits (s : List Int) (F : List (List Int)) : Prop := ∀ l ∈ F, ∃ n, n ∈ l ∧ n ∈ s
def hitsB (s : List Int) (F : List (List Int)) : Bool := F.all fun l => l.any fun n => s.contains n
theorem hitsB_iff {s : List Int} {F : List (List Int)} : hitsB s F = true ↔ Hits s F := by simp [hitsB, Hits]
theorem Hits.mono {s t : List Int} {F : List (List Int)} (h : Hits s F) (hp : Part s t) : Hits t F := fun l hl => by
  obtain ⟨n, h1, h2⟩ := h l hl
  exact ⟨n, h1, hp n h2⟩
def MinHit (F : List (List Int)) (s : List Int) : Prop := IsSet s ∧ Hits s F ∧ ∀ i, i < s.length → ¬ Hits (s.eraseIdx i) F
theorem eraseIdx_set {s : List Int} (h : IsSet s) (i : Nat) : IsSet (s.eraseIdx i) := List.Pairwise.sublist (List.eraseIdx_sublist s i) h
theorem mem_eraseIdx_set {s : List Int} (h : IsSet s) {i : Nat} (hi : i < s.length) {x : Int} : x ∈ s.eraseIdx i ↔ x ∈ s ∧ x ≠ s[i] := by
  rw [List.mem_eraseIdx_iff_getElem]
  constructor
  · rintro ⟨j, hj, hne, rfl⟩
    exact ⟨List.getElem_mem hj, fun e => hne (List.getElem_inj h.nodup |>.1 e |>.symm ▸ rfl)⟩
  · rintro ⟨hm, hne⟩
    obtain ⟨j, hj, rfl⟩ := List.mem_iff_getElem.1 hm
    exact ⟨j, hj, fun e => hne (by subst e; rfl), rfl⟩
theorem MinHit.least {F : List (List Int)} {s t : List Int} (h : MinHit F s) (ht : IsSet t) (hh : Hits t F) (hp : Part t s) : t = s := by
  obtain ⟨h1, h2, h3⟩ := h
  refine part_antisymm ht h1 hp fun x hx => Decidable.byContradiction fun hn => ?_
  obtain ⟨i, hi, rfl⟩ := List.mem_iff_getElem.1 hx
  exact h3 i hi (hh.mono fun y hy => (mem_eraseIdx_set h1 hi).2 ⟨hp y hy, fun e => hn (e ▸ hy)⟩)
theorem minHit_of {F : List (List Int)} {s : List Int} (h1 : IsSet s) (h2 : Hits s F) (h3 : ∀ t, IsSet t → Hits t F → Part t s → t = s) : MinHit F s := by
  refine ⟨h1, h2, fun i hi hh => ?_⟩
  have := h3 _ (eraseIdx_set h1 i) hh (fun x hx => ((mem_eraseIdx_set h1 hi).1 hx).1)
  have hl := congrArg List.length this
  rw [List.length_eraseIdx_of_lt hi] at hl
  omega
structure IsHitting (F L : List (List Int)) : Prop where
  ord : Ordered L
  mem : ∀ x, x ∈ L ↔ MinHit F x
theorem IsHitting.unique {F L M : List (List Int)} (h : IsHitting F L) (k : IsHitting F M) : L = M := ordered_ext h.ord k.ord fun x => (h.mem x).trans (k.mem x).symm
theorem hitting_of_all {F A L : List (List Int)} (hA : ∀ s ∈ A, IsSet s ∧ Hits s F) (hb : ∀ t, IsSet t → Hits t F → ∃ s ∈ A, Part s t) (h : IsMinimal A L) : IsHitting F L := by
  refine ⟨h.ord, fun x => (h.mem x).trans ⟨fun hx => ?_, fun hx => ?_⟩⟩
  · obtain ⟨h1, h2⟩ := hx
    obtain ⟨s1, s2⟩ := hA x h1
    refine minHit_of s1 s2 fun t t1 t2 t3 => ?_
    obtain ⟨s, hs, hp⟩ := hb t t1 t2
    have e := h2 s hs (hp.trans t3)
    subst e
    exact part_antisymm t1 s1 t3 hp
  · obtain ⟨s, hs, hp⟩ := hb x hx.1 hx.2.1
    have e := hx.least (hA s hs).1 (hA s hs).2 hp
    subst e
    refine ⟨hs, fun y hy hyp => ?_⟩
    exact hx.least (hA y hy).1 (hA y hy).2 hyp
theorem hits_minimal {F M : List (List Int)} (hF : Sets F) (h : IsMinimal F M) (s : List Int) : Hits s M ↔ Hits s F := by
  constructor
  · intro hh l hl
    obtain ⟨y, hy, hp⟩ := min_below hF hl
    obtain ⟨n, h1, h2⟩ := hh y ((h.mem y).2 hy)
    exact ⟨n, hp n h1, h2⟩
  · exact fun hh l hl => hh l ((h.mem l).1 hl).1
theorem IsHitting.of_minimal {F M L : List (List Int)} (hF : Sets F) (h : IsMinimal F M) (k : IsHitting M L) : IsHitting F L := by
  refine ⟨k.ord, fun x => (k.mem x).trans ?_⟩
  unfold MinHit
  rw [hits_minimal hF h]
  constructor
  · rintro ⟨a, b, c⟩
    exact ⟨a, b, fun i hi hh => c i hi ((hits_minimal hF h _).2 hh)⟩
  · rintro ⟨a, b, c⟩
    exact ⟨a, b, fun i hi hh => c i hi ((hits_minimal hF h _).1 hh)⟩
end BS
end
section
namespace BS
structure Sp where
  lo : Int
  hi : Int
  deriving DecidableEq
structure Bx where
  x : Sp
  y : Sp
  deriving DecidableEq
structure Pt where
  x : Int
  y : Int
  deriving DecidableEq
structure Fc where
  id : Int
  kind : Int
  neg : Bool
  a : Int
  b : Int
  c : Int
  span : Sp
  quarter : Int
  deriving DecidableEq
structure Pb where
  boxes : List Bx
  facts : List Fc
  deriving DecidableEq
def z0 : Bx := ⟨⟨0, 0⟩, ⟨0, 0⟩⟩
def bx (l : List Bx) (i : Int) : Bx := l.getD i.toNat z0
def Sp.sub (a b : Sp) : Prop := b.lo ≤ a.lo ∧ a.hi ≤ b.hi
def Sp.ne (a : Sp) : Prop := a.lo ≤ a.hi
def Sp.has (a : Sp) (n : Int) : Prop := a.lo ≤ n ∧ n ≤ a.hi
def Bx.sub (a b : Bx) : Prop := a.x.sub b.x ∧ a.y.sub b.y
def Bx.ne (a : Bx) : Prop := a.x.ne ∧ a.y.ne
def Bx.has (a : Bx) (p : Pt) : Prop := a.x.has p.x ∧ a.y.has p.y
theorem Sp.sub_refl (a : Sp) : a.sub a := ⟨Int.le_refl _, Int.le_refl _⟩
theorem Sp.sub_trans {a b c : Sp} (h : a.sub b) (k : b.sub c) : a.sub c := ⟨Int.le_trans k.1 h.1, Int.le_trans h.2 k.2⟩
theorem Bx.sub_refl (a : Bx) : a.sub a := ⟨Sp.sub_refl _, Sp.sub_refl _⟩
theorem Bx.sub_trans {a b c : Bx} (h : a.sub b) (k : b.sub c) : a.sub c := ⟨Sp.sub_trans h.1 k.1, Sp.sub_trans h.2 k.2⟩
theorem Bx.sub_antisymm {a b : Bx} (h : a.sub b) (k : b.sub a) : a = b := by
  obtain ⟨⟨h1, h2⟩, h3, h4⟩ := h
  obtain ⟨⟨k1, k2⟩, k3, k4⟩ := k
  obtain ⟨⟨p, q⟩, r, s⟩ := a
  obtain ⟨⟨p', q'⟩, r', s'⟩ := b
  simp only at *
  obtain rfl : p = p' := by omega
  obtain rfl : q = q' := by omega
  obtain rfl : r = r' := by omega
  obtain rfl : s = s' := by omega
  rfl
theorem Bx.has_sub {a b : Bx} (h : a.sub b) {p : Pt} (hp : a.has p) : b.has p := by
  obtain ⟨⟨h1, h2⟩, h3, h4⟩ := h
  obtain ⟨⟨p1, p2⟩, p3, p4⟩ := hp
  exact ⟨⟨by omega, by omega⟩, by omega, by omega⟩
def less (a b : Sp) : Sp := ⟨a.lo - b.hi, a.hi - b.lo⟩
def amount (s : Sp) : Sp := if s.lo ≥ 0 then s else if s.hi ≤ 0 then ⟨-s.hi, -s.lo⟩ else ⟨0, max (-s.lo) s.hi⟩
def turnOf (a b c : Pt) : Int := (b.x - a.x) * (c.y - a.y) - (b.y - a.y) * (c.x - a.x)
def corners (b : Bx) : List Pt := [⟨b.x.lo, b.y.lo⟩, ⟨b.x.lo, b.y.hi⟩, ⟨b.x.hi, b.y.lo⟩, ⟨b.x.hi, b.y.hi⟩]
theorem less_mono {a b a' b' : Sp} (h : a.sub a') (k : b.sub b') : (less a b).sub (less a' b') := by
  obtain ⟨h1, h2⟩ := h
  obtain ⟨k1, k2⟩ := k
  exact ⟨by simp only [less]; omega, by simp only [less]; omega⟩
theorem less_ne {a b : Sp} (h : a.ne) (k : b.ne) : (less a b).ne := by
  simp only [less, Sp.ne] at *
  omega
theorem amount_mono {a b : Sp} (h : a.sub b) (ha : a.ne) : (amount a).sub (amount b) := by
  obtain ⟨h1, h2⟩ := h
  simp only [Sp.ne] at ha
  unfold amount
  split <;> split <;> (try split) <;> (try split) <;> simp only [Sp.sub] <;> omega
theorem amount_ne {a : Sp} (h : a.ne) : (amount a).ne ∧ 0 ≤ (amount a).lo := by
  simp only [Sp.ne] at *
  unfold amount
  split
  · exact ⟨h, by omega⟩
  · split
    · exact ⟨by simp only; omega, by simp only; omega⟩
    · exact ⟨by simp only; omega, Int.le_refl _⟩
def turnsOf (a b c : Bx) : List Int := (corners a).flatMap fun p => (corners b).flatMap fun q => (corners c).map fun r => turnOf p q r
def lowest (l : List Int) : Int := l.foldl min (l.headD 0)
def highest (l : List Int) : Int := l.foldl max (l.headD 0)
def turnSpan (a b c : Bx) : Sp := ⟨lowest (turnsOf a b c), highest (turnsOf a b c)⟩
theorem foldl_min_le (l : List Int) : ∀ s, l.foldl min s ≤ s ∧ ∀ x ∈ l, l.foldl min s ≤ x := by
  induction l with
  | nil => exact fun s => ⟨Int.le_refl _, fun x h => by cases h⟩
  | cons y l ih =>
    intro s
    obtain ⟨h1, h2⟩ := ih (min s y)
    refine ⟨by simp only [List.foldl_cons]; omega, fun x hx => ?_⟩
    simp only [List.foldl_cons]
    cases hx with
    | head => omega
    | tail _ h => exact h2 x h
theorem foldl_min_mem (l : List Int) : ∀ s, l.foldl min s = s ∨ l.foldl min s ∈ l := by
  induction l with
  | nil => exact fun s => .inl rfl
  | cons y l ih =>
    intro s
    simp only [List.foldl_cons]
    rcases ih (min s y) with h | h
    · by_cases hs : s ≤ y
      · left; rw [h]; omega
      · right; rw [h, show min s y = y by omega]; exact List.mem_cons_self
    · exact .inr (List.mem_cons_of_mem _ h)
theorem foldl_max_le (l : List Int) : ∀ s, s ≤ l.foldl max s ∧ ∀ x ∈ l, x ≤ l.foldl max s := by
  induction l with
  | nil => exact fun s => ⟨Int.le_refl _, fun x h => by cases h⟩
  | cons y l ih =>
    intro s
    obtain ⟨h1, h2⟩ := ih (max s y)
    refine ⟨by simp only [List.foldl_cons]; omega, fun x hx => ?_⟩
    simp only [List.foldl_cons]
    cases hx with
    | head => omega
    | tail _ h => exact h2 x h
theorem foldl_max_mem (l : List Int) : ∀ s, l.foldl max s = s ∨ l.foldl max s ∈ l := by
  induction l with
  | nil => exact fun s => .inl rfl
  | cons y l ih =>
    intro s
    simp only [List.foldl_cons]
    rcases ih (max s y) with h | h
    · by_cases hs : y ≤ s
      · left; rw [h]; omega
      · right; rw [h, show max s y = y by omega]; exact List.mem_cons_self
    · exact .inr (List.mem_cons_of_mem _ h)
theorem lowest_le {l : List Int} {x : Int} (h : x ∈ l) : lowest l ≤ x := (foldl_min_le l _).2 x h
theorem le_highest {l : List Int} {x : Int} (h : x ∈ l) : x ≤ highest l := (foldl_max_le l _).2 x h
theorem lowest_mem {l : List Int} (h : l ≠ []) : lowest l ∈ l := by
  rcases foldl_min_mem l (l.headD 0) with h' | h'
  · unfold lowest; rw [h']; cases l with
    | nil => exact absurd rfl h
    | cons y l => exact List.mem_cons_self
  · exact h'
theorem highest_mem {l : List Int} (h : l ≠ []) : highest l ∈ l := by
  rcases foldl_max_mem l (l.headD 0) with h' | h'
  · unfold highest; rw [h']; cases l with
    | nil => exact absurd rfl h
    | cons y l => exact List.mem_cons_self
  · exact h'
theorem turnsOf_ne (a b c : Bx) : turnsOf a b c ≠ [] := by simp [turnsOf, corners]
theorem mem_turnsOf {a b c : Bx} {n : Int} : n ∈ turnsOf a b c ↔ ∃ p ∈ corners a, ∃ q ∈ corners b, ∃ r ∈ corners c, n = turnOf p q r := by
  simp only [turnsOf, List.mem_flatMap, List.mem_map]
  constructor
  · rintro ⟨p, hp, q, hq, r, hr, h⟩
    exact ⟨p, hp, q, hq, r, hr, h.symm⟩
  · rintro ⟨p, hp, q, hq, r, hr, h⟩
    exact ⟨p, hp, q, hq, r, hr, h.symm⟩
theorem mem_corners {b : Bx} {p : Pt} : p ∈ corners b ↔ (p.x = b.x.lo ∨ p.x = b.x.hi) ∧ (p.y = b.y.lo ∨ p.y = b.y.hi) := by
  obtain ⟨px, py⟩ := p
  simp only [corners, List.mem_cons, List.not_mem_nil, or_false, Pt.mk.injEq]
  constructor
  · rintro (⟨h, k⟩ | ⟨h, k⟩ | ⟨h, k⟩ | ⟨h, k⟩) <;> simp [h, k]
  · rintro ⟨h | h, k | k⟩ <;> simp [h, k]
theorem corner_has {b : Bx} (h : b.ne) {p : Pt} (hp : p ∈ corners b) : b.has p := by
  obtain ⟨h1, h2⟩ := h
  simp only [Sp.ne] at *
  obtain ⟨hx, hy⟩ := mem_corners.1 hp
  refine ⟨⟨?_, ?_⟩, ?_, ?_⟩ <;> omega
theorem end_le (p q lo hi x : Int) (h : lo ≤ x ∧ x ≤ hi) : ∃ e, (e = lo ∨ e = hi) ∧ p * e + q ≤ p * x + q := by
  by_cases hp : 0 ≤ p
  · exact ⟨lo, .inl rfl, by have := Int.mul_le_mul_of_nonneg_left h.1 hp; omega⟩
  · exact ⟨hi, .inr rfl, by have := Int.mul_le_mul_of_nonpos_left (show p ≤ 0 by omega) h.2; omega⟩
theorem le_end (p q lo hi x : Int) (h : lo ≤ x ∧ x ≤ hi) : ∃ e, (e = lo ∨ e = hi) ∧ p * x + q ≤ p * e + q := by
  obtain ⟨e, he, hle⟩ := end_le (-p) (-q) lo hi x h
  exact ⟨e, he, by rw [Int.neg_mul, Int.neg_mul] at hle; omega⟩
theorem turn_ax (a b c : Pt) (e : Int) : turnOf ⟨e, a.y⟩ b c = (b.y - c.y) * e + (b.x * (c.y - a.y) - (b.y - a.y) * c.x) := by
  simp only [turnOf]; grind
theorem turn_ay (a b c : Pt) (e : Int) : turnOf ⟨a.x, e⟩ b c = (c.x - b.x) * e + ((b.x - a.x) * c.y - b.y * (c.x - a.x)) := by
  simp only [turnOf]; grind
theorem turn_bx (a b c : Pt) (e : Int) : turnOf a ⟨e, b.y⟩ c = (c.y - a.y) * e + (- a.x * (c.y - a.y) - (b.y - a.y) * (c.x - a.x)) := by
  simp only [turnOf]; grind
theorem turn_by (a b c : Pt) (e : Int) : turnOf a ⟨b.x, e⟩ c = (a.x - c.x) * e + ((b.x - a.x) * (c.y - a.y) + a.y * (c.x - a.x)) := by
  simp only [turnOf]; grind
theorem turn_cx (a b c : Pt) (e : Int) : turnOf a b ⟨e, c.y⟩ = (a.y - b.y) * e + ((b.x - a.x) * (c.y - a.y) + (b.y - a.y) * a.x) := by
  simp only [turnOf]; grind
theorem turn_cy (a b c : Pt) (e : Int) : turnOf a b ⟨c.x, e⟩ = (b.x - a.x) * e + (- (b.x - a.x) * a.y - (b.y - a.y) * (c.x - a.x)) := by
  simp only [turnOf]; grind
theorem turn_low {A B C : Bx} {a b c : Pt} (ha : A.has a) (hb : B.has b) (hc : C.has c) : ∃ p ∈ corners A, ∃ q ∈ corners B, ∃ r ∈ corners C, turnOf p q r ≤ turnOf a b c := by
  obtain ⟨e1, h1, l1⟩ := end_le (b.y - c.y) (b.x * (c.y - a.y) - (b.y - a.y) * c.x) _ _ a.x ha.1
  rw [← turn_ax, ← turn_ax] at l1
  obtain ⟨e2, h2, l2⟩ := end_le (c.x - b.x) ((b.x - e1) * c.y - b.y * (c.x - e1)) _ _ a.y ha.2
  have t2 := fun e => turn_ay ⟨e1, a.y⟩ b c e
  simp only at t2
  rw [← t2, ← t2] at l2
  obtain ⟨e3, h3, l3⟩ := end_le (c.y - e2) (- e1 * (c.y - e2) - (b.y - e2) * (c.x - e1)) _ _ b.x hb.1
  have t3 := fun e => turn_bx ⟨e1, e2⟩ b c e
  simp only at t3
  rw [← t3, ← t3] at l3
  obtain ⟨e4, h4, l4⟩ := end_le (e1 - c.x) ((e3 - e1) * (c.y - e2) + e2 * (c.x - e1)) _ _ b.y hb.2
  have t4 := fun e => turn_by ⟨e1, e2⟩ ⟨e3, b.y⟩ c e
  simp only at t4
  rw [← t4, ← t4] at l4
  obtain ⟨e5, h5, l5⟩ := end_le (e2 - e4) ((e3 - e1) * (c.y - e2) + (e4 - e2) * e1) _ _ c.x hc.1
  have t5 := fun e => turn_cx ⟨e1, e2⟩ ⟨e3, e4⟩ c e
  simp only at t5
  rw [← t5, ← t5] at l5
  obtain ⟨e6, h6, l6⟩ := end_le (e3 - e1) (- (e3 - e1) * e2 - (e4 - e2) * (e5 - e1)) _ _ c.y hc.2
  have t6 := fun e => turn_cy ⟨e1, e2⟩ ⟨e3, e4⟩ ⟨e5, c.y⟩ e
  simp only at t6
  rw [← t6, ← t6] at l6
  exact ⟨⟨e1, e2⟩, mem_corners.2 ⟨h1, h2⟩, ⟨e3, e4⟩, mem_corners.2 ⟨h3, h4⟩, ⟨e5, e6⟩, mem_corners.2 ⟨h5, h6⟩, by
    have : turnOf ⟨a.x, a.y⟩ b c = turnOf a b c := rfl
    have : turnOf ⟨e1, e2⟩ ⟨b.x, b.y⟩ c = turnOf ⟨e1, e2⟩ b c := rfl
    have : turnOf ⟨e1, e2⟩ ⟨e3, e4⟩ ⟨c.x, c.y⟩ = turnOf ⟨e1, e2⟩ ⟨e3, e4⟩ c := rfl
    omega⟩
theorem turn_high {A B C : Bx} {a b c : Pt} (ha : A.has a) (hb : B.has b) (hc : C.has c) : ∃ p ∈ corners A, ∃ q ∈ corners B, ∃ r ∈ corners C, turnOf a b c ≤ turnOf p q r := by
  obtain ⟨e1, h1, l1⟩ := le_end (b.y - c.y) (b.x * (c.y - a.y) - (b.y - a.y) * c.x) _ _ a.x ha.1
  rw [← turn_ax, ← turn_ax] at l1
  obtain ⟨e2, h2, l2⟩ := le_end (c.x - b.x) ((b.x - e1) * c.y - b.y * (c.x - e1)) _ _ a.y ha.2
  have t2 := fun e => turn_ay ⟨e1, a.y⟩ b c e
  simp only at t2
  rw [← t2, ← t2] at l2
  obtain ⟨e3, h3, l3⟩ := le_end (c.y - e2) (- e1 * (c.y - e2) - (b.y - e2) * (c.x - e1)) _ _ b.x hb.1
  have t3 := fun e => turn_bx ⟨e1, e2⟩ b c e
  simp only at t3
  rw [← t3, ← t3] at l3
  obtain ⟨e4, h4, l4⟩ := le_end (e1 - c.x) ((e3 - e1) * (c.y - e2) + e2 * (c.x - e1)) _ _ b.y hb.2
  have t4 := fun e => turn_by ⟨e1, e2⟩ ⟨e3, b.y⟩ c e
  simp only at t4
  rw [← t4, ← t4] at l4
  obtain ⟨e5, h5, l5⟩ := le_end (e2 - e4) ((e3 - e1) * (c.y - e2) + (e4 - e2) * e1) _ _ c.x hc.1
  have t5 := fun e => turn_cx ⟨e1, e2⟩ ⟨e3, e4⟩ c e
  simp only at t5
  rw [← t5, ← t5] at l5
  obtain ⟨e6, h6, l6⟩ := le_end (e3 - e1) (- (e3 - e1) * e2 - (e4 - e2) * (e5 - e1)) _ _ c.y hc.2
  have t6 := fun e => turn_cy ⟨e1, e2⟩ ⟨e3, e4⟩ ⟨e5, c.y⟩ e
  simp only at t6
  rw [← t6, ← t6] at l6
  exact ⟨⟨e1, e2⟩, mem_corners.2 ⟨h1, h2⟩, ⟨e3, e4⟩, mem_corners.2 ⟨h3, h4⟩, ⟨e5, e6⟩, mem_corners.2 ⟨h5, h6⟩, by
    have : turnOf ⟨a.x, a.y⟩ b c = turnOf a b c := rfl
    have : turnOf ⟨e1, e2⟩ ⟨b.x, b.y⟩ c = turnOf ⟨e1, e2⟩ b c := rfl
    have : turnOf ⟨e1, e2⟩ ⟨e3, e4⟩ ⟨c.x, c.y⟩ = turnOf ⟨e1, e2⟩ ⟨e3, e4⟩ c := rfl
    omega⟩
theorem turnSpan_mono {A B C A' B' C' : Bx} (hA : A.sub A') (hB : B.sub B') (hC : C.sub C') (nA : A.ne) (nB : B.ne) (nC : C.ne) : (turnSpan A B C).sub (turnSpan A' B' C') := by
  constructor
  · obtain ⟨p, hp, q, hq, r, hr, h⟩ := mem_turnsOf.1 (lowest_mem (turnsOf_ne A B C))
    obtain ⟨p', hp', q', hq', r', hr', h'⟩ := turn_low (Bx.has_sub hA (corner_has nA hp)) (Bx.has_sub hB (corner_has nB hq)) (Bx.has_sub hC (corner_has nC hr))
    have := lowest_le (mem_turnsOf.2 ⟨p', hp', q', hq', r', hr', rfl⟩)
    show lowest (turnsOf A' B' C') ≤ lowest (turnsOf A B C)
    omega
  · obtain ⟨p, hp, q, hq, r, hr, h⟩ := mem_turnsOf.1 (highest_mem (turnsOf_ne A B C))
    obtain ⟨p', hp', q', hq', r', hr', h'⟩ := turn_high (Bx.has_sub hA (corner_has nA hp)) (Bx.has_sub hB (corner_has nB hq)) (Bx.has_sub hC (corner_has nC hr))
    have := le_highest (mem_turnsOf.2 ⟨p', hp', q', hq', r', hr', rfl⟩)
    show highest (turnsOf A B C) ≤ highest (turnsOf A' B' C')
    omega
def valued (s v : Sp) : Bool × Bool := (decide (v.lo ≤ s.hi) && decide (s.lo ≤ v.hi), decide (s.lo ≤ v.lo) && decide (v.hi ≤ s.hi))
def distSpan (x y : Sp) : Sp := ⟨(amount x).lo * (amount x).lo + (amount y).lo * (amount y).lo, (amount x).hi * (amount x).hi + (amount y).hi * (amount y).hi⟩
def dx (f : Fc) (l : List Bx) : Sp := less (bx l f.b).x (bx l f.a).x
def dy (f : Fc) (l : List Bx) : Sp := less (bx l f.b).y (bx l f.a).y
def negSp (s : Sp) : Sp := ⟨-s.hi, -s.lo⟩
def quarterOn (q : Int) (x y : Sp) : Sp × Sp := if q = 1 then (y, x) else if q = 2 then (negSp x, y) else if q = 3 then (negSp y, x) else (x, y)
def quarterB (q : Int) (x y : Sp) : Bool × Bool :=
  let u := (quarterOn q x y).1
  let w := amount (quarterOn q x y).2
  (decide (u.hi > 0) && decide (u.hi ≥ w.lo), decide (u.lo > 0) && decide (u.lo ≥ w.hi))
def nearB (s x y : Sp) : Bool × Bool := (decide (max (amount x).lo (amount y).lo ≤ s.hi), decide (max (amount x).hi (amount y).hi ≤ s.hi))
def bare (f : Fc) (l : List Bx) : Bool × Bool :=
  if f.kind = 2 then valued f.span (turnSpan (bx l f.a) (bx l f.b) (bx l f.c))
  else if f.kind = 3 then quarterB f.quarter (dx f l) (dy f l)
  else if f.kind = 4 then nearB f.span (dx f l) (dy f l)
  else if f.kind = 5 then valued f.span (dx f l)
  else if f.kind = 6 then valued f.span (dy f l)
  else valued f.span (distSpan (dx f l) (dy f l))
def fails (f : Fc) (l : List Bx) : Bool := if f.neg then (bare f l).2 else !(bare f l).1
structure SubV (m l : List Bx) : Prop where
  len : m.length = l.length
  sub : ∀ i, (m.getD i z0).sub (l.getD i z0)
def NeV (l : List Bx) : Prop := ∀ i, (l.getD i z0).ne
theorem SubV.refl (l : List Bx) : SubV l l := ⟨rfl, fun _ => Bx.sub_refl _⟩
theorem SubV.trans {a b c : List Bx} (h : SubV a b) (k : SubV b c) : SubV a c := ⟨h.len.trans k.len, fun i => Bx.sub_trans (h.sub i) (k.sub i)⟩
theorem SubV.antisymm {a b : List Bx} (h : SubV a b) (k : SubV b a) : a = b := by
  apply List.ext_getElem h.len
  intro i h1 h2
  have := Bx.sub_antisymm (h.sub i) (k.sub i)
  simpa [List.getD_eq_getElem?_getD, List.getElem?_eq_getElem h1, List.getElem?_eq_getElem h2] using this
theorem valued_mono {s v v' : Sp} (h : v.sub v') : ((valued s v).1 = true → (valued s v').1 = true) ∧ ((valued s v').2 = true → (valued s v).2 = true) := by
  obtain ⟨h1, h2⟩ := h
  simp only [valued, Bool.and_eq_true, decide_eq_true_eq]
  omega
theorem distSpan_mono {x y x' y' : Sp} (hx : x.sub x') (hy : y.sub y') (nx : x.ne) (ny : y.ne) : (distSpan x y).sub (distSpan x' y') := by
  obtain ⟨a1, a2⟩ := amount_mono hx nx
  obtain ⟨b1, b2⟩ := amount_mono hy ny
  obtain ⟨n1, p1⟩ := amount_ne nx
  obtain ⟨n2, p2⟩ := amount_ne ny
  have n3 : x'.ne := by obtain ⟨h1, h2⟩ := hx; simp only [Sp.ne] at *; omega
  have n4 : y'.ne := by obtain ⟨h1, h2⟩ := hy; simp only [Sp.ne] at *; omega
  obtain ⟨_, p3⟩ := amount_ne n3
  obtain ⟨_, p4⟩ := amount_ne n4
  simp only [Sp.ne] at n1 n2
  constructor
  · have := Int.mul_le_mul a1 a1 p3 p1
    have := Int.mul_le_mul b1 b1 p4 p2
    simp only [distSpan]
    omega
  · have := Int.mul_le_mul a2 a2 (show 0 ≤ (amount x).hi by omega) (show 0 ≤ (amount x').hi by omega)
    have := Int.mul_le_mul b2 b2 (show 0 ≤ (amount y).hi by omega) (show 0 ≤ (amount y').hi by omega)
    simp only [distSpan]
    omega
theorem negSp_mono {a b : Sp} (h : a.sub b) : (negSp a).sub (negSp b) := by
  obtain ⟨h1, h2⟩ := h
  exact ⟨by simp only [negSp]; omega, by simp only [negSp]; omega⟩
theorem quarterOn_mono {q : Int} {x y x' y' : Sp} (hx : x.sub x') (hy : y.sub y') (nx : x.ne) (ny : y.ne) :
    (quarterOn q x y).1.sub (quarterOn q x' y').1 ∧ (quarterOn q x y).2.sub (quarterOn q x' y').2 ∧ (quarterOn q x y).2.ne := by
  unfold quarterOn
  split
  · exact ⟨hy, hx, nx⟩
  · split
    · exact ⟨negSp_mono hx, hy, ny⟩
    · split
      · exact ⟨negSp_mono hy, hx, nx⟩
      · exact ⟨hx, hy, ny⟩
theorem quarterB_mono {q : Int} {x y x' y' : Sp} (hx : x.sub x') (hy : y.sub y') (nx : x.ne) (ny : y.ne) :
    ((quarterB q x y).1 = true → (quarterB q x' y').1 = true) ∧ ((quarterB q x' y').2 = true → (quarterB q x y).2 = true) := by
  obtain ⟨⟨h1, h2⟩, h3, h4⟩ := quarterOn_mono (q := q) hx hy nx ny
  obtain ⟨a1, a2⟩ := amount_mono h3 h4
  simp only [quarterB, Bool.and_eq_true, decide_eq_true_eq]
  omega
theorem nearB_mono {s x y x' y' : Sp} (hx : x.sub x') (hy : y.sub y') (nx : x.ne) (ny : y.ne) :
    ((nearB s x y).1 = true → (nearB s x' y').1 = true) ∧ ((nearB s x' y').2 = true → (nearB s x y).2 = true) := by
  obtain ⟨a1, a2⟩ := amount_mono hx nx
  obtain ⟨b1, b2⟩ := amount_mono hy ny
  simp only [nearB, decide_eq_true_eq]
  omega
theorem bare_mono (f : Fc) {m l : List Bx} (hs : SubV m l) (hn : NeV m) : ((bare f m).1 = true → (bare f l).1 = true) ∧ ((bare f l).2 = true → (bare f m).2 = true) := by
  have sb := fun i : Int => hs.sub i.toNat
  have nb := fun i : Int => hn i.toNat
  have hdx : (dx f m).sub (dx f l) := less_mono (sb f.b).1 (sb f.a).1
  have hdy : (dy f m).sub (dy f l) := less_mono (sb f.b).2 (sb f.a).2
  have ndx : (dx f m).ne := less_ne (nb f.b).1 (nb f.a).1
  have ndy : (dy f m).ne := less_ne (nb f.b).2 (nb f.a).2
  unfold bare
  split
  · exact valued_mono (turnSpan_mono (sb _) (sb _) (sb _) (nb _) (nb _) (nb _))
  · split
    · exact quarterB_mono hdx hdy ndx ndy
    · split
      · exact nearB_mono hdx hdy ndx ndy
      · split
        · exact valued_mono hdx
        · split
          · exact valued_mono hdy
          · exact valued_mono (distSpan_mono hdx hdy ndx ndy)
theorem fails_mono (f : Fc) {m l : List Bx} (hs : SubV m l) (hn : NeV m) (h : fails f l = true) : fails f m = true := by
  obtain ⟨h1, h2⟩ := bare_mono f hs hn
  unfold fails at *
  split
  · rename_i hneg; rw [if_pos hneg] at h; exact h2 h
  · rename_i hneg
    rw [if_neg hneg] at h
    cases hb : (bare f m).1 with
    | false => rfl
    | true => rw [h1 hb] at h; cases h
def single (p : Pt) : Bx := ⟨⟨p.x, p.x⟩, ⟨p.y, p.y⟩⟩
def singles (l : List Pt) : List Bx := l.map single
def holds (f : Fc) (l : List Pt) : Bool := !(fails f (singles l))
theorem NeV.singles (l : List Pt) : NeV (singles l) := by
  intro i
  rw [List.getD_eq_getElem?_getD, BS.singles, List.getElem?_map]
  cases l[i]? with
  | none => exact ⟨Int.le_refl _, Int.le_refl _⟩
  | some p => exact ⟨Int.le_refl _, Int.le_refl _⟩
end BS
end
section
namespace BS
def stripB (b : Bx) (k : Nat) : Bx :=
  match k with
  | 0 => ⟨⟨b.x.lo, b.x.lo⟩, b.y⟩
  | 1 => ⟨⟨b.x.hi, b.x.hi⟩, b.y⟩
  | 2 => ⟨b.x, ⟨b.y.lo, b.y.lo⟩⟩
  | _ => ⟨b.x, ⟨b.y.hi, b.y.hi⟩⟩
def cutB (b : Bx) (k : Nat) : Bx :=
  match k with
  | 0 => ⟨⟨b.x.lo + 1, b.x.hi⟩, b.y⟩
  | 1 => ⟨⟨b.x.lo, b.x.hi - 1⟩, b.y⟩
  | 2 => ⟨b.x, ⟨b.y.lo + 1, b.y.hi⟩⟩
  | _ => ⟨b.x, ⟨b.y.lo, b.y.hi - 1⟩⟩
def spanB (b : Bx) (k : Nat) : Sp := match k with | 0 => b.x | 1 => b.x | 2 => b.y | _ => b.y
def stripV (l : List Bx) (i k : Nat) : List Bx := l.set i (stripB (l.getD i z0) k)
def cutV (l : List Bx) (i k : Nat) : List Bx := l.set i (cutB (l.getD i z0) k)
def failsAny (F : List Fc) (l : List Bx) : Bool := F.any fun f => fails f l
def Stable (F : List Fc) (l : List Bx) : Prop := ∀ i, i < l.length → ∀ k, k < 4 → failsAny F (stripV l i k) = false
theorem getD_set (l : List Bx) (i : Nat) (b : Bx) (j : Nat) : (l.set i b).getD j z0 = if i = j ∧ i < l.length then b else l.getD j z0 := by
  simp only [List.getD_eq_getElem?_getD, List.getElem?_set]
  by_cases h : i = j
  · subst h
    by_cases hi : i < l.length
    · simp [hi]
    · simp [hi]
  · simp [h]
theorem stripB_sub {b : Bx} (h : b.ne) (k : Nat) : (stripB b k).sub b := by
  obtain ⟨h1, h2⟩ := h
  simp only [Sp.ne] at *
  unfold stripB
  split <;> refine ⟨⟨?_, ?_⟩, ?_, ?_⟩ <;> simp only <;> omega
theorem stripB_ne {b : Bx} (h : b.ne) (k : Nat) : (stripB b k).ne := by
  obtain ⟨h1, h2⟩ := h
  simp only [Sp.ne] at *
  unfold stripB
  split <;> refine ⟨?_, ?_⟩ <;> simp only [Sp.ne] <;> omega
theorem stripV_sub {l : List Bx} (h : NeV l) (i k : Nat) : SubV (stripV l i k) l := by
  refine ⟨by simp [stripV], fun j => ?_⟩
  rw [stripV, getD_set]
  split
  · rename_i hj
    obtain ⟨rfl, _⟩ := hj
    exact stripB_sub (h _) k
  · exact Bx.sub_refl _
theorem stripV_ne {l : List Bx} (h : NeV l) (i k : Nat) : NeV (stripV l i k) := by
  intro j
  rw [stripV, getD_set]
  split
  · exact stripB_ne (h _) k
  · exact h j
theorem stripV_length (l : List Bx) (i k : Nat) : (stripV l i k).length = l.length := by simp [stripV]
theorem cutV_length (l : List Bx) (i k : Nat) : (cutV l i k).length = l.length := by simp [cutV]
theorem failsAny_mono (F : List Fc) {m l : List Bx} (hs : SubV m l) (hn : NeV m) (h : failsAny F l = true) : failsAny F m = true := by
  simp only [failsAny, List.any_eq_true] at *
  obtain ⟨f, hf, h⟩ := h
  exact ⟨f, hf, fails_mono f hs hn h⟩
theorem failsAny_of {F : List Fc} {f : Fc} (hf : f ∈ F) {l : List Bx} (h : fails f l = true) : failsAny F l = true := List.any_eq_true.2 ⟨f, hf, h⟩
theorem strip_or_cut {b c : Bx} (h : b.sub c) (hb : b.ne) (k : Nat) : (stripB b k).sub (stripB c k) ∨ ((spanB c k).lo < (spanB c k).hi ∧ b.sub (cutB c k)) := by
  obtain ⟨⟨p, q⟩, r, s⟩ := b
  obtain ⟨⟨p', q'⟩, r', s'⟩ := c
  simp only [Bx.sub, Sp.sub, Bx.ne, Sp.ne] at h hb
  unfold stripB spanB cutB
  split <;> simp only [Bx.sub, Sp.sub] <;> omega
theorem step_keeps {F : List Fc} {m l : List Bx} {i k : Nat} (hs : SubV m l) (hn : NeV m) (hm : Stable F m) (hi : i < l.length) (hk : k < 4) (hf : failsAny F (stripV l i k) = true) :
    (spanB (l.getD i z0) k).lo < (spanB (l.getD i z0) k).hi ∧ SubV m (cutV l i k) := by
  have hmi : i < m.length := by rw [hs.len]; exact hi
  have key : ¬ SubV (stripV m i k) (stripV l i k) := by
    intro hsub
    have h1 := failsAny_mono F hsub (stripV_ne hn i k) hf
    rw [hm i hmi k hk] at h1
    cases h1
  have hb := hs.sub i
  have hne := hn i
  have aux : (stripB (m.getD i z0) k).sub (stripB (l.getD i z0) k) → False := by
    intro h
    refine key ⟨by simp [stripV, hs.len], fun j => ?_⟩
    rw [stripV, stripV, getD_set, getD_set]
    by_cases hj : i = j
    · subst hj
      rw [if_pos ⟨rfl, hmi⟩, if_pos ⟨rfl, hi⟩]
      exact h
    · rw [if_neg (fun h => hj h.1), if_neg (fun h => hj h.1)]
      exact hs.sub j
  have cut := (strip_or_cut hb hne k).resolve_left aux
  refine ⟨cut.1, by simp [cutV, hs.len], fun j => ?_⟩
  rw [cutV, getD_set]
  split
  · rename_i hj
    obtain ⟨rfl, _⟩ := hj
    exact cut.2
  · exact hs.sub j
theorem cutB_sub (b : Bx) (k : Nat) : (cutB b k).sub b := by
  unfold cutB
  split <;> refine ⟨⟨?_, ?_⟩, ?_, ?_⟩ <;> simp only <;> omega
theorem cutB_ne {b : Bx} (h : b.ne) {k : Nat} (hlt : (spanB b k).lo < (spanB b k).hi) : (cutB b k).ne := by
  obtain ⟨h1, h2⟩ := h
  simp only [Sp.ne] at *
  unfold cutB
  unfold spanB at hlt
  split <;> simp only at hlt <;> refine ⟨?_, ?_⟩ <;> simp only [Sp.ne] <;> omega
theorem cutV_sub (l : List Bx) (i k : Nat) : SubV (cutV l i k) l := by
  refine ⟨by simp [cutV], fun j => ?_⟩
  rw [cutV, getD_set]
  split
  · rename_i hj
    obtain ⟨rfl, _⟩ := hj
    exact cutB_sub _ k
  · exact Bx.sub_refl _
theorem cutV_ne {l : List Bx} (h : NeV l) {i k : Nat} (hlt : (spanB (l.getD i z0) k).lo < (spanB (l.getD i z0) k).hi) : NeV (cutV l i k) := by
  intro j
  rw [cutV, getD_set]
  split
  · exact cutB_ne (h _) hlt
  · exact h j
def NarrowTo (F : List Fc) (l0 : List Bx) : Option (List Bx) → Prop
  | none => ∀ m, SubV m l0 → NeV m → ¬ Stable F m
  | some l => SubV l l0 ∧ NeV l ∧ Stable F l ∧ ∀ m, SubV m l0 → NeV m → Stable F m → SubV m l
theorem NarrowTo.unique {F : List Fc} {l0 : List Bx} {r r' : Option (List Bx)} (h : NarrowTo F l0 r) (h' : NarrowTo F l0 r') : r = r' := by
  cases r with
  | none =>
    cases r' with
    | none => rfl
    | some l => exact absurd h'.2.2.1 (h l h'.1 h'.2.1)
  | some l =>
    cases r' with
    | none => exact absurd h.2.2.1 (h' l h.1 h.2.1)
    | some l' =>
      congr 1
      exact SubV.antisymm (h'.2.2.2 l h.1 h.2.1 h.2.2.1) (h.2.2.2 l' h'.1 h'.2.1 h'.2.2.1)
structure Between (F : List Fc) (l0 l : List Bx) : Prop where
  sub : SubV l l0
  ne : NeV l
  all : ∀ m, SubV m l0 → NeV m → Stable F m → SubV m l
theorem Between.start {F : List Fc} {l0 : List Bx} (h : NeV l0) : Between F l0 l0 := ⟨SubV.refl _, h, fun _ h _ _ => h⟩
theorem Between.cut {F : List Fc} {l0 l : List Bx} (h : Between F l0 l) {i k : Nat} (hi : i < l.length) (hk : k < 4) (hf : failsAny F (stripV l i k) = true) (hlt : (spanB (l.getD i z0) k).lo < (spanB (l.getD i z0) k).hi) : Between F l0 (cutV l i k) :=
  ⟨(cutV_sub l i k).trans h.sub, cutV_ne h.ne hlt, fun m h1 h2 h3 => (step_keeps (h.all m h1 h2 h3) h2 h3 hi hk hf).2⟩
theorem Between.empty {F : List Fc} {l0 l : List Bx} (h : Between F l0 l) {i k : Nat} (hi : i < l.length) (hk : k < 4) (hf : failsAny F (stripV l i k) = true) (hlt : ¬ (spanB (l.getD i z0) k).lo < (spanB (l.getD i z0) k).hi) : NarrowTo F l0 none :=
  fun m h1 h2 h3 => hlt (step_keeps (h.all m h1 h2 h3) h2 h3 hi hk hf).1
theorem Between.stable {F : List Fc} {l0 l : List Bx} (h : Between F l0 l) (hs : Stable F l) : NarrowTo F l0 (some l) := ⟨h.sub, h.ne, hs, h.all⟩
theorem Between.fails {F : List Fc} {l0 l : List Bx} (h : Between F l0 l) (hl : 0 < l0.length) (hf : failsAny F l = true) : NarrowTo F l0 none := by
  intro m h1 h2 h3
  have h4 := h.all m h1 h2 h3
  have h5 := failsAny_mono F ((stripV_sub h2 0 0).trans h4) (stripV_ne h2 0 0) hf
  rw [h3 0 (by rw [h1.len]; exact hl) 0 (by omega)] at h5
  cases h5
def firstFail (F : List Fc) (l : List Bx) : Option (Nat × Nat) :=
  ((List.range l.length).flatMap fun i => (List.range 4).map fun k => (i, k)).find? fun q => failsAny F (stripV l q.1 q.2)
theorem firstFail_none {F : List Fc} {l : List Bx} (h : firstFail F l = none) : Stable F l := by
  intro i hi k hk
  have := List.find?_eq_none.1 h (i, k) (List.mem_flatMap.2 ⟨i, List.mem_range.2 hi, List.mem_map.2 ⟨k, List.mem_range.2 hk, rfl⟩⟩)
  simpa using this
theorem firstFail_some {F : List Fc} {l : List Bx} {i k : Nat} (h : firstFail F l = some (i, k)) : i < l.length ∧ k < 4 ∧ failsAny F (stripV l i k) = true := by
  have h1 := List.find?_some h
  have h2 := List.mem_of_find?_eq_some h
  obtain ⟨i', hi, h3⟩ := List.mem_flatMap.1 h2
  obtain ⟨k', hk, h4⟩ := List.mem_map.1 h3
  injection h4 with h4 h5
  subst h4; subst h5
  exact ⟨List.mem_range.1 hi, List.mem_range.1 hk, h1⟩
def sideB (b : Bx) : Nat := (b.x.hi - b.x.lo).toNat + (b.y.hi - b.y.lo).toNat
def sides (l : List Bx) : Nat := (l.map sideB).sum
theorem sides_cons (b : Bx) (l : List Bx) : sides (b :: l) = sideB b + sides l := by simp [sides]
theorem sides_set {l : List Bx} {i : Nat} (hi : i < l.length) (b : Bx) : sides (l.set i b) + sideB (l.getD i z0) = sides l + sideB b := by
  induction l generalizing i with
  | nil => simp at hi
  | cons c l ih =>
    cases i with
    | zero => simp only [List.set_cons_zero, sides_cons, List.getD_cons_zero]; omega
    | succ i =>
      simp only [List.set_cons_succ, sides_cons, List.getD_cons_succ]
      have := ih (show i < l.length by simpa using hi)
      omega
theorem sideB_cut {b : Bx} (hb : b.ne) {k : Nat} (hlt : (spanB b k).lo < (spanB b k).hi) : sideB (cutB b k) + 1 = sideB b := by
  obtain ⟨h1, h2⟩ := hb
  simp only [Sp.ne] at *
  unfold cutB
  unfold spanB at hlt
  split <;> simp only at hlt <;> simp only [sideB] <;> omega
theorem sides_cut {l : List Bx} (h : NeV l) {i k : Nat} (hi : i < l.length) (hlt : (spanB (l.getD i z0) k).lo < (spanB (l.getD i z0) k).hi) : sides (cutV l i k) + 1 = sides l := by
  have h1 := sides_set hi (cutB (l.getD i z0) k)
  have h2 := sideB_cut (h i) hlt
  rw [cutV]
  omega
def narrowF (F : List Fc) : Nat → List Bx → Option (List Bx)
  | 0, l => some l
  | n + 1, l =>
    match firstFail F l with
    | none => some l
    | some (i, k) => if (spanB (l.getD i z0) k).lo < (spanB (l.getD i z0) k).hi then narrowF F n (cutV l i k) else none
theorem narrowF_spec {F : List Fc} {l0 : List Bx} (n : Nat) : ∀ l, Between F l0 l → sides l < n → NarrowTo F l0 (narrowF F n l) := by
  induction n with
  | zero => exact fun l _ h => absurd h (by omega)
  | succ n ih =>
    intro l h hn
    unfold narrowF
    cases hf : firstFail F l with
    | none => exact h.stable (firstFail_none hf)
    | some q =>
      obtain ⟨i, k⟩ := q
      obtain ⟨hi, hk, hff⟩ := firstFail_some hf
      simp only
      split
      · rename_i hlt
        have := sides_cut h.ne hi hlt
        exact ih _ (h.cut hi hk hff hlt) (by omega)
      · rename_i hlt
        exact h.empty hi hk hff hlt
def narrow (p : Pb) : Option (List Bx) := narrowF p.facts (sides p.boxes + 1) p.boxes
theorem narrow_spec (p : Pb) (h : NeV p.boxes) : NarrowTo p.facts p.boxes (narrow p) := narrowF_spec _ _ (Between.start h) (by omega)
theorem narrow_eq {p : Pb} (h : NeV p.boxes) {r : Option (List Bx)} (hr : NarrowTo p.facts p.boxes r) : r = narrow p := hr.unique (narrow_spec p h)
def InV (l : List Bx) (pts : List Pt) : Prop := pts.length = l.length ∧ ∀ i, i < l.length → (l.getD i z0).has (pts.getD i ⟨0, 0⟩)
def Sol (p : Pb) (pts : List Pt) : Prop := InV p.boxes pts ∧ ∀ f ∈ p.facts, holds f pts = true
theorem singles_getD (pts : List Pt) (i : Nat) : (singles pts).getD i z0 = single (pts.getD i ⟨0, 0⟩) := by
  simp only [singles, List.getD_eq_getElem?_getD, List.getElem?_map]
  cases pts[i]? <;> rfl
end BS
end
section
namespace BS
def links1 (f : Fc) : List (Nat × Nat) := (f.a.toNat, f.b.toNat) :: (if f.kind = 2 then [(f.a.toNat, f.c.toNat)] else [])
def links (F : List Fc) : List (Nat × Nat) := F.flatMap links1
theorem links_cons (f : Fc) (F : List Fc) : links (f :: F) = links1 f ++ links F := by simp [links]
def joinG (g : List Nat) (a b : Nat) : List Nat := g.map fun x => if x = max (g.getD a 0) (g.getD b 0) then min (g.getD a 0) (g.getD b 0) else x
def joinF (g : List Nat) (f : Fc) : List Nat := if f.kind = 2 then joinG (joinG g f.a.toNat f.b.toNat) f.a.toNat f.c.toNat else joinG g f.a.toNat f.b.toNat
def groupF (p : Pb) : List Nat := p.facts.foldl joinF (List.range p.boxes.length)
def joins (g : List Nat) (L : List (Nat × Nat)) : List Nat := L.foldl (fun g q => joinG g q.1 q.2) g
theorem joinF_eq (g : List Nat) (f : Fc) : joinF g f = joins g (links1 f) := by
  unfold joinF joins links1
  split <;> simp
theorem groupF_eq (p : Pb) : groupF p = joins (List.range p.boxes.length) (links p.facts) := by
  have h : ∀ (F : List Fc) (g : List Nat), F.foldl joinF g = joins g (links F) := by
    intro F
    induction F with
    | nil => exact fun g => rfl
    | cons f F ih => exact fun g => by rw [List.foldl_cons, ih, joinF_eq, links_cons]; simp [joins]
  exact h _ _
structure Labels (n : Nat) (g : List Nat) : Prop where
  len : g.length = n
  le : ∀ i, i < n → g.getD i 0 ≤ i
  idem : ∀ i, i < n → g.getD (g.getD i 0) 0 = g.getD i 0
theorem getD_map (g : List Nat) (h : Nat → Nat) (i : Nat) (hi : i < g.length) : (g.map h).getD i 0 = h (g.getD i 0) := by
  simp [List.getD_eq_getElem?_getD, List.getElem?_eq_getElem hi]
theorem Labels.start (n : Nat) : Labels n (List.range n) := by
  have h : ∀ i, i < n → (List.range n).getD i 0 = i := fun i hi => by simp [List.getD_eq_getElem?_getD, List.getElem?_range hi]
  exact ⟨by simp, fun i hi => by rw [h i hi]; exact Nat.le_refl _, fun i hi => by rw [h i hi, h i hi]⟩
theorem joinG_getD {n : Nat} {g : List Nat} (hg : Labels n g) (a b i : Nat) (hi : i < n) :
    (joinG g a b).getD i 0 = if g.getD i 0 = max (g.getD a 0) (g.getD b 0) then min (g.getD a 0) (g.getD b 0) else g.getD i 0 := by
  rw [joinG, getD_map _ _ _ (by rw [hg.len]; exact hi)]
theorem Labels.join {n : Nat} {g : List Nat} (hg : Labels n g) {a b : Nat} (ha : a < n) (hb : b < n) : Labels n (joinG g a b) := by
  have ka := hg.le a ha
  have kb := hg.le b hb
  have ia := hg.idem a ha
  have ib := hg.idem b hb
  refine ⟨by simp [joinG, hg.len], fun i hi => ?_, fun i hi => ?_⟩
  · rw [joinG_getD hg a b i hi]
    have := hg.le i hi
    split <;> omega
  · have hl := hg.le i hi
    have hid := hg.idem i hi
    rw [joinG_getD hg a b i hi]
    split
    · rw [joinG_getD hg a b _ (by omega)]
      have hm : g.getD (min (g.getD a 0) (g.getD b 0)) 0 = min (g.getD a 0) (g.getD b 0) := by
        rcases Nat.le_total (g.getD a 0) (g.getD b 0) with h | h
        · rw [Nat.min_eq_left h]; exact ia
        · rw [Nat.min_eq_right h]; exact ib
      rw [hm]
      split <;> rfl
    · rename_i hne
      rw [joinG_getD hg a b _ (by omega), hid, if_neg hne]
theorem joinG_joined {n : Nat} {g : List Nat} (hg : Labels n g) {a b : Nat} (ha : a < n) (hb : b < n) : (joinG g a b).getD a 0 = (joinG g a b).getD b 0 := by
  rw [joinG_getD hg a b a ha, joinG_getD hg a b b hb]
  split <;> split <;> omega
theorem joinG_keeps {n : Nat} {g : List Nat} (hg : Labels n g) (a b : Nat) {i j : Nat} (hi : i < n) (hj : j < n) (h : g.getD i 0 = g.getD j 0) : (joinG g a b).getD i 0 = (joinG g a b).getD j 0 := by
  rw [joinG_getD hg a b i hi, joinG_getD hg a b j hj, h]
theorem joinG_least {n : Nat} {g : List Nat} (hg : Labels n g) {a b : Nat} (ha : a < n) (hb : b < n) (h : Nat → Nat) (hh : ∀ i j, i < n → j < n → g.getD i 0 = g.getD j 0 → h i = h j) (hab : h a = h b) :
    ∀ i j, i < n → j < n → (joinG g a b).getD i 0 = (joinG g a b).getD j 0 → h i = h j := by
  intro i j hi hj he
  rw [joinG_getD hg a b i hi, joinG_getD hg a b j hj] at he
  have e1 : ∀ k, k < n → g.getD k 0 = max (g.getD a 0) (g.getD b 0) → h k = h a := by
    intro k hk hm
    rcases Nat.le_total (g.getD a 0) (g.getD b 0) with hle | hle
    · rw [Nat.max_eq_right hle] at hm
      rw [hab]; exact hh k b hk hb hm
    · rw [Nat.max_eq_left hle] at hm
      exact hh k a hk ha hm
  have e2 : ∀ k, k < n → g.getD k 0 = min (g.getD a 0) (g.getD b 0) → h k = h a := by
    intro k hk hm
    rcases Nat.le_total (g.getD a 0) (g.getD b 0) with hle | hle
    · rw [Nat.min_eq_left hle] at hm
      exact hh k a hk ha hm
    · rw [Nat.min_eq_right hle] at hm
      rw [hab]; exact hh k b hk hb hm
  split at he <;> split at he
  · rename_i h1 h2; rw [e1 i hi h1, e1 j hj h2]
  · rename_i h1 h2; rw [e1 i hi h1, e2 j hj he.symm]
  · rename_i h1 h2; rw [e1 j hj h2, e2 i hi he]
  · exact hh i j hi hj he
def LinksIn (n : Nat) (L : List (Nat × Nat)) : Prop := ∀ q ∈ L, q.1 < n ∧ q.2 < n
theorem joins_spec {n : Nat} (L : List (Nat × Nat)) (hL : LinksIn n L) : ∀ g, Labels n g →
    Labels n (joins g L) ∧ (∀ i j, i < n → j < n → g.getD i 0 = g.getD j 0 → (joins g L).getD i 0 = (joins g L).getD j 0) ∧ (∀ q ∈ L, (joins g L).getD q.1 0 = (joins g L).getD q.2 0) ∧
      ∀ h : Nat → Nat, (∀ i j, i < n → j < n → g.getD i 0 = g.getD j 0 → h i = h j) → (∀ q ∈ L, h q.1 = h q.2) → ∀ i j, i < n → j < n → (joins g L).getD i 0 = (joins g L).getD j 0 → h i = h j := by
  induction L with
  | nil => exact fun g hg => ⟨hg, fun _ _ _ _ h => h, fun q hq => (by cases hq), fun h hh _ => hh⟩
  | cons q L ih =>
    intro g hg
    obtain ⟨h1, h2⟩ := hL q List.mem_cons_self
    obtain ⟨a1, a2, a3, a4⟩ := ih (fun q hq => hL q (List.mem_cons_of_mem _ hq)) (joinG g q.1 q.2) (hg.join h1 h2)
    have e : joins g (q :: L) = joins (joinG g q.1 q.2) L := rfl
    rw [e]
    refine ⟨a1, fun i j hi hj h => a2 i j hi hj (joinG_keeps hg _ _ hi hj h), fun q' hq' => ?_, fun h hh hl => ?_⟩
    · cases hq' with
      | head => exact a2 _ _ h1 h2 (joinG_joined hg h1 h2)
      | tail _ hq => exact a3 q' hq
    · exact a4 h (joinG_least hg h1 h2 h hh (hl q List.mem_cons_self)) (fun q' hq' => hl q' (List.mem_cons_of_mem _ hq'))
def FactIn (n : Nat) (f : Fc) : Prop := (0 ≤ f.a ∧ f.a < n) ∧ (0 ≤ f.b ∧ f.b < n) ∧ f.a ≠ f.b ∧ (f.kind = 2 → 0 ≤ f.c ∧ f.c < n) ∧ (f.kind ≠ 2 → f.c = 0)
def FactsIn (p : Pb) : Prop := ∀ f ∈ p.facts, FactIn p.boxes.length f
theorem links1_in {n : Nat} {f : Fc} (h : FactIn n f) : LinksIn n (links1 f) := by
  obtain ⟨h1, h2, h3, h4, _⟩ := h
  intro q hq
  unfold links1 at hq
  cases hq with
  | head => exact ⟨by simp only; omega, by simp only; omega⟩
  | tail _ hq =>
    split at hq
    · rename_i hk
      obtain ⟨h5, h6⟩ := h4 hk
      cases hq with
      | head => exact ⟨by simp only; omega, by simp only; omega⟩
      | tail _ hq => cases hq
    · cases hq
theorem links_in {p : Pb} (h : FactsIn p) : LinksIn p.boxes.length (links p.facts) := by
  intro q hq
  obtain ⟨f, hf, hq⟩ := List.mem_flatMap.1 hq
  exact links1_in (h f hf) q hq
structure Groups (p : Pb) (g : List Nat) : Prop where
  labels : Labels p.boxes.length g
  linked : ∀ q ∈ links p.facts, g.getD q.1 0 = g.getD q.2 0
  least : ∀ h : Nat → Nat, (∀ q ∈ links p.facts, h q.1 = h q.2) → ∀ i j, i < p.boxes.length → j < p.boxes.length → g.getD i 0 = g.getD j 0 → h i = h j
theorem groupF_groups {p : Pb} (h : FactsIn p) : Groups p (groupF p) := by
  rw [groupF_eq]
  obtain ⟨a1, _, a3, a4⟩ := joins_spec (links p.facts) (links_in h) _ (Labels.start p.boxes.length)
  have e : ∀ i, i < p.boxes.length → (List.range p.boxes.length).getD i 0 = i := fun i hi => by simp [List.getD_eq_getElem?_getD, List.getElem?_range hi]
  exact ⟨a1, a3, fun h hl => a4 h (fun i j hi hj he => by rw [e i hi, e j hj] at he; rw [he]) hl⟩
structure OnWay (p : Pb) (g o : List Nat) : Prop where
  len : o.length = p.boxes.length
  lt : ∀ i, i < p.boxes.length → o.getD i 0 < p.boxes.length
  same : ∀ i, i < p.boxes.length → g.getD (o.getD i 0) 0 = g.getD i 0
  le : ∀ i, i < p.boxes.length → o.getD i 0 ≤ i
theorem linked_fact {p : Pb} {g : List Nat} (hl : ∀ q ∈ links p.facts, g.getD q.1 0 = g.getD q.2 0) {f : Fc} (hf : f ∈ p.facts) : g.getD f.a.toNat 0 = g.getD f.b.toNat 0 ∧ (f.kind = 2 → g.getD f.a.toNat 0 = g.getD f.c.toNat 0) :=
  ⟨hl (f.a.toNat, f.b.toNat) (List.mem_flatMap.2 ⟨f, hf, List.mem_cons_self⟩), fun hk => hl (f.a.toNat, f.c.toNat) (List.mem_flatMap.2 ⟨f, hf, by simp [links1, hk]⟩)⟩
end BS
end
section
namespace BS
def partOf (g : List Nat) (i : Nat) : List Nat := (List.range g.length).filter fun k => g.getD k 0 == i
def partsG (g : List Nat) : List (List Nat) := ((List.range g.length).filter fun i => g.getD i 0 == i).map (partOf g)
def parts (p : Pb) : List (List Nat) := partsG (groupF p)
def maxVolume : Int := 65536
def spanSize (s : Sp) : Int := s.hi - s.lo + 1
def areaB (b : Bx) : Int := spanSize b.x * spanSize b.y
def volStep (l : List Bx) (n : Int) (i : Nat) : Int := min (n * areaB (l.getD i z0)) (maxVolume + 1)
def volume (l : List Bx) (g : List Nat) : Int := if g.length > 1 then g.foldl (volStep l) 1 else 1
def tooLarge (p : Pb) (l : List Bx) : Prop := ∃ g ∈ parts p, maxVolume < volume l g
instance (p : Pb) (l : List Bx) : Decidable (tooLarge p l) := List.decidableBEx _ _
def PartSol (p : Pb) (l : List Bx) (g : List Nat) (pts : List Pt) : Prop :=
  pts.length = l.length ∧ (∀ i ∈ g, (l.getD i z0).has (pts.getD i ⟨0, 0⟩)) ∧ ∀ f ∈ p.facts, f.a.toNat ∈ g → holds f pts = true
inductive Status where
  | ok | clash | limit
  deriving DecidableEq
theorem mem_partOf {g : List Nat} {i k : Nat} : k ∈ partOf g i ↔ k < g.length ∧ g.getD k 0 = i := by
  simp [partOf, List.mem_filter]
theorem mem_partsG {g : List Nat} {l : List Nat} : l ∈ partsG g ↔ ∃ i, i < g.length ∧ g.getD i 0 = i ∧ l = partOf g i := by
  simp only [partsG, List.mem_map, List.mem_filter, List.mem_range, beq_iff_eq]
  constructor
  · rintro ⟨i, ⟨h1, h2⟩, h3⟩
    exact ⟨i, h1, h2, h3.symm⟩
  · rintro ⟨i, h1, h2, h3⟩
    exact ⟨i, ⟨h1, h2⟩, h3.symm⟩
theorem part_of_place {n : Nat} {g : List Nat} (hg : Labels n g) (i : Nat) (hi : i < n) : partOf g (g.getD i 0) ∈ partsG g ∧ i ∈ partOf g (g.getD i 0) := by
  have h := hg.le i hi
  exact ⟨mem_partsG.2 ⟨g.getD i 0, by rw [hg.len]; omega, hg.idem i hi, rfl⟩, mem_partOf.2 ⟨by rw [hg.len]; exact hi, rfl⟩⟩
theorem facts_of_part {p : Pb} {g : List Nat} (hp : FactsIn p) (hg : Groups p g) {r : Nat} {f : Fc} (hf : f ∈ p.facts) (ha : f.a.toNat ∈ partOf g r) : f.b.toNat ∈ partOf g r ∧ (f.kind = 2 → f.c.toNat ∈ partOf g r) := by
  obtain ⟨h1, h2⟩ := mem_partOf.1 ha
  obtain ⟨l1, l2⟩ := linked_fact hg.linked hf
  obtain ⟨f1, f2, f3, f4, _⟩ := hp f hf
  have hl := hg.labels.len
  refine ⟨mem_partOf.2 ⟨by omega, by omega⟩, fun hk => mem_partOf.2 ⟨?_, ?_⟩⟩
  · have := f4 hk; omega
  · have := l2 hk; omega
theorem fails_congr (f : Fc) {l m : List Bx} (ha : bx l f.a = bx m f.a) (hb : bx l f.b = bx m f.b) (hc : f.kind = 2 → bx l f.c = bx m f.c) : fails f l = fails f m := by
  have h : bare f l = bare f m := by
    unfold bare
    by_cases hk : f.kind = 2
    · rw [if_pos hk, if_pos hk, ha, hb, hc hk]
    · rw [if_neg hk, if_neg hk]
      have e1 : dx f l = dx f m := by unfold dx; rw [ha, hb]
      have e2 : dy f l = dy f m := by unfold dy; rw [ha, hb]
      rw [e1, e2]
  unfold fails
  rw [h]
theorem bx_singles (pts : List Pt) (i : Int) : bx (singles pts) i = single (pts.getD i.toNat ⟨0, 0⟩) := singles_getD pts i.toNat
theorem narrow_len {p : Pb} (hn : NeV p.boxes) {l : List Bx} (h : narrow p = some l) : l.length = p.boxes.length ∧ NeV l ∧ SubV l p.boxes ∧ Stable p.facts l := by
  have h1 := narrow_spec p hn
  rw [h] at h1
  exact ⟨h1.1.len, h1.2.1, h1.1, h1.2.2.1⟩
end BS
end
section
namespace BS
def within (n lo hi : Int) : Bool := decide (lo ≤ n) && decide (n ≤ hi)
def spanIn (s : Sp) (lo hi : Int) : Bool := (decide (lo ≤ s.lo) && decide (s.lo ≤ s.hi)) && decide (s.hi ≤ hi)
def validB (b : Bx) : Bool := spanIn b.x (-1048576) 1048576 && spanIn b.y (-1048576) 1048576
def formedB (f : Fc) (n : Int) : Bool :=
  if ((((!(within f.id 0 1099511627776) || !(within f.a 0 (n - 1))) || !(within f.b 0 (n - 1))) || decide (f.a = f.b)) || !(spanIn f.span (-17592186044416) 17592186044416)) = true then false
  else if f.kind = 2 then ((within f.c 0 (n - 1) && decide (f.c ≠ f.a)) && decide (f.c ≠ f.b)) && decide (f.quarter = 0)
  else if f.c ≠ 0 then false
  else if f.kind = 1 ∨ f.kind = 5 ∨ f.kind = 6 then decide (f.quarter = 0)
  else if f.kind = 4 then decide (f.quarter = 0) && decide (f.span.lo = 0)
  else if f.kind = 3 then within f.quarter 0 3 && decide (f.span = ⟨0, 0⟩)
  else false
def checkP (p : Pb) : Int :=
  if 12 < p.boxes.length ∨ 60 < p.facts.length then 2
  else if p.boxes.any (fun b => !(validB b) || decide (1024 < spanSize b.x) || decide (1024 < spanSize b.y)) then 1
  else if p.facts.any (fun f => !(formedB f p.boxes.length)) then 1
  else 0
def OkSp (s : Sp) : Prop := -4000000 ≤ s.lo ∧ s.lo ≤ 4000000 ∧ -4000000 ≤ s.hi ∧ s.hi ≤ 4000000
def OkBx (b : Bx) : Prop := (-1048576 ≤ b.x.lo ∧ b.x.lo ≤ 1048576 ∧ -1048576 ≤ b.x.hi ∧ b.x.hi ≤ 1048576) ∧ (-1048576 ≤ b.y.lo ∧ b.y.lo ≤ 1048576 ∧ -1048576 ≤ b.y.hi ∧ b.y.hi ≤ 1048576)
def OkV (l : List Bx) : Prop := ∀ i, OkBx (l.getD i z0)
theorem OkV.at {l : List Bx} (h : OkV l) (i : Int) : OkBx (bx l i) := h i.toNat
theorem okSp_less {a b : Sp} (ha : -1048576 ≤ a.lo ∧ a.lo ≤ 1048576 ∧ -1048576 ≤ a.hi ∧ a.hi ≤ 1048576) (hb : -1048576 ≤ b.lo ∧ b.lo ≤ 1048576 ∧ -1048576 ≤ b.hi ∧ b.hi ≤ 1048576) : OkSp (less a b) := by
  simp only [OkSp, less]; omega
theorem okSp_amount {a : Sp} (h : OkSp a) : OkSp (amount a) := by
  simp only [OkSp] at *
  unfold amount
  split
  · exact h
  · split <;> simp only <;> omega
theorem okSp_neg {a : Sp} (h : OkSp a) : OkSp (negSp a) := by
  simp only [OkSp, negSp] at *; omega
theorem mul_small {x y A : Int} (h : -A ≤ x ∧ x ≤ A) (k : -A ≤ y ∧ y ≤ A) : -(A * A) ≤ x * y ∧ x * y ≤ A * A := by
  have h1 : 0 ≤ (A - x) * (A + y) := Int.mul_nonneg (by omega) (by omega)
  have h2 : 0 ≤ (A + x) * (A - y) := Int.mul_nonneg (by omega) (by omega)
  have h3 : 0 ≤ (A - x) * (A - y) := Int.mul_nonneg (by omega) (by omega)
  have h4 : 0 ≤ (A + x) * (A + y) := Int.mul_nonneg (by omega) (by omega)
  simp only [Int.sub_mul, Int.add_mul, Int.mul_sub, Int.mul_add] at h1 h2 h3 h4
  have h5 : A * x = x * A := Int.mul_comm _ _
  have h6 : A * y = y * A := Int.mul_comm _ _
  omega
theorem okV_sub {m l : List Bx} (h : SubV m l) (hn : NeV m) (hl : OkV l) : OkV m := fun i => by
  have h1 := h.sub i
  have h2 := hn i
  have h3 := hl i
  obtain ⟨⟨a1, a2⟩, a3, a4⟩ := h1
  obtain ⟨b1, b2⟩ := h2
  simp only [Sp.ne, OkBx] at *
  omega
end BS
end
section
namespace BS
def namesB (f : Fc) (p : Int) : Bool := (decide (f.a = p) || decide (f.b = p)) || (decide (f.kind = 2) && decide (f.c = p))
def fz : Fc := ⟨0, 0, false, 0, 0, 0, ⟨0, 0⟩, 0⟩
def failsAt (F : List Fc) (l : List Bx) (i : Int) : Bool := fails (F.getD i.toNat fz) l
def badF (F : List Fc) : List Int → List Bx → Int
  | [], _ => -1
  | i :: I, l => if failsAt F l i then i else badF F I l
theorem mem_getD {α : Type} {l : List α} {i : Nat} {z : α} (h : i < l.length) : l.getD i z ∈ l := by
  rw [List.getD_eq_getElem?_getD, List.getElem?_eq_getElem h]
  exact List.getElem_mem h
theorem badF_none {F : List Fc} {I : List Int} {l : List Bx} (h : ∀ x ∈ I, failsAt F l x = false) : badF F I l = -1 := by
  induction I with
  | nil => rfl
  | cons i I ih => rw [badF, h i (by simp), if_neg (by simp)]; exact ih fun x hx => h x (by simp [hx])
theorem badF_at {F : List Fc} {I : List Int} {l : List Bx} {i : Nat} {z : Int} (hi : i < I.length) (h : ∀ x ∈ I.take i, failsAt F l x = false) (h' : failsAt F l (I.getD i z) = true) : badF F I l = I.getD i z := by
  induction I generalizing i with
  | nil => simp at hi
  | cons y I ih =>
    cases i with
    | zero => simp only [List.getD_cons_zero] at h' ⊢; rw [badF, h', if_pos rfl]
    | succ i =>
      rw [badF, h y (by simp), if_neg (by simp)]
      simp only [List.getD_cons_succ] at h' ⊢
      exact ih (by simpa using hi) (fun x hx => h x (by simp [hx])) h'
theorem all_take_succ {α : Type} {p : α → Prop} {l : List α} {i : Nat} {z : α} (hi : i < l.length) (h : ∀ x ∈ l.take i, p x) (h' : p (l.getD i z)) : ∀ x ∈ l.take (i + 1), p x := by
  intro x hx
  rw [List.take_succ_eq_append_getElem hi] at hx
  rcases List.mem_append.1 hx with hx | hx
  · exact h x hx
  · rw [List.mem_singleton.1 hx]
    simpa [List.getD_eq_getElem?_getD, List.getElem?_eq_getElem hi] using h'
theorem badF_neg {F : List Fc} {I : List Int} {l : List Bx} (h : ∀ x ∈ I, 0 ≤ x) : 0 ≤ badF F I l ↔ ∃ x ∈ I, failsAt F l x = true := by
  induction I with
  | nil => simp [badF]
  | cons i I ih =>
    rw [badF]
    by_cases hf : failsAt F l i = true
    · rw [if_pos hf]; exact ⟨fun _ => ⟨i, by simp, hf⟩, fun _ => h i (by simp)⟩
    · rw [if_neg hf, ih (fun x hx => h x (by simp [hx]))]
      constructor
      · rintro ⟨x, h1, h2⟩; exact ⟨x, by simp [h1], h2⟩
      · rintro ⟨x, h1, h2⟩
        rcases List.mem_cons.1 h1 with rfl | h1
        · exact absurd h2 hf
        · exact ⟨x, h1, h2⟩
def namesAt (F : List Fc) (p i : Int) : Bool := namesB (F.getD i.toNat fz) p
theorem filter_take_succ {α : Type} {p : α → Bool} {l : List α} {i : Nat} {z : α} (hi : i < l.length) : (l.take (i + 1)).filter p = (l.take i).filter p ++ if p (l.getD i z) then [l.getD i z] else [] := by
  rw [List.take_succ_eq_append_getElem hi, List.filter_append]
  congr 1
  rw [show l.getD i z = l[i] by simp [List.getD_eq_getElem?_getD, List.getElem?_eq_getElem hi]]
  by_cases h : p l[i] = true <;> simp [h]
def upto (i n : Nat) : List Int := (List.range n).map fun k => if k < i then (k : Int) else 0
@[simp] theorem upto_length (i n : Nat) : (upto i n).length = n := by simp [upto]
theorem upto_zero (n : Nat) : upto 0 n = List.replicate n 0 := by
  apply List.ext_getElem (by simp [upto])
  intro j h1 h2
  simp [upto]
theorem upto_set {i n : Nat} (h : i < n) : (upto i n).set i (i : Int) = upto (i + 1) n := by
  apply List.ext_getElem (by simp [upto])
  intro j h1 h2
  simp only [upto, List.getElem_set, List.getElem_map, List.getElem_range]
  split
  · rename_i e; subst e; rw [if_pos (by omega)]
  · by_cases hj : j < i
    · rw [if_pos hj, if_pos (by omega)]
    · rw [if_neg hj, if_neg (by omega)]
theorem mem_upto {n : Nat} {x : Int} : x ∈ upto n n ↔ 0 ≤ x ∧ x < n := by
  simp only [upto, List.mem_map, List.mem_range]
  constructor
  · rintro ⟨k, h, rfl⟩; rw [if_pos h]; omega
  · rintro ⟨h1, h2⟩; exact ⟨x.toNat, by omega, by rw [if_pos (by omega)]; omega⟩
end BS
end
section
namespace BS
theorem mem_iff_at {F : List Fc} {p : Fc → Prop} : (∃ x ∈ upto F.length F.length, p (F.getD x.toNat fz)) ↔ ∃ f ∈ F, p f := by
  constructor
  · rintro ⟨x, hx, h⟩
    obtain ⟨h1, h2⟩ := mem_upto.1 hx
    exact ⟨_, mem_getD (by omega), h⟩
  · rintro ⟨f, hf, h⟩
    obtain ⟨i, hi, rfl⟩ := List.mem_iff_getElem.1 hf
    refine ⟨(i : Int), mem_upto.2 ⟨by omega, by omega⟩, ?_⟩
    rw [Int.toNat_natCast, List.getD_eq_getElem?_getD, List.getElem?_eq_getElem hi]
    exact h
theorem all_iff {F : List Fc} {l : List Bx} : 0 ≤ badF F (upto F.length F.length) l ↔ failsAny F l = true := by
  rw [badF_neg fun x hx => (mem_upto.1 hx).1]
  unfold failsAny failsAt
  rw [List.any_eq_true]
  exact mem_iff_at (p := fun f => fails f l = true)
theorem mine_iff {F : List Fc} {l : List Bx} {i : Int} : 0 ≤ badF F ((upto F.length F.length).filter (namesAt F i)) l ↔ ∃ f ∈ F, namesB f i = true ∧ fails f l = true := by
  rw [badF_neg fun x hx => (mem_upto.1 (List.mem_filter.1 hx).1).1]
  rw [← mem_iff_at (p := fun f => namesB f i = true ∧ fails f l = true)]
  constructor
  · rintro ⟨x, hx, h⟩
    obtain ⟨h1, h2⟩ := List.mem_filter.1 hx
    exact ⟨x, h1, h2, h⟩
  · rintro ⟨x, hx, h1, h2⟩
    exact ⟨x, List.mem_filter.2 ⟨hx, h1⟩, h2⟩
theorem bx_set_ne {l : List Bx} {i : Nat} {b : Bx} {a : Int} (ha : 0 ≤ a) (h : a ≠ i) : bx (l.set i b) a = bx l a := by
  unfold bx
  rw [getD_set, if_neg (by omega)]
theorem fails_set {n : Nat} {f : Fc} (hf : FactIn n f) {i : Nat} (h : namesB f i = false) (l : List Bx) (b : Bx) : fails f (l.set i b) = fails f l := by
  obtain ⟨h1, h2, h3, h4, h5⟩ := hf
  simp only [namesB, Bool.or_eq_false_iff, decide_eq_false_iff_not, Bool.and_eq_false_iff] at h
  obtain ⟨⟨h6, h7⟩, h8⟩ := h
  exact fails_congr f (bx_set_ne h1.1 h6) (bx_set_ne h2.1 h7) fun hk => bx_set_ne (h4 hk).1 (by rcases h8 with h8 | h8; exact absurd hk h8; exact h8)
def FIn (F : List Fc) (n : Nat) : Prop := ∀ f ∈ F, FactIn n f
structure Cut (F : List Fc) (l0 cur0 : List Bx) (i k : Nat) (cur : List Bx) (ch : Bool) : Prop where
  bt : Between F l0 cur
  ot : ∀ f ∈ F, namesB f i = false → fails f cur = false
  up : ch = true → sides cur < sides cur0
  st : ch = false → cur = cur0 ∧ (∀ j, j < i → ∀ q, q < 4 → failsAny F (stripV cur0 j q) = false) ∧ ∀ q, q < k → failsAny F (stripV cur0 i q) = false
structure Side (F : List Fc) (l0 cur0 : List Bx) (i k : Nat) (cur : List Bx) (ch : Bool) : Prop extends Cut F l0 cur0 i k cur ch where
  nf : failsAny F cur = false
structure Point (F : List Fc) (l0 cur0 : List Bx) (i : Nat) (cur : List Bx) (ch : Bool) : Prop where
  bt : Between F l0 cur
  nf : failsAny F cur = false
  up : ch = true → sides cur < sides cur0
  st : ch = false → cur = cur0 ∧ ∀ j, j < i → ∀ q, q < 4 → failsAny F (stripV cur0 j q) = false
variable {F : List Fc} {l0 cur0 cur : List Bx} {i k : Nat} {ch : Bool}
theorem failsAny_false {l : List Bx} (h : failsAny F l = false) {f : Fc} (hf : f ∈ F) : fails f l = false := by
  cases e : fails f l with
  | false => rfl
  | true => rw [failsAny_of hf e] at h; cases h
theorem failsAny_none {l : List Bx} (h : ∀ f ∈ F, fails f l = false) : failsAny F l = false := by
  unfold failsAny
  rw [List.any_eq_false]
  exact fun f hf => by rw [h f hf]; simp
theorem Point.begin (h : Point F l0 cur0 i cur ch) : Side F l0 cur0 i 0 cur ch :=
  ⟨⟨h.bt, fun f hf _ => failsAny_false h.nf hf, h.up, fun e => ⟨(h.st e).1, (h.st e).2, fun q hq => by omega⟩⟩, h.nf⟩
theorem Side.done (h : Side F l0 cur0 i 4 cur ch) : Point F l0 cur0 (i + 1) cur ch :=
  ⟨h.bt, h.nf, h.up, fun e => ⟨(h.st e).1, fun j hj q hq => by
    rcases Nat.lt_or_ge j i with h1 | h1
    · exact (h.st e).2.1 j h1 q hq
    · obtain rfl : j = i := by omega
      exact (h.st e).2.2 q hq⟩⟩
theorem Cut.fails (h : ∃ f ∈ F, namesB f i = true ∧ fails f (stripV cur i k) = true) : failsAny F (stripV cur i k) = true := by
  obtain ⟨f, h1, _, h2⟩ := h
  exact failsAny_of h1 h2
theorem Cut.next (h : Cut F l0 cur0 i k cur ch) (hF : FIn F l0.length) (hi : i < cur.length) (hk : k < 4) (hs : sides cur ≤ sides cur0) (hf : ∃ f ∈ F, namesB f i = true ∧ BS.fails f (stripV cur i k) = true) (hlt : (spanB (cur.getD i z0) k).lo < (spanB (cur.getD i z0) k).hi) : Cut F l0 cur0 i k (cutV cur i k) true :=
  ⟨h.bt.cut hi hk (Cut.fails hf) hlt, fun f hf hn => by unfold cutV; rw [fails_set (hF f hf) hn]; exact h.ot f hf hn, fun _ => by have := sides_cut h.bt.ne hi hlt; omega, fun e => by cases e⟩
theorem Cut.done (h : Cut F l0 cur0 i k cur ch) (hF : FIn F l0.length) (hk : k < 4) (hf : ¬ ∃ f ∈ F, namesB f i = true ∧ BS.fails f (stripV cur i k) = true) : Side F l0 cur0 i (k + 1) cur ch := by
  have hs : failsAny F (stripV cur i k) = false := failsAny_none fun f hf' => by
    cases hn : namesB f i with
    | true =>
      cases e : BS.fails f (stripV cur i k) with
      | false => rfl
      | true => exact absurd ⟨f, hf', hn, e⟩ hf
    | false => unfold stripV; rw [fails_set (hF f hf') hn]; exact h.ot f hf' hn
  have hc : failsAny F cur = false := by
    cases e : failsAny F cur with
    | false => rfl
    | true => rw [failsAny_mono F (stripV_sub h.bt.ne i k) (stripV_ne h.bt.ne i k) e] at hs; cases hs
  refine ⟨⟨h.bt, fun f hf _ => failsAny_false hc hf, h.up, fun e => ⟨(h.st e).1, (h.st e).2.1, fun q hq => ?_⟩⟩, hc⟩
  rcases Nat.lt_or_ge q k with h1 | h1
  · exact (h.st e).2.2 q h1
  · obtain rfl : q = k := by omega
    rw [← (h.st e).1]; exact hs
theorem Point.start (h : Between F l0 cur) (hn : failsAny F cur = false) : Point F l0 cur 0 cur false := ⟨h, hn, fun e => (by cases e), fun _ => ⟨rfl, fun j hj => (by omega)⟩⟩
theorem Point.stable (h : Point F l0 cur0 cur.length cur false) : Stable F cur := fun i hi k hk => by
  obtain ⟨rfl, h2⟩ := h.st rfl
  exact h2 i hi k hk
theorem Cut.le (h : Cut F l0 cur0 i k cur ch) : sides cur ≤ sides cur0 := by
  cases ch with
  | true => have := h.up rfl; omega
  | false => rw [(h.st rfl).1]; exact Nat.le_refl _
theorem Point.le (h : Point F l0 cur0 i cur ch) : 2 * sides cur + (if ch = true then 1 else 0) < 2 * sides cur0 + 1 := by
  cases ch with
  | true => have := h.up rfl; simp; omega
  | false => rw [(h.st rfl).1]; simp
theorem narrow_fails {p : Pb} (hp : FIn p.facts p.boxes.length) (hn : NeV p.boxes) (h : failsAny p.facts p.boxes = true) : narrow p = none := by
  have h0 : 0 < p.boxes.length := by
    unfold failsAny at h
    obtain ⟨f, hf, _⟩ := List.any_eq_true.1 h
    have := (hp f hf).1
    omega
  exact (narrow_eq hn ((Between.start hn).fails h0 h)).symm
theorem Cut.none {p : Pb} (h : Cut p.facts p.boxes cur0 i k cur ch) (hn : NeV p.boxes) (hi : i < cur.length) (hk : k < 4) (hf : ∃ f ∈ p.facts, namesB f i = true ∧ BS.fails f (stripV cur i k) = true) (hlt : (spanB (cur.getD i z0) k).lo = (spanB (cur.getD i z0) k).hi) : narrow p = none :=
  (narrow_eq hn (h.bt.empty hi hk (Cut.fails hf) (by omega))).symm
theorem span_le {l : List Bx} (h : NeV l) (i k : Nat) : (spanB (l.getD i z0) k).lo ≤ (spanB (l.getD i z0) k).hi := by
  have := h i
  obtain ⟨h1, h2⟩ := this
  unfold spanB
  split <;> assumption
theorem fin_okf {F : List Fc} {n m : Nat} (h : FIn F n) (hm : m = n) : ∀ f ∈ F, (0 ≤ f.a ∧ f.a < m) ∧ (0 ≤ f.b ∧ f.b < m) ∧ (f.kind = 2 → 0 ≤ f.c ∧ f.c < m) := fun f hf => by
  subst hm
  obtain ⟨h1, h2, _, h3, _⟩ := h f hf
  exact ⟨h1, h2, h3⟩
theorem okV_strip {l : List Bx} (h : OkV l) (hn : NeV l) (i k : Nat) : OkV (stripV l i k) := okV_sub (stripV_sub hn i k) (stripV_ne hn i k) h
end BS
end
section
namespace BS
def half {α : Type} (g h : List α) (i : Nat) : List α := h.take i ++ g.drop i
theorem half_zero {α : Type} (g h : List α) : half g h 0 = g := by simp [half]
theorem half_all {α : Type} {g h : List α} (hl : h.length = g.length) : half g h g.length = h := by
  simp [half, ← hl]
theorem half_length {α : Type} {g h : List α} (hl : h.length = g.length) {i : Nat} : (half g h i).length = g.length := by
  simp [half]; omega
theorem half_getD {α : Type} {g h : List α} (hl : h.length = g.length) {i j : Nat} (hj : j < g.length) (z : α) : (half g h i).getD j z = if j < i then h.getD j z else g.getD j z := by
  simp only [half, List.getD_eq_getElem?_getD, List.getElem?_append, List.length_take, List.getElem?_take, List.getElem?_drop]
  by_cases h1 : j < i
  · rw [if_pos (by omega), if_pos h1, if_pos h1]
  · rw [if_neg (by omega), if_neg h1]
    congr 2
    omega
theorem half_set {α : Type} {g h : List α} (hl : h.length = g.length) {i : Nat} (hi : i < g.length) (z : α) : (half g h i).set i (h.getD i z) = half g h (i + 1) := by
  apply List.ext_getElem?
  intro j
  rw [List.getElem?_set]
  by_cases hj : j < g.length
  · have e1 := half_getD (i := i) hl hj z
    have e2 := half_getD (i := i + 1) hl hj z
    have l1 := half_length (i := i) hl
    have l2 := half_length (i := i + 1) hl
    simp only [List.getD_eq_getElem?_getD] at e1 e2 ⊢
    rw [List.getElem?_eq_getElem (by omega), Option.getD_some] at e1
    rw [List.getElem?_eq_getElem (by omega), Option.getD_some] at e2
    by_cases e : i = j
    · subst e
      rw [if_pos rfl, if_pos (by omega), List.getElem?_eq_getElem (l := half g h (i + 1)) (by omega), e2, if_pos (by omega)]
    · rw [if_neg e, List.getElem?_eq_getElem (by omega), List.getElem?_eq_getElem (l := half g h (i + 1)) (by omega), e1, e2]
      by_cases h1 : j < i
      · rw [if_pos h1, if_pos (by omega)]
      · rw [if_neg h1, if_neg (by omega)]
  · have l1 := half_length (i := i) hl
    have l2 := half_length (i := i + 1) hl
    rw [if_neg (by omega), List.getElem?_eq_none (by omega), List.getElem?_eq_none (by omega)]
theorem half_same {α : Type} {g h : List α} (hl : h.length = g.length) {i : Nat} (hi : i < g.length) (z : α) (e : h.getD i z = g.getD i z) : half g h (i + 1) = half g h i := by
  rw [← half_set hl hi z, e]
  have := half_getD (i := i) hl hi z
  rw [if_neg (by omega)] at this
  rw [← this]
  have l1 := half_length (i := i) hl
  apply List.ext_getElem?
  intro j
  rw [List.getElem?_set]
  by_cases ej : i = j
  · subst ej
    rw [if_pos rfl, if_pos (by omega), List.getD_eq_getElem?_getD, List.getElem?_eq_getElem (by omega)]
    rfl
  · rw [if_neg ej]
theorem joinG_length (g : List Nat) (a b : Nat) : (joinG g a b).length = g.length := by simp [joinG]
theorem joinG_at (g : List Nat) (a b : Nat) {i : Nat} (hi : i < g.length) : (joinG g a b).getD i 0 = if g.getD i 0 = max (g.getD a 0) (g.getD b 0) then min (g.getD a 0) (g.getD b 0) else g.getD i 0 := by
  unfold joinG
  rw [getD_map g _ i hi]
theorem joinF_length (g : List Nat) (f : Fc) : (joinF g f).length = g.length := by
  unfold joinF
  split <;> simp [joinG_length]
def gAt (F : List Fc) (n i : Nat) : List Nat := (F.take i).foldl joinF (List.range n)
theorem gAt_length (F : List Fc) (n i : Nat) : (gAt F n i).length = n := by
  unfold gAt
  have : ∀ (l : List Fc) (g : List Nat), (l.foldl joinF g).length = g.length := by
    intro l
    induction l with
    | nil => intro g; rfl
    | cons f l ih => intro g; rw [List.foldl_cons, ih, joinF_length]
  rw [this]; simp
theorem gAt_succ (F : List Fc) (n : Nat) {i : Nat} (hi : i < F.length) : gAt F n (i + 1) = joinF (gAt F n i) (F.getD i fz) := by
  unfold gAt
  rw [List.take_succ_eq_append_getElem hi, List.foldl_append, List.foldl_cons, List.foldl_nil]
  simp [List.getD_eq_getElem?_getD, List.getElem?_eq_getElem hi]
theorem gAt_all (F : List Fc) (l : List Bx) : gAt F l.length F.length = groupF ⟨l, F⟩ := by simp [gAt, groupF]
theorem range_snoc {p : Nat → Bool} (i : Nat) : (List.range (i + 1)).filter p = (List.range i).filter p ++ if p i then [i] else [] := by
  rw [List.range_succ, List.filter_append]
  by_cases h : p i <;> simp [h]
theorem filter_range_le (p : Nat → Bool) (i : Nat) : ((List.range i).filter p).length ≤ i := by
  have := List.length_filter_le p (List.range i)
  simpa using this
theorem half_range {n i : Nat} (hi : i < n) : (half (List.replicate n 0) (List.range n) i).set i i = half (List.replicate n 0) (List.range n) (i + 1) := by
  have hl : (List.range n).length = (List.replicate n 0).length := by simp
  rw [← half_set hl (by simpa using hi) 0]
  congr 1
  simp [List.getD_eq_getElem?_getD, List.getElem?_range hi]
theorem half_range_all (n : Nat) : half (List.replicate n 0) (List.range n) n = List.range n := by
  have := half_all (g := List.replicate n 0) (h := List.range n) (by simp)
  simpa using this
theorem groupF_length (p : Pb) : (groupF p).length = p.boxes.length := by
  obtain ⟨l, F⟩ := p
  rw [← gAt_all]
  exact gAt_length _ _ _
theorem parts_eq (l : List Bx) (F : List Fc) : ((List.range l.length).filter fun j => (groupF ⟨l, F⟩).getD j 0 == j).map (partOf (groupF ⟨l, F⟩)) = parts ⟨l, F⟩ := by
  simp only [parts, partsG, groupF_length]
theorem partOf_eq (l : List Bx) (F : List Fc) (i : Nat) : (List.range l.length).filter (fun k => (groupF ⟨l, F⟩).getD k 0 == i) = partOf (groupF ⟨l, F⟩) i := by
  simp only [partOf, groupF_length]
theorem map_snoc_if {α β : Type} {f : α → β} {L : List α} {X : List β} (h : L.map f = X) {a : α} {b : β} (e : f a = b) : (L ++ [a]).map f = X ++ [b] := by rw [List.map_append, h]; simp [e]
theorem length_of_map {α β : Type} {f : α → β} {L : List α} {X : List β} (h : L.map f = X) : L.length = X.length := by rw [← h, List.length_map]
end BS
end
section
namespace BS
def volMax (l : List Bx) (G : List (List Nat)) : Int := (G.map (volume l)).foldl max 0
def volTo (l : List Bx) (g : List Nat) (k : Nat) : Int := if g.length > 1 then (g.take k).foldl (volStep l) 1 else 1
theorem volTo_zero (l : List Bx) (g : List Nat) : volTo l g 0 = 1 := by simp [volTo]
theorem volTo_all (l : List Bx) (g : List Nat) : volTo l g g.length = volume l g := by simp [volTo, volume]
theorem take_succ_getD {α : Type} (g : List α) {k : Nat} (z : α) (hk : k < g.length) : g.take (k + 1) = g.take k ++ [g.getD k z] := by
  rw [List.take_succ_eq_append_getElem hk]
  simp [List.getD_eq_getElem?_getD, List.getElem?_eq_getElem hk]
theorem volTo_succ (l : List Bx) (g : List Nat) {k : Nat} (hk : k < g.length) (h : 1 < g.length) : volTo l g (k + 1) = volStep l (volTo l g k) (g.getD k 0) := by
  simp only [volTo, if_pos (show g.length > 1 from h), take_succ_getD g 0 hk, List.foldl_append, List.foldl_cons, List.foldl_nil]
theorem volTo_one (l : List Bx) (g : List Nat) (k : Nat) (h : ¬ 1 < g.length) : volTo l g k = 1 := by simp [volTo]; omega
theorem volStep_bd {l : List Bx} (hn : NeV l) {n : Int} (h : 1 ≤ n ∧ n ≤ 65537) (i : Nat) : 1 ≤ volStep l n i ∧ volStep l n i ≤ 65537 := by
  obtain ⟨h1, h2⟩ := hn i
  simp only [Sp.ne] at h1 h2
  have h3 : 1 ≤ areaB (l.getD i z0) := by
    unfold areaB spanSize
    exact Int.mul_pos (by omega) (by omega)
  have h4 : 1 ≤ n * areaB (l.getD i z0) := by
    exact Int.mul_pos (by omega) (by omega)
  unfold volStep maxVolume
  omega
theorem foldl_volStep_bd {l : List Bx} (hn : NeV l) (g : List Nat) : ∀ n : Int, 1 ≤ n ∧ n ≤ 65537 → 1 ≤ g.foldl (volStep l) n ∧ g.foldl (volStep l) n ≤ 65537 := by
  induction g with
  | nil => exact fun n h => h
  | cons i g ih => exact fun n h => ih _ (volStep_bd hn h i)
theorem volTo_bd {l : List Bx} (hn : NeV l) (g : List Nat) (k : Nat) : 1 ≤ volTo l g k ∧ volTo l g k ≤ 65537 := by
  unfold volTo
  split
  · exact foldl_volStep_bd hn _ 1 (by omega)
  · omega
theorem volMax_succ (l : List Bx) (G : List (List Nat)) {i : Nat} (hi : i < G.length) : volMax l (G.take (i + 1)) = max (volMax l (G.take i)) (volume l (G.getD i [])) := by
  simp only [volMax, take_succ_getD G [] hi, List.map_append, List.foldl_append, List.map_cons, List.map_nil, List.foldl_cons, List.foldl_nil]
theorem volMax_gt {l : List Bx} {G : List (List Nat)} {m : Int} (hm : 0 ≤ m) : m < volMax l G ↔ ∃ g ∈ G, m < volume l g := by
  have : ∀ (L : List Int) (n : Int), m < L.foldl max n ↔ m < n ∨ ∃ x ∈ L, m < x := by
    intro L
    induction L with
    | nil => intro n; simp
    | cons x L ih =>
      intro n
      rw [List.foldl_cons, ih]
      simp only [List.mem_cons, exists_eq_or_imp]
      constructor
      · rintro (h | h)
        · by_cases h1 : m < n
          · exact .inl h1
          · exact .inr (.inl (by omega))
        · exact .inr (.inr h)
      · rintro (h | h | h)
        · exact .inl (by omega)
        · exact .inl (by omega)
        · exact .inr h
  unfold volMax
  rw [this]
  constructor
  · rintro (h | ⟨x, hx, h⟩)
    · omega
    · obtain ⟨g, hg, rfl⟩ := List.mem_map.1 hx
      exact ⟨g, hg, h⟩
  · rintro ⟨g, hg, h⟩
    exact .inr ⟨_, List.mem_map.2 ⟨g, hg, rfl⟩, h⟩
theorem vol_mul {l : List Bx} (n : Int) (i : Nat) : min (n * spanSize (l.getD i z0).x * spanSize (l.getD i z0).y) 65537 = volStep l n i := by
  unfold volStep areaB maxVolume
  rw [Int.mul_assoc]
  rfl
def wide (s : Sp) : Nat := (s.hi - s.lo + 1).toNat
def column (b : Bx) (i j : Nat) : List Pt := (List.range j).map fun (k : Nat) => ⟨b.x.lo + (i : Int), b.y.lo + (k : Int)⟩
def columns (b : Bx) (i : Nat) : List Pt := (List.range i).flatMap fun (k : Nat) => column b k (wide b.y)
def placesL (b : Bx) : List Pt := columns b (wide b.x)
theorem column_succ (b : Bx) (i j : Nat) : column b i (j + 1) = column b i j ++ [⟨b.x.lo + (i : Int), b.y.lo + (j : Int)⟩] := by
  simp [column, List.range_succ]
theorem columns_succ (b : Bx) (i : Nat) : columns b (i + 1) = columns b i ++ column b i (wide b.y) := by
  simp [columns, List.range_succ]
theorem range_prefix {n m : Nat} (h : n ≤ m) : List.range n <+: List.range m := by
  rw [show m = n + (m - n) by omega, List.range_add]
  exact List.prefix_append _ _
theorem flatMap_prefix {α β : Type} (f : α → List β) {a b : List α} (h : a <+: b) : a.flatMap f <+: b.flatMap f := by
  obtain ⟨t, rfl⟩ := h
  rw [List.flatMap_append]
  exact List.prefix_append _ _
theorem columns_prefix (b : Bx) {i j : Nat} (h : i ≤ j) : columns b i <+: columns b j := flatMap_prefix _ (range_prefix h)
theorem column_prefix (b : Bx) (i : Nat) {j k : Nat} (h : j ≤ k) : column b i j <+: column b i k := (range_prefix h).map _
theorem place_prefix (b : Bx) {i j : Nat} (hi : i < wide b.x) (hj : j < wide b.y) : (columns b i ++ column b i j) ++ [⟨b.x.lo + (i : Int), b.y.lo + (j : Int)⟩] <+: placesL b := by
  rw [List.append_assoc, ← column_succ]
  have h1 : columns b i ++ column b i (j + 1) <+: columns b (i + 1) := by
    rw [columns_succ]
    exact List.prefix_append_right_inj _ |>.2 (column_prefix b i hj)
  exact h1.trans (columns_prefix b hi)
theorem mem_placesL {b : Bx} (hb : b.ne) {p : Pt} : p ∈ placesL b ↔ b.has p := by
  obtain ⟨h1, h2⟩ := hb
  simp only [Sp.ne] at h1 h2
  simp only [placesL, columns, column, List.mem_flatMap, List.mem_range, List.mem_map, wide, Bx.has, Sp.has]
  constructor
  · rintro ⟨i, hi, j, hj, rfl⟩
    simp only
    omega
  · rintro ⟨⟨h3, h4⟩, h5, h6⟩
    refine ⟨(p.x - b.x.lo).toNat, by omega, (p.y - b.y.lo).toNat, by omega, ?_⟩
    cases p
    simp only at *
    congr 1 <;> omega
theorem placesL_length (b : Bx) : (placesL b).length = wide b.x * wide b.y := by
  have : ∀ n, (columns b n).length = n * wide b.y := by
    intro n
    induction n with
    | zero => simp [columns]
    | succ n ih => rw [columns_succ, List.length_append, ih]; simp [column, Nat.succ_mul]
  exact this _
theorem mul_bd {x y A B : Int} (hx : 0 ≤ x ∧ x ≤ A) (hy : 0 ≤ y ∧ y ≤ B) : 0 ≤ x * y ∧ x * y ≤ A * B :=
  ⟨Int.mul_nonneg hx.1 hy.1, Int.mul_le_mul hx.2 hy.2 hy.1 (Int.le_trans hx.1 hx.2)⟩
theorem size_bd {l : List Bx} (hV : OkV l) (hN : NeV l) (i : Nat) : (1 ≤ spanSize (l.getD i z0).x ∧ spanSize (l.getD i z0).x ≤ 2097153) ∧ 1 ≤ spanSize (l.getD i z0).y ∧ spanSize (l.getD i z0).y ≤ 2097153 := by
  obtain ⟨h1, h2⟩ := hV i
  obtain ⟨h3, h4⟩ := hN i
  simp only [Sp.ne] at h3 h4
  unfold spanSize
  omega
end BS
end
section
namespace BS
def leaves (F : List Fc) (mine : List (List Int)) (part : List Nat) (l : List Bx) : Nat → Nat → List Bx → List Pt → List (List Pt)
  | 0, _, _, pre => [pre]
  | m + 1, k, here, pre => (placesL (l.getD (part.getD k 0) z0)).flatMap fun x =>
    if badF F (mine.getD k []) (here.set (part.getD k 0) (single x)) < 0 then leaves F mine part l m (k + 1) (here.set (part.getD k 0) (single x)) (pre ++ [x]) else []
def branch (F : List Fc) (mine : List (List Int)) (part : List Nat) (l : List Bx) (m k : Nat) (here : List Bx) (pre : List Pt) (x : Pt) : List (List Pt) :=
  if badF F (mine.getD k []) (here.set (part.getD k 0) (single x)) < 0 then leaves F mine part l m (k + 1) (here.set (part.getD k 0) (single x)) (pre ++ [x]) else []
theorem leaves_succ (F : List Fc) (mine : List (List Int)) (part : List Nat) (l : List Bx) (m k : Nat) (here : List Bx) (pre : List Pt) : leaves F mine part l (m + 1) k here pre = (placesL (l.getD (part.getD k 0) z0)).flatMap (branch F mine part l m k here pre) := rfl
theorem branch_pos {F : List Fc} {mine : List (List Int)} {part : List Nat} {l : List Bx} {m k : Nat} {here : List Bx} {pre : List Pt} {x : Pt} (h : badF F (mine.getD k []) (here.set (part.getD k 0) (single x)) < 0) : branch F mine part l m k here pre x = leaves F mine part l m (k + 1) (here.set (part.getD k 0) (single x)) (pre ++ [x]) := if_pos h
theorem branch_neg {F : List Fc} {mine : List (List Int)} {part : List Nat} {l : List Bx} {m k : Nat} {here : List Bx} {pre : List Pt} {x : Pt} (h : ¬ badF F (mine.getD k []) (here.set (part.getD k 0) (single x)) < 0) : branch F mine part l m k here pre x = [] := if_neg h
def firstOf (cnt : Int) (so : List Pt) (L : List (List Pt)) : List Pt := if cnt = 0 then L.headD so else so
theorem firstOf_nil (cnt : Int) (so : List Pt) : firstOf cnt so [] = so := by simp [firstOf]
theorem firstOf_append {cnt : Int} {so : List Pt} (h : 0 ≤ cnt) (A B : List (List Pt)) : firstOf cnt so (A ++ B) = firstOf (cnt + A.length) (firstOf cnt so A) B := by
  unfold firstOf
  cases A with
  | nil => by_cases h0 : cnt = 0 <;> simp [h0]
  | cons a A =>
    rw [if_neg (c := cnt + ((a :: A).length : Int) = 0) (by simp; omega)]
    by_cases h0 : cnt = 0 <;> simp [h0]
theorem flatMap_snoc {α β : Type} (f : α → List β) (A : List α) (x : α) : (A ++ [x]).flatMap f = A.flatMap f ++ f x := by simp
theorem flatMap_le {α β : Type} (f : α → List β) {A B : List α} (h : A <+: B) : (A.flatMap f).length ≤ (B.flatMap f).length := (flatMap_prefix f h).length_le
theorem set_set_same (l : List Bx) (i : Nat) (a b : Bx) : (l.set i a).set i b = l.set i b := by simp [List.set_set]
theorem set_self (l : List Bx) (i : Nat) (h : i < l.length) : l.set i (l.getD i z0) = l := by
  rw [List.getD_eq_getElem?_getD, List.getElem?_eq_getElem h]
  simp
theorem set_back {l : List Bx} {i : Nat} {a b : Bx} (h : i < l.length) (e : b = l.getD i z0) : (l.set i a).set i b = l := by
  rw [set_set_same, e, set_self l i h]
def Waits (part : List Nat) (l here : List Bx) (k : Nat) : Prop := ∀ j, k ≤ j → j < part.length → here.getD (part.getD j 0) z0 = l.getD (part.getD j 0) z0
theorem nodup_getD {part : List Nat} (h : part.Nodup) {i j : Nat} (hi : i < part.length) (hj : j < part.length) (e : part.getD i 0 = part.getD j 0) : i = j := by
  simp only [List.getD_eq_getElem?_getD, List.getElem?_eq_getElem hi, List.getElem?_eq_getElem hj, Option.getD_some] at e
  exact (List.getElem_inj h).1 e
theorem Waits.next {part : List Nat} {l here : List Bx} {k : Nat} (h : Waits part l here k) (nd : part.Nodup) (hk : k < part.length) (b : Bx) : Waits part l (here.set (part.getD k 0) b) (k + 1) := fun j hj hjn => by
  rw [getD_set, if_neg (fun ⟨e, _⟩ => by have := nodup_getD nd hk hjn e; omega)]
  exact h j (by omega) hjn
theorem okV_set {l : List Bx} (h : OkV l) (i : Nat) {b : Bx} (hb : OkBx b) : OkV (l.set i b) := fun j => by
  rw [getD_set]
  split
  · exact hb
  · exact h j
theorem ok_single {b : Bx} (hb : OkBx b) {x : Pt} (h : b.has x) : OkBx (single x) := by
  obtain ⟨⟨h1, h2, h3, h4⟩, h5, h6, h7, h8⟩ := hb
  obtain ⟨⟨k1, k2⟩, k3, k4⟩ := h
  refine ⟨⟨?_, ?_, ?_, ?_⟩, ?_, ?_, ?_, ?_⟩ <;> simp only [single] <;> omega
theorem take_set_succ {α : Type} {l : List α} {k : Nat} (h : k < l.length) (x : α) : (l.set k x).take (k + 1) = l.take k ++ [x] := by
  rw [List.take_succ_eq_append_getElem (by simpa using h)]
  simp [List.take_set_of_le]
theorem take_of_take {α : Type} {a b : List α} {k m : Nat} (h : a.take m = b.take m) (hk : k ≤ m) : a.take k = b.take k := by
  have := congrArg (List.take k) h
  rwa [List.take_take, List.take_take, Nat.min_eq_left hk] at this
theorem take_set_le {α : Type} (l : List α) (k : Nat) (x : α) : (l.set k x).take k = l.take k := by simp [List.take_set_of_le]
end BS
end
section
namespace BS
def idxI (x : Int) (l : List Int) : Int := if x ∈ l then ((l.idxOf x : Nat) : Int) else -1
theorem idxI_none {x : Int} {l : List Int} (h : ∀ y ∈ l, y ≠ x) : idxI x l = -1 := if_neg fun hx => h x hx rfl
theorem idxI_at {x : Int} {l : List Int} {i : Nat} (hi : i < l.length) (h : ∀ y ∈ l.take i, y ≠ x) (e : x = l.getD i 0) : idxI x l = (i : Int) := by
  have hx : x ∈ l := by rw [e]; exact mem_getD hi
  rw [idxI, if_pos hx]
  congr 1
  have e1 : l = l.take i ++ (l.getD i 0 :: l.drop (i + 1)) := by
    rw [List.getD_eq_getElem?_getD, List.getElem?_eq_getElem hi]
    simp
  rw [e1, List.idxOf_append, if_neg (fun hm => h x hm rfl)]
  simp [e, Nat.min_eq_left (Nat.le_of_lt hi)]
theorem idxI_le {x : Int} {l : List Int} : -1 ≤ idxI x l ∧ idxI x l < (l.length : Int) := by
  unfold idxI
  split
  · rename_i h
    have := List.idxOf_lt_length_iff.2 h
    omega
  · omega
theorem idxI_pos (x : Int) (l : List Int) : decide (0 ≤ idxI x l) = decide (x ∈ l) := by
  unfold idxI
  split
  · rename_i h; simp [h]
  · rename_i h; simp [h]
theorem idxI_spec {x : Int} {l : List Int} {k : Nat} (h : idxI x l = (k : Int)) : k < l.length ∧ l.getD k 0 = x := by
  unfold idxI at h
  split at h
  · rename_i hm
    have h1 := List.idxOf_lt_length_iff.2 hm
    have h2 : l.idxOf x = k := by omega
    subst h2
    exact ⟨h1, by rw [List.getD_eq_getElem?_getD, List.getElem?_eq_getElem h1]; simp⟩
  · omega
def natI (l : List Nat) : List Int := l.map fun (x : Nat) => (x : Int)
@[simp] theorem natI_length (l : List Nat) : (natI l).length = l.length := by simp [natI]
theorem mem_natI {l : List Nat} {x : Int} (hx : 0 ≤ x) : x ∈ natI l ↔ x.toNat ∈ l := by
  simp only [natI, List.mem_map]
  constructor
  · rintro ⟨a, h, rfl⟩; simpa using h
  · intro h; exact ⟨_, h, by omega⟩
theorem natI_getD (l : List Nat) (k : Nat) : (natI l).getD k 0 = ((l.getD k 0 : Nat) : Int) := by
  simp only [natI, List.getD_eq_getElem?_getD, List.getElem?_map]
  cases l[k]? <;> rfl
def idxP {α : Type} (p : α → Bool) (l : List α) : Int := if l.any p = true then ((l.findIdx p : Nat) : Int) else -1
theorem idxP_none {α : Type} {p : α → Bool} {l : List α} (h : ∀ y ∈ l, p y = false) : idxP p l = -1 := if_neg fun hx => by
  obtain ⟨y, h1, h2⟩ := List.any_eq_true.1 hx
  rw [h y h1] at h2; cases h2
theorem idxP_at {α : Type} {p : α → Bool} {l : List α} {i : Nat} {z : α} (hi : i < l.length) (h : ∀ y ∈ l.take i, p y = false) (e : p (l.getD i z) = true) : idxP p l = (i : Int) := by
  have hx : l.any p = true := List.any_eq_true.2 ⟨_, mem_getD hi, e⟩
  rw [idxP, if_pos hx]
  congr 1
  have e1 : l = l.take i ++ (l.getD i z :: l.drop (i + 1)) := by
    rw [List.getD_eq_getElem?_getD, List.getElem?_eq_getElem hi]
    simp
  rw [e1, List.findIdx_append, if_neg (fun hlt => by
    rw [List.findIdx_lt_length] at hlt
    obtain ⟨y, h1, h2⟩ := hlt
    rw [h y h1] at h2; cases h2)]
  rw [List.findIdx_cons, e]
  simp [Nat.min_eq_left (Nat.le_of_lt hi)]
theorem idxP_pos {α : Type} (p : α → Bool) (l : List α) : decide (0 ≤ idxP p l) = l.any p := by
  unfold idxP
  split
  · rename_i h; simp [h]
  · rename_i h; rw [Bool.not_eq_true] at h; rw [h]; decide
theorem idxP_spec {α : Type} {p : α → Bool} {l : List α} : idxP p l = -1 ∨ ∃ i : Nat, idxP p l = (i : Int) ∧ i < l.length := by
  unfold idxP
  split
  · rename_i h
    refine .inr ⟨_, rfl, ?_⟩
    obtain ⟨y, h1, h2⟩ := List.any_eq_true.1 h
    exact List.findIdx_lt_length.2 ⟨y, h1, h2⟩
  · exact .inl rfl
theorem idx_start {p : Int → Bool} {l : List Int} {i : Nat} (h : idxP p l = (i : Int)) : i < l.length ∧ l.take i = (l.take (i + 1)).filter fun x => !p x := by
  have hx : l.any p = true := by
    unfold idxP at h
    split at h
    · assumption
    · omega
  have hi : l.findIdx p = i := by unfold idxP at h; rw [if_pos hx] at h; omega
  have hlt : i < l.length := by
    obtain ⟨y, h1, h2⟩ := List.any_eq_true.1 hx
    rw [← hi]; exact List.findIdx_lt_length.2 ⟨y, h1, h2⟩
  refine ⟨hlt, ?_⟩
  have hp : p (l.getD i 0) = true := by
    have := List.findIdx_getElem (p := p) (xs := l) (w := by rw [hi]; exact hlt)
    simp only [hi] at this
    rw [List.getD_eq_getElem?_getD, List.getElem?_eq_getElem hlt]; exact this
  rw [filter_take_succ (z := 0) hlt, if_neg (by rw [hp]; decide), List.append_nil, List.filter_eq_self.2]
  intro y hy
  obtain ⟨k, hk, rfl⟩ := List.mem_iff_getElem.1 hy
  rw [List.length_take] at hk
  have := List.not_of_lt_findIdx (p := p) (xs := l) (i := k) (by omega)
  simpa using this
theorem idx_all {p : Int → Bool} {l : List Int} (h : idxP p l = -1) : l.filter (fun x => !p x) = l := by
  refine List.filter_eq_self.2 fun y hy => ?_
  cases e : p y with
  | false => rfl
  | true =>
    unfold idxP at h
    rw [if_pos (List.any_eq_true.2 ⟨y, hy, e⟩)] at h
    omega
theorem del_keep {p : Int → Bool} {l X : List Int} {i j : Nat} (hij : i < j) (hj : j < l.length) (hl : X.length = l.length) (h1 : X.take i = (l.take j).filter fun x => !p x) (h2 : ∀ q, j ≤ q → X.getD q 0 = l.getD q 0) (hp : p (X.getD j 0) = false) :
    (X.set i (X.getD j 0)).take (i + 1) = (l.take (j + 1)).filter (fun x => !p x) ∧ ∀ q, j + 1 ≤ q → (X.set i (X.getD j 0)).getD q 0 = l.getD q 0 := by
  constructor
  · rw [take_set_succ (by omega), h1, filter_take_succ (z := 0) hj, ← h2 j (by omega), hp]
    simp
  · intro q hq
    rw [← h2 q (by omega), List.getD_eq_getElem?_getD, List.getElem?_set_ne (by omega), ← List.getD_eq_getElem?_getD]
theorem del_drop {p : Int → Bool} {l X : List Int} {i j : Nat} (hj : j < l.length) (h1 : X.take i = (l.take j).filter fun x => !p x) (h2 : ∀ q, j ≤ q → X.getD q 0 = l.getD q 0) (hp : p (X.getD j 0) = true) : X.take i = (l.take (j + 1)).filter fun x => !p x := by
  rw [h1, filter_take_succ (z := 0) hj, ← h2 j (by omega), hp]
  simp
def lastF (part : List Nat) (f : Fc) : Int := if f.kind = 2 then max (max (idxI f.a (natI part)) (idxI f.b (natI part))) (idxI f.c (natI part)) else max (idxI f.a (natI part)) (idxI f.b (natI part))
def isMine (part : List Nat) (k : Nat) (f : Fc) : Bool := decide (lastF part f = (k : Int)) && decide (f.a ∈ natI part)
def mineTo (F : List Fc) (part : List Nat) (k i : Nat) : List Int := ((List.range i).filter fun j => isMine part k (F.getD j fz)).map fun (j : Nat) => (j : Int)
abbrev mineK (F : List Fc) (part : List Nat) (k : Nat) : List Int := mineTo F part k F.length
theorem isMine_two {part : List Nat} {k : Nat} {f : Fc} (h : f.kind = 2) : isMine part k f = (decide (max (max (idxI f.a (natI part)) (idxI f.b (natI part))) (idxI f.c (natI part)) = (k : Int)) && decide (f.a ∈ natI part)) := by rw [isMine, lastF, if_pos h]
theorem isMine_one {part : List Nat} {k : Nat} {f : Fc} (h : ¬ f.kind = 2) : isMine part k f = (decide (max (idxI f.a (natI part)) (idxI f.b (natI part)) = (k : Int)) && decide (f.a ∈ natI part)) := by rw [isMine, lastF, if_neg h]
theorem mineTo_length (F : List Fc) (part : List Nat) (k i : Nat) : (mineTo F part k i).length ≤ i := by rw [mineTo, List.length_map]; exact filter_range_le _ _
theorem mineTo_pos {F : List Fc} {part : List Nat} {k i : Nat} (h : isMine part k (F.getD i fz) = true) : mineTo F part k (i + 1) = mineTo F part k i ++ [(i : Int)] := by
  rw [mineTo, range_snoc, if_pos h]; simp [mineTo]
theorem mineTo_neg {F : List Fc} {part : List Nat} {k i : Nat} (h : isMine part k (F.getD i fz) = false) : mineTo F part k (i + 1) = mineTo F part k i := by
  rw [mineTo, range_snoc, if_neg (by rw [h]; decide)]; simp [mineTo]
theorem mem_mineK {F : List Fc} {part : List Nat} {k : Nat} {x : Int} : x ∈ mineK F part k ↔ ∃ j : Nat, j < F.length ∧ isMine part k (F.getD j fz) = true ∧ x = (j : Int) := by
  simp only [mineK, mineTo, List.mem_map, List.mem_filter, List.mem_range]
  constructor
  · rintro ⟨j, ⟨h1, h2⟩, h3⟩; exact ⟨j, h1, h2, h3.symm⟩
  · rintro ⟨j, h1, h2, h3⟩; exact ⟨j, ⟨h1, h2⟩, h3.symm⟩
theorem mineK_in {F : List Fc} {part : List Nat} {k : Nat} : ∀ x ∈ mineK F part k, 0 ≤ x ∧ x < (F.length : Int) := fun x hx => by
  obtain ⟨j, h1, _, rfl⟩ := mem_mineK.1 hx
  omega
def mineTab (F : List Fc) (part : List Nat) (k : Nat) : List (List Int) := (List.range k).map (mineK F part)
theorem mineTab_succ (F : List Fc) (part : List Nat) (k : Nat) : mineTab F part (k + 1) = mineTab F part k ++ [mineK F part k] := by
  simp [mineTab, List.range_succ]
theorem mineTab_getD {F : List Fc} {part : List Nat} {k n : Nat} (h : k < n) : (mineTab F part n).getD k [] = mineK F part k := by
  simp [mineTab, List.getD_eq_getElem?_getD, List.getElem?_range h]
end BS
end
section
namespace BS
def lookL (F : List Fc) (l : List Bx) (part : List Nat) : List (List Pt) :=
  if part.length = 1 then (placesL (l.getD (part.getD 0 0) z0)).map fun x => [x] else leaves F (mineTab F part part.length) part l part.length 0 l []
def areaN (l : List Bx) (i : Nat) : Nat := (placesL (l.getD i z0)).length
def prodA (l : List Bx) : List Nat → Nat
  | [] => 1
  | i :: g => areaN l i * prodA l g
theorem flatMap_bd {α β : Type} (f : α → List β) {B : Nat} : ∀ xs : List α, (∀ x ∈ xs, (f x).length ≤ B) → (xs.flatMap f).length ≤ xs.length * B
  | [], _ => by simp
  | x :: xs, h => by
    rw [List.flatMap_cons, List.length_append, List.length_cons, Nat.succ_mul]
    have h1 := h x (by simp)
    have h2 := flatMap_bd f xs fun y hy => h y (by simp [hy])
    omega
theorem drop_getD {α : Type} {g : List α} {k : Nat} (z : α) (h : k < g.length) : g.drop k = g.getD k z :: g.drop (k + 1) := by
  rw [List.getD_eq_getElem?_getD, List.getElem?_eq_getElem h]
  exact List.drop_eq_getElem_cons h
theorem leaves_le (F : List Fc) (mine : List (List Int)) (part : List Nat) (l : List Bx) : ∀ (m k : Nat) (here : List Bx) (pre : List Pt), k + m = part.length → (leaves F mine part l m k here pre).length ≤ prodA l (part.drop k)
  | 0, k, here, pre, h => by rw [show part.drop k = [] from List.drop_eq_nil_of_le (by omega)]; simp [leaves, prodA]
  | m + 1, k, here, pre, h => by
    rw [leaves_succ, drop_getD 0 (by omega), prodA, areaN]
    refine flatMap_bd _ _ fun x _ => ?_
    unfold branch
    split
    · exact leaves_le F mine part l m (k + 1) _ _ (by omega)
    · simp
theorem area_eq {l : List Bx} (hN : NeV l) (i : Nat) : (areaN l i : Int) = areaB (l.getD i z0) ∧ 1 ≤ areaN l i := by
  obtain ⟨h1, h2⟩ := hN i
  unfold Sp.ne at h1 h2
  have e1 : (wide (l.getD i z0).x : Int) = spanSize (l.getD i z0).x := by unfold wide spanSize; omega
  have e2 : (wide (l.getD i z0).y : Int) = spanSize (l.getD i z0).y := by unfold wide spanSize; omega
  constructor
  · rw [areaN, placesL_length, areaB, ← e1, ← e2]; simp
  · rw [areaN, placesL_length]
    exact Nat.mul_pos (by unfold wide; omega) (by unfold wide; omega)
theorem prodA_pos {l : List Bx} (hN : NeV l) : ∀ g : List Nat, 1 ≤ prodA l g
  | [] => by simp [prodA]
  | i :: g => Nat.mul_pos (area_eq hN i).2 (prodA_pos hN g)
theorem vol_prod {l : List Bx} (hN : NeV l) : ∀ (g : List Nat) (n : Int), 1 ≤ n → n ≤ 65537 → g.foldl (volStep l) n = min (n * (prodA l g : Int)) 65537
  | [], n, _, h2 => by simp [prodA]; omega
  | i :: g, n, h1, h2 => by
    obtain ⟨a1, a2⟩ := area_eq hN i
    have hp := prodA_pos hN g
    have hs : volStep l n i = min (n * (areaN l i : Int)) 65537 := by unfold volStep maxVolume; rw [← a1]; rfl
    obtain ⟨b1, b2⟩ := volStep_bd hN ⟨h1, h2⟩ i
    rw [List.foldl_cons, vol_prod hN g _ b1 b2, prodA, hs, Int.natCast_mul, ← Int.mul_assoc]
    have hP : (1 : Int) ≤ (prodA l g : Int) := by omega
    by_cases h : n * (areaN l i : Int) ≤ 65537
    · rw [Int.min_eq_left h]
    · have hle : (65537 : Int) ≤ n * (areaN l i : Int) := by omega
      rw [Int.min_eq_right hle]
      have q1 : (65537 : Int) * 1 ≤ 65537 * (prodA l g : Int) := Int.mul_le_mul_of_nonneg_left hP (by omega)
      have q2 : 65537 * (prodA l g : Int) ≤ n * (areaN l i : Int) * (prodA l g : Int) := Int.mul_le_mul_of_nonneg_right hle (by omega)
      omega
theorem lookL_le {F : List Fc} {l : List Bx} (hN : NeV l) {part : List Nat} (h1 : part.length ≠ 1) (h2 : volume l part ≤ 65536) : (leaves F (mineTab F part part.length) part l part.length 0 l []).length ≤ 65536 := by
  have h := leaves_le F (mineTab F part part.length) part l part.length 0 l [] (by omega)
  rw [List.drop_zero] at h
  by_cases h0 : part.length > 1
  · rw [volume, if_pos h0, vol_prod hN part 1 (by omega) (by omega)] at h2
    omega
  · have : part = [] := List.eq_nil_of_length_eq_zero (by omega)
    subst this
    simp [leaves]
theorem corner (b : Bx) (h : b.ne) : ∃ r, placesL b = ⟨b.x.lo, b.y.lo⟩ :: r := by
  obtain ⟨h1, h2⟩ := h
  unfold Sp.ne at h1 h2
  obtain ⟨n, hn⟩ : ∃ n, wide b.x = n + 1 := ⟨wide b.x - 1, by unfold wide; omega⟩
  obtain ⟨m, hm⟩ : ∃ m, wide b.y = m + 1 := ⟨wide b.y - 1, by unfold wide; omega⟩
  rw [placesL, columns, hn, List.range_succ_eq_map, List.flatMap_cons, column, hm, List.range_succ_eq_map, List.map_cons, List.cons_append]
  simp only [Int.natCast_zero, Int.add_zero]
  exact ⟨_, rfl⟩
theorem corner_head {F : List Fc} {l : List Bx} (hN : NeV l) {part : List Nat} (h1 : part.length = 1) : [(⟨(l.getD (part.getD 0 0) z0).x.lo, (l.getD (part.getD 0 0) z0).y.lo⟩ : Pt)] = (lookL F l part).headD [] := by
  obtain ⟨r, hr⟩ := corner _ (hN (part.getD 0 0))
  rw [lookL, if_pos h1, hr]
  rfl
theorem leaves_pre (F : List Fc) (mine : List (List Int)) (part : List Nat) (l : List Bx) : ∀ (m k : Nat) (here : List Bx) (pre z : List Pt), z ∈ leaves F mine part l m k here pre → pre <+: z ∧ z.length = pre.length + m
  | 0, k, here, pre, z, h => by
    rw [leaves, List.mem_singleton] at h
    subst h; exact ⟨List.prefix_rfl, rfl⟩
  | m + 1, k, here, pre, z, h => by
    rw [leaves_succ, List.mem_flatMap] at h
    obtain ⟨x, _, hx⟩ := h
    unfold branch at hx
    split at hx
    · obtain ⟨h1, h2⟩ := leaves_pre F mine part l m (k + 1) _ _ z hx
      refine ⟨(List.prefix_append pre [x]).trans h1, ?_⟩
      rw [h2, List.length_append]; simp; omega
    · cases hx
def pick (pts : List Pt) (part : List Nat) : List Pt := part.map fun i => pts.getD i ⟨0, 0⟩
theorem pick_getD {pts : List Pt} {part : List Nat} {k : Nat} (h : k < part.length) : (pick pts part).getD k ⟨0, 0⟩ = pts.getD (part.getD k 0) ⟨0, 0⟩ := by
  simp [pick, List.getD_eq_getElem?_getD, List.getElem?_eq_getElem h]
theorem badF_lt {F : List Fc} {I : List Int} {l : List Bx} (h : ∀ x ∈ I, 0 ≤ x) : badF F I l < 0 ↔ ∀ x ∈ I, failsAt F l x = false := by
  have := badF_neg (F := F) (l := l) h
  constructor
  · intro h1 x hx
    cases e : failsAt F l x with
    | false => rfl
    | true => exact absurd (this.2 ⟨x, hx, e⟩) (by omega)
  · intro h1
    by_cases h2 : 0 ≤ badF F I l
    · obtain ⟨x, hx, e⟩ := this.1 h2
      rw [h1 x hx] at e; cases e
    · omega
theorem mine_names {F : List Fc} {part : List Nat} {n : Nat} (hFI : FIn F n) (hcl : ∀ f ∈ F, f.a.toNat ∈ part → f.b.toNat ∈ part ∧ (f.kind = 2 → f.c.toNat ∈ part)) {k : Nat} {x : Int} (hx : x ∈ mineK F part k) :
    let f := F.getD x.toNat fz
    f ∈ F ∧ (∃ i, i ≤ k ∧ i < part.length ∧ f.a.toNat = part.getD i 0) ∧ (∃ i, i ≤ k ∧ i < part.length ∧ f.b.toNat = part.getD i 0) ∧ (f.kind = 2 → ∃ i, i ≤ k ∧ i < part.length ∧ f.c.toNat = part.getD i 0) := by
  obtain ⟨j, hj, hm, rfl⟩ := mem_mineK.1 hx
  simp only [Int.toNat_natCast]
  have hf : F.getD j fz ∈ F := mem_getD hj
  obtain ⟨i1, i2, i3, i4, _⟩ := hFI _ hf
  simp only [isMine, Bool.and_eq_true, decide_eq_true_eq] at hm
  obtain ⟨hl, ha⟩ := hm
  have ha' := (mem_natI i1.1).1 ha
  obtain ⟨hb', hc'⟩ := hcl _ hf ha'
  have pl : ∀ {y : Int}, 0 ≤ y → y.toNat ∈ part → idxI y (natI part) ≤ (k : Int) → ∃ i, i ≤ k ∧ i < part.length ∧ y.toNat = part.getD i 0 := by
    intro y hy hm hle
    have hm' := (mem_natI hy).2 hm
    have h0 : 0 ≤ idxI y (natI part) := by have := idxI_pos y (natI part); simp [hm'] at this; exact this
    obtain ⟨h1, h2⟩ := idxI_spec (x := y) (l := natI part) (k := (idxI y (natI part)).toNat) (by omega)
    rw [natI_getD] at h2
    rw [natI_length] at h1
    exact ⟨(idxI y (natI part)).toNat, by omega, h1, by omega⟩
  unfold lastF at hl
  split at hl
  · rename_i hk
    exact ⟨hf, pl i1.1 ha' (by omega), pl i2.1 hb' (by omega), fun _ => pl (i4 hk).1 (hc' hk) (by omega)⟩
  · rename_i hk
    exact ⟨hf, pl i1.1 ha' (by omega), pl i2.1 hb' (by omega), fun h => absurd h hk⟩
theorem mem_leaves {F : List Fc} {part : List Nat} {l : List Bx} (hN : NeV l) (hFI : FIn F l.length) (nd : part.Nodup) (hlt : ∀ i ∈ part, i < l.length)
    (hcl : ∀ f ∈ F, f.a.toNat ∈ part → f.b.toNat ∈ part ∧ (f.kind = 2 → f.c.toNat ∈ part)) (pts : List Pt) : ∀ (m k : Nat) (here : List Bx), k + m = part.length → here.length = l.length → (∀ i, i < k → here.getD (part.getD i 0) z0 = single (pts.getD (part.getD i 0) ⟨0, 0⟩)) →
    (pick pts part ∈ leaves F (mineTab F part part.length) part l m k here ((pick pts part).take k) ↔ ∀ j, k ≤ j → j < part.length → (l.getD (part.getD j 0) z0).has (pts.getD (part.getD j 0) ⟨0, 0⟩) ∧ ∀ x ∈ mineK F part j, failsAt F (singles pts) x = false)
  | 0, k, here, hk, hh, hw => by
    rw [leaves, List.mem_singleton, List.take_of_length_le (by simp [pick]; omega)]
    exact ⟨fun _ j h1 h2 => by omega, fun _ => rfl⟩
  | m + 1, k, here, hk, hh, hw => by
    have hkl : k < part.length := by omega
    have hpk : part.getD k 0 < l.length := hlt _ (mem_getD hkl)
    have htk : (pick pts part).take (k + 1) = (pick pts part).take k ++ [pts.getD (part.getD k 0) ⟨0, 0⟩] := by
      rw [take_succ_getD _ ⟨0, 0⟩ (by simp [pick]; omega), pick_getD hkl]
    have hw' : ∀ i, i < k + 1 → (here.set (part.getD k 0) (single (pts.getD (part.getD k 0) ⟨0, 0⟩))).getD (part.getD i 0) z0 = single (pts.getD (part.getD i 0) ⟨0, 0⟩) := fun i hi => by
      rw [getD_set]
      split
      · rename_i h; rw [h.1]
      · rename_i h
        refine hw i ?_
        by_cases hik : i = k
        · subst hik; exact absurd ⟨rfl, by omega⟩ h
        · omega
    have ih := mem_leaves hN hFI nd hlt hcl pts m (k + 1) _ (by omega) (by rw [List.length_set]; exact hh) hw'
    have hbad : badF F ((mineTab F part part.length).getD k []) (here.set (part.getD k 0) (single (pts.getD (part.getD k 0) ⟨0, 0⟩))) < 0 ↔ ∀ x ∈ mineK F part k, failsAt F (singles pts) x = false := by
      rw [mineTab_getD hkl, badF_lt fun x hx => (mineK_in x hx).1]
      have key : ∀ x ∈ mineK F part k, failsAt F (here.set (part.getD k 0) (single (pts.getD (part.getD k 0) ⟨0, 0⟩))) x = failsAt F (singles pts) x := fun x hx => by
        obtain ⟨_, ⟨i1, e1, _, e1'⟩, ⟨i2, e2, _, e2'⟩, hc⟩ := mine_names hFI hcl hx
        refine fails_congr _ ?_ ?_ fun h2 => ?_
        · rw [bx_singles]; show (List.set _ _ _).getD _ _ = _; rw [e1']; exact hw' i1 (by omega)
        · rw [bx_singles]; show (List.set _ _ _).getD _ _ = _; rw [e2']; exact hw' i2 (by omega)
        · obtain ⟨i3, e3, _, e3'⟩ := hc h2
          rw [bx_singles]; show (List.set _ _ _).getD _ _ = _; rw [e3']; exact hw' i3 (by omega)
      exact ⟨fun h x hx => by rw [← key x hx]; exact h x hx, fun h x hx => by rw [key x hx]; exact h x hx⟩
    rw [leaves_succ, List.mem_flatMap]
    constructor
    · rintro ⟨x, hx, hb⟩
      have hxe : x = pts.getD (part.getD k 0) ⟨0, 0⟩ := by
        unfold branch at hb
        split at hb
        · have hp := (leaves_pre F _ part l m (k + 1) _ _ _ hb).1
          have hp2 : (pick pts part).take (k + 1) <+: pick pts part := List.take_prefix _ _
          have hl1 : ((pick pts part).take k ++ [x]).length = ((pick pts part).take (k + 1)).length := by simp [pick]; omega
          have := (List.prefix_of_prefix_length_le hp hp2 (by omega)).eq_of_length hl1
          rw [htk] at this
          simpa using this
        · cases hb
      subst hxe
      by_cases hneg : badF F ((mineTab F part part.length).getD k []) (here.set (part.getD k 0) (single (pts.getD (part.getD k 0) ⟨0, 0⟩))) < 0
      · rw [branch_pos hneg, ← htk] at hb
        intro j h1 h2
        by_cases hjk : j = k
        · subst hjk; exact ⟨(mem_placesL (hN _)).1 hx, hbad.1 hneg⟩
        · exact ih.1 hb j (by omega) h2
      · rw [branch_neg hneg] at hb; cases hb
    · intro h
      obtain ⟨h1, h2⟩ := h k (by omega) hkl
      refine ⟨_, (mem_placesL (hN _)).2 h1, ?_⟩
      rw [branch_pos (hbad.2 h2), ← htk]
      exact ih.2 fun j j1 j2 => h j (by omega) j2
theorem mine_all {F : List Fc} {part : List Nat} {l : List Bx} (hFI : FIn F l.length) (hcl : ∀ f ∈ F, f.a.toNat ∈ part → f.b.toNat ∈ part ∧ (f.kind = 2 → f.c.toNat ∈ part)) (pts : List Pt) :
    (∀ j, j < part.length → ∀ x ∈ mineK F part j, failsAt F (singles pts) x = false) ↔ ∀ f ∈ F, f.a.toNat ∈ part → holds f pts = true := by
  constructor
  · intro h f hf ha
    obtain ⟨i, hi, rfl⟩ := List.mem_iff_getElem.1 hf
    obtain ⟨i1, i2, i3, i4, _⟩ := hFI _ hf
    obtain ⟨hb, hc⟩ := hcl _ hf ha
    have ha1 := (mem_natI i1.1).2 ha
    have p1 : 0 ≤ idxI F[i].a (natI part) := by have := idxI_pos F[i].a (natI part); simp [ha1] at this; exact this
    have hle : lastF part F[i] < part.length ∧ 0 ≤ lastF part F[i] := by
      have q1 := (idxI_le (x := F[i].a) (l := natI part)).2
      have q2 := (idxI_le (x := F[i].b) (l := natI part)).2
      have q3 := (idxI_le (x := F[i].c) (l := natI part)).2
      rw [natI_length] at q1 q2 q3
      unfold lastF
      split <;> omega
    have hgd : F.getD i fz = F[i] := by simp [List.getD_eq_getElem?_getD, List.getElem?_eq_getElem hi]
    have := h (lastF part F[i]).toNat (by omega) (i : Int) (mem_mineK.2 ⟨i, hi, by
      rw [hgd]; simp only [isMine, Bool.and_eq_true, decide_eq_true_eq]; exact ⟨by omega, ha1⟩, rfl⟩)
    rw [failsAt, Int.toNat_natCast, hgd] at this
    simp [holds, this]
  · intro h j hj x hx
    obtain ⟨i, hi, hm, rfl⟩ := mem_mineK.1 hx
    simp only [isMine, Bool.and_eq_true, decide_eq_true_eq] at hm
    have hf : F.getD i fz ∈ F := mem_getD hi
    have := h _ hf ((mem_natI (hFI _ hf).1.1).1 hm.2)
    rw [failsAt, Int.toNat_natCast]
    simpa [holds] using this
theorem pick_sol {F : List Fc} {part : List Nat} {l : List Bx} (hN : NeV l) (hFI : FIn F l.length) (nd : part.Nodup) (hlt : ∀ i ∈ part, i < l.length) (h1 : part.length = 1 → ∀ f ∈ F, f.a.toNat ∉ part)
    (hcl : ∀ f ∈ F, f.a.toNat ∈ part → f.b.toNat ∈ part ∧ (f.kind = 2 → f.c.toNat ∈ part)) (p : Pb) (hp : p.facts = F) (pts : List Pt) (hpl : pts.length = l.length) : pick pts part ∈ lookL F l part ↔ PartSol p l part pts := by
  subst hp
  have hall : (∀ i ∈ part, (l.getD i z0).has (pts.getD i ⟨0, 0⟩)) ↔ ∀ j, j < part.length → (l.getD (part.getD j 0) z0).has (pts.getD (part.getD j 0) ⟨0, 0⟩) := by
    constructor
    · intro h j hj; exact h _ (mem_getD hj)
    · intro h i hi
      obtain ⟨j, hj, rfl⟩ := List.mem_iff_getElem.1 hi
      have := h j hj
      rwa [show part.getD j 0 = part[j] by simp [List.getD_eq_getElem?_getD, List.getElem?_eq_getElem hj]] at this
  unfold lookL PartSol
  by_cases hl : part.length = 1
  · rw [if_pos hl]
    obtain ⟨i, rfl⟩ := List.length_eq_one_iff.1 hl
    simp only [pick, List.map_cons, List.map_nil, List.mem_map, List.getD_cons_zero]
    constructor
    · rintro ⟨x, hx, e⟩
      rw [List.cons.injEq] at e
      refine ⟨hpl, fun k hk => ?_, fun f hf ha => absurd ha (h1 hl f hf)⟩
      rw [List.mem_singleton.1 hk, ← e.1]
      exact (mem_placesL (hN _)).1 hx
    · rintro ⟨_, h2, _⟩
      exact ⟨_, (mem_placesL (hN _)).2 (h2 i (by simp)), rfl⟩
  · rw [if_neg hl]
    have h := mem_leaves hN hFI nd hlt hcl pts part.length 0 l (by omega) rfl (fun i hi => by omega)
    rw [List.take_zero] at h
    rw [h, hall, ← mine_all hFI hcl pts]
    exact ⟨fun h => ⟨hpl, fun j hj => (h j (by omega) hj).1, fun j hj => (h j (by omega) hj).2⟩, fun h j _ hj => ⟨h.2.1 j hj, h.2.2 j hj⟩⟩
theorem lookL_len {F : List Fc} {l : List Bx} {part : List Nat} {z : List Pt} (h : z ∈ lookL F l part) : z.length = part.length := by
  unfold lookL at h
  split at h
  · rename_i h1
    obtain ⟨x, _, rfl⟩ := List.mem_map.1 h
    simp [h1]
  · have := (leaves_pre F _ part l _ _ _ _ _ h).2
    simpa using this
end BS
end
section
namespace BS
def cmpI (x y : Int) : Int := if x < y then -1 else if y < x then 1 else 0
def cmpLs : List Int → List Int → Int
  | [], [] => 0
  | [], _ :: _ => -1
  | _ :: _, [] => 1
  | x :: a, y :: b => if cmpI x y ≠ 0 then cmpI x y else cmpLs a b
def ordV (a b : List Int) : Int := if cmpI a.length b.length ≠ 0 then cmpI a.length b.length else cmpLs a b
theorem cmpLs_eq {a b : List Int} {i : Nat} (ha : i < a.length) (hb : i < b.length) (h : cmpLs a b = cmpLs (a.drop i) (b.drop i)) (h0 : ¬ cmpI (a.getD i 0) (b.getD i 0) ≠ 0) : cmpLs a b = cmpLs (a.drop (i + 1)) (b.drop (i + 1)) := by
  rw [h, drop_getD 0 ha, drop_getD 0 hb, cmpLs, if_neg h0]
theorem cmpLs_ne {a b : List Int} {i : Nat} (ha : i < a.length) (hb : i < b.length) (h : cmpLs a b = cmpLs (a.drop i) (b.drop i)) (h0 : cmpI (a.getD i 0) (b.getD i 0) ≠ 0) : cmpLs a b = cmpI (a.getD i 0) (b.getD i 0) := by
  rw [h, drop_getD 0 ha, drop_getD 0 hb, cmpLs, if_pos h0]
theorem cmpLs_long {a b : List Int} {i : Nat} (ha : i < a.length) (hb : ¬ i < b.length) (h : cmpLs a b = cmpLs (a.drop i) (b.drop i)) : cmpLs a b = 1 := by
  rw [h, drop_getD 0 ha, List.drop_eq_nil_of_le (show b.length ≤ i by omega), cmpLs]
theorem cmpLs_short {a b : List Int} (hb : a.length < b.length) (h : cmpLs a b = cmpLs (a.drop a.length) (b.drop a.length)) : cmpLs a b = -1 := by
  rw [h, List.drop_length, drop_getD 0 hb, cmpLs]
theorem cmpLs_same {a b : List Int} (hb : ¬ a.length < b.length) (h : cmpLs a b = cmpLs (a.drop a.length) (b.drop a.length)) : cmpLs a b = 0 := by
  rw [h, List.drop_length, List.drop_eq_nil_of_le (by omega), cmpLs]
def orL : List Int → Int
  | [] => 0
  | x :: l => if x ≠ 0 then x else orL l
theorem orL_step {l : List Int} {i : Nat} (hi : i < l.length) (h : orL l = orL (l.drop i)) (h0 : ¬ l.getD i 0 ≠ 0) : orL l = orL (l.drop (i + 1)) := by rw [h, drop_getD 0 hi, orL, if_neg h0]
theorem orL_at {l : List Int} {i : Nat} (hi : i < l.length) (h : orL l = orL (l.drop i)) (h0 : l.getD i 0 ≠ 0) : orL l = l.getD i 0 := by rw [h, drop_getD 0 hi, orL, if_pos h0]
theorem orL_two (a b : List Int) : orL [cmpI a.length b.length, cmpLs a b] = ordV a b := by
  unfold ordV
  simp only [orL]
  split
  · rfl
  · split
    · rfl
    · omega
theorem cmpLs_lt : ∀ {a b : List Int}, a.length = b.length → (cmpLs a b < 0 ↔ lexlt a b = true)
  | [], [], _ => by simp [cmpLs, lexlt]
  | [], _ :: _, h => by simp at h
  | _ :: _, [], h => by simp at h
  | x :: a, y :: b, h => by
    have ih := cmpLs_lt (a := a) (b := b) (by simpa using h)
    simp only [cmpLs, lexlt]
    unfold cmpI
    by_cases h1 : x < y
    · have h3 : ¬ x = y := by omega
      simp [h1, h3]
    · by_cases h2 : y < x
      · have h3 : ¬ x = y := by omega
        simp [h1, h2, h3]
      · have h3 : x = y := by omega
        subst h3
        simp [ih]
theorem ordV_lt (a b : List Int) : decide (ordV a b < 0) = ahead a b := by
  unfold ordV ahead cmpI
  by_cases h1 : a.length = b.length
  · have := cmpLs_lt h1
    rw [if_pos h1, h1]
    simp only [Int.lt_irrefl, if_false, ne_eq, not_true_eq_false]
    rw [Bool.eq_iff_iff, decide_eq_true_eq]
    exact this
  · rw [if_neg h1]
    by_cases h2 : a.length < b.length
    · have : (a.length : Int) < b.length := by omega
      simp [h2, this]
    · have h3 : ¬ (a.length : Int) < b.length := by omega
      have h4 : (b.length : Int) < a.length := by omega
      simp [h2, h3, h4]
end BS
end
section
namespace Go.Proofs
open Go.Shelf
def Tryz.lays215_ren : Go.Shelf.Ren := ⟨fun | 215 => 254 | n => n, fun | 3 => 3 | 4 => 4 | n => n, fun | n => n⟩
def Tryz.lays122_ren : Go.Shelf.Ren := ⟨fun | 122 => 209 | 215 => 254 | n => n, fun | 3 => 3 | 4 => 4 | n => n, fun | n => n⟩
theorem Tryz.lays122 : Go.Proofs.Lays.n122 Tryz.prog Tryz.lays122_ren := {
  mixed := by kernel_rfl
  f122 := Tryz.func209.trans (congrArg some (by kernel_rfl))
  f215 := Tryz.func254.trans (congrArg some (by kernel_rfl))
  t3 := Tryz.underlying3
  a3 := Tryz.isAgg3
  z3 := Tryz.sizeOf3
  v3 := Tryz.zeroValue3
  t4 := Tryz.underlying4
  a4 := Tryz.isAgg4
  z4 := Tryz.sizeOf4
  v4 := Tryz.zeroValue4 }
open Go.RowKit in
theorem Tryz.cmp_Compare_int (x y : Int) (w : World) :
    Calls Tryz.prog 209 #[.int .i64 x, .int .i64 y] w fun e w' => e = .returned (.int .i64 (Lib.compareInt x y)) ∧ w' = w := Any.cmp_Compare_int Tryz.lays122 x y w
def Tryz.lays189_ren : Go.Shelf.Ren := ⟨fun | 189 => 170 | 125 => 207 | 257 => 213 | 128 => 252 | 129 => 253 | 294 => 255 | 295 => 256 | 296 => 257 | 297 => 258 | 298 => 259 | 299 => 260 | 216 => 261 | 300 => 262 | 301 => 263 | 328 => 284 | 329 => 280 | 330 => 281 | 331 => 285 | 332 => 286 | 215 => 254 | 343 => 294 | n => n, fun | 28 => 51 | 3 => 3 | 46 => 182 | 0 => 0 | 51 => 296 | 53 => 298 | 4 => 4 | 183 => 290 | 182 => 289 | 131 => 175 | 5 => 5 | 9 => 9 | 218 => 316 | 222 => 320 | 228 => 329 | 229 => 313 | n => n, fun | n => n⟩
theorem Tryz.lays189 : Go.Proofs.Lays.n189 Tryz.prog Tryz.lays189_ren := {
  mixed := by kernel_rfl
  f125 := Tryz.func207.trans (congrArg some (by kernel_rfl))
  f128 := Tryz.func252.trans (congrArg some (by kernel_rfl))
  f129 := Tryz.func253.trans (congrArg some (by kernel_rfl))
  f189 := Tryz.func170.trans (congrArg some (by kernel_rfl))
  f215 := Tryz.func254.trans (congrArg some (by kernel_rfl))
  f216 := Tryz.func261.trans (congrArg some (by kernel_rfl))
  f257 := Tryz.func213.trans (congrArg some (by kernel_rfl))
  f294 := Tryz.func255.trans (congrArg some (by kernel_rfl))
  f295 := Tryz.func256.trans (congrArg some (by kernel_rfl))
  f296 := Tryz.func257.trans (congrArg some (by kernel_rfl))
  f297 := Tryz.func258.trans (congrArg some (by kernel_rfl))
  f298 := Tryz.func259.trans (congrArg some (by kernel_rfl))
  f299 := Tryz.func260.trans (congrArg some (by kernel_rfl))
  f300 := Tryz.func262.trans (congrArg some (by kernel_rfl))
  f301 := Tryz.func263.trans (congrArg some (by kernel_rfl))
  f328 := Tryz.func284.trans (congrArg some (by kernel_rfl))
  f329 := Tryz.func280.trans (congrArg some (by kernel_rfl))
  f330 := Tryz.func281.trans (congrArg some (by kernel_rfl))
  f331 := Tryz.func285.trans (congrArg some (by kernel_rfl))
  f332 := Tryz.func286.trans (congrArg some (by kernel_rfl))
  f343 := Tryz.func294.trans (congrArg some (by kernel_rfl))
  t0 := Tryz.underlying0
  a0 := Tryz.isAgg0
  z0 := Tryz.sizeOf0
  v0 := Tryz.zeroValue0
  t3 := Tryz.underlying3
  a3 := Tryz.isAgg3
  z3 := Tryz.sizeOf3
  v3 := Tryz.zeroValue3
  t4 := Tryz.underlying4
  a4 := Tryz.isAgg4
  z4 := Tryz.sizeOf4
  v4 := Tryz.zeroValue4
  t5 := Tryz.underlying5
  a5 := Tryz.isAgg5
  z5 := Tryz.sizeOf5
  v5 := Tryz.zeroValue5
  t9 := Tryz.underlying9
  a9 := Tryz.isAgg9
  z9 := Tryz.sizeOf9
  v9 := Tryz.zeroValue9
  t28 := Tryz.underlying51
  a28 := Tryz.isAgg51
  z28 := Tryz.sizeOf51
  v28 := Tryz.zeroValue51
  t46 := Tryz.underlying182
  a46 := Tryz.isAgg182
  z46 := Tryz.sizeOf182
  v46 := Tryz.zeroValue182
  t51 := Tryz.underlying296
  a51 := Tryz.isAgg296
  z51 := Tryz.sizeOf296
  v51 := Tryz.zeroValue296
  t53 := Tryz.underlying298
  a53 := Tryz.isAgg298
  z53 := Tryz.sizeOf298
  v53 := Tryz.zeroValue298
  t131 := Tryz.underlying175
  a131 := Tryz.isAgg175
  z131 := Tryz.sizeOf175
  v131 := Tryz.zeroValue175
  t182 := Tryz.underlying289
  a182 := Tryz.isAgg289
  z182 := Tryz.sizeOf289
  v182 := Tryz.zeroValue289
  t183 := Tryz.underlying290
  a183 := Tryz.isAgg290
  z183 := Tryz.sizeOf290
  v183 := Tryz.zeroValue290
  t218 := Tryz.underlying316
  a218 := Tryz.isAgg316
  z218 := Tryz.sizeOf316
  v218 := Tryz.zeroValue316
  t222 := Tryz.underlying320
  a222 := Tryz.isAgg320
  z222 := Tryz.sizeOf320
  v222 := Tryz.zeroValue320
  t228 := Tryz.underlying329
  a228 := Tryz.isAgg329
  z228 := Tryz.sizeOf329
  v228 := Tryz.zeroValue329
  t229 := Tryz.underlying313
  a229 := Tryz.isAgg313
  z229 := Tryz.sizeOf313
  v229 := Tryz.zeroValue313 }
open Go.Sort Go.RowKit in
theorem Tryz.slices_Sort_int (blk off cap : Nat) (zs : List Int) (w : World) (hH : Holds (Value.int .i64) w blk off zs.toArray) (hblk : blk < w.heap.size) (hsz : zs.length < 4611686018427387904) :
    Calls Tryz.prog 170 #[.slice (some ⟨blk, off, none⟩) zs.length cap] w fun e w' =>
      e = .returned (.tuple #[]) ∧ ∃ n os, w' = grow (putRow (Value.int .i64) (Sort.ahead w n) blk off (zs.mergeSort fun x y => decide (x ≤ y)).toArray) os := Any.slices_Sort_int Tryz.lays189 blk off cap zs w hH hblk hsz
open Go.RowKit Go.Sort in
theorem Tryz.slices_Sort_int_none (p : Option Addr) (cap : Nat) (w : World) :
    Calls Tryz.prog 170 #[.slice p 0 cap] w fun e w' => e = .returned (.tuple #[]) ∧ w' = w := Any.slices_Sort_int_none Tryz.lays189 p cap w
end Go.Proofs
end
