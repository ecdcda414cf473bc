import Derived.Test.YtoakoffdjeleoaaGreatKb00
import Derived.WalkKit
import Derived.Below
import Derived.Orders
import Derived.OwnWalk
import Derived.KernelRfl
import Derived.Laws.CopyRow
import Derived.Shelf.Abstract
import Derived.Maps.AppendAt
import Derived.OrdersHeld
import Derived.Laws.StructEq
import Derived.Laws.OwnMore
import Derived.Laws.MakeOwn
import Derived.Great.BuildSlice
set_option linter.unusedVariables false
set_option linter.unusedSimpArgs false
set_option linter.unusedSectionVars false
section
namespace Go.Proofs.YtoakoffdjeleoaaGreat
open Go.RowKit
theorem beq_no {a b : Nat} (h : a ≠ b) : Nat.beq a b = false := by
  cases e : Nat.beq a b with
  | false => rfl
  | true => exact absurd (Nat.eq_of_beq_eq_true e) h
abbrev Env := List (Nat × Bool × Value)
def eget : Env → Nat → Option (Bool × Value)
  | [], _ => none
  | (j, v) :: E, k => bif Nat.beq j k then some v else eget E k
def ev (E : Env) : Operand → Option (Bool × Value)
  | .tmp t => eget E t
  | .const v => some (true, v)
  | .global g => some (true, .pointer (some ⟨g, 0, none⟩))
  | .func f => some (true, .func (.func f) #[] #[])
def Ev (E : Env) (b : Bool) (x : Operand) (v : Value) : Prop := ∃ c, ev E x = some (c, v) ∧ (b = true → c = true)
theorem e1 {E : Env} {b : Bool} {x : Operand} {v : Value} (h : ev E x = some (true, v)) : Ev E b x v := ⟨true, h, fun _ => rfl⟩
theorem e2 {E : Env} {b : Bool} {x : Operand} {v : Value} (h : ev E x = some (b, v)) : Ev E b x v := ⟨b, h, id⟩
theorem e3 {E : Env} {b c : Bool} {x : Operand} {v : Value} (h : ev E x = some (c, v)) (k : b = true → c = true) : Ev E b x v := ⟨c, h, k⟩
structure Fits (n : Nat) (E : Env) (a : Act) : Prop where
  size : a.tmps.size = n
  get : ∀ k b v, eget E k = some (b, v) → a.tmps[k]? = some (cond b v undef)
theorem Fits.ev {n : Nat} {E : Env} {a : Act} (h : Fits n E a) {b : Bool} {x : Operand} {v : Value} (hx : Ev E b x v) (hb : b = true) : a.eval x = v := by
  obtain ⟨c, h1, h2⟩ := hx
  cases x with
  | tmp t =>
    have := h.get t c v h1
    rw [h2 hb] at this
    simp [Act.eval, this]
  | const c => injection h1 with h1; injection h1
  | global g => injection h1 with h1; injection h1
  | func f => injection h1 with h1; injection h1
theorem Fits.put' {n : Nat} {E : Env} {a : Act} (h : Fits n E a) {d : Nat} (hd : d < n) (b : Bool) (v u : Value) (hu : u = cond b v undef) : Fits n ((d, b, v) :: E) (a.put (some d) u) := by
  refine ⟨by simp [Act.put, h.size], fun k c x hk => ?_⟩
  simp only [eget] at hk
  by_cases e : d = k
  · subst e
    simp only [Nat.beq_refl, cond_true] at hk
    injection hk with hk
    injection hk with hk1 hk2
    subst hk1; subst hk2
    simp [Act.put, h.size, hd, hu]
  · rw [beq_no e] at hk
    simp only [cond_false] at hk
    have := h.get k c x hk
    simp only [Act.put]
    rw [Array.getElem?_setIfInBounds_ne e]
    exact this
def sub (E' E : Env) : Prop := ∀ k x, eget E' k = some x → eget E k = some x
theorem Fits.sub {n : Nat} {E E' : Env} {a : Act} (h : Fits n E a) (hs : sub E' E) : Fits n E' a := ⟨h.size, fun k b v hk => h.get k b v (hs k _ hk)⟩
theorem sub_nil (E : Env) : sub [] E := fun k v h => by cases h
theorem sub_cons {E' E : Env} {j : Nat} {v : Value} (h : eget E j = some (true, v)) (k : sub E' E) : sub ((j, true, v) :: E') E := fun i u hi => by
  simp only [eget] at hi
  by_cases e : j = i
  · subst e
    simp only [Nat.beq_refl, cond_true] at hi
    rw [← hi]
    exact h
  · rw [beq_no e] at hi
    exact k i u hi
theorem sub_int {E' E : Env} {j : Nat} {q : IntKind} {x y : Int} (h : eget E j = some (true, .int q x)) (e : x = y) (k : sub E' E) : sub ((j, true, .int q y) :: E') E := sub_cons (e ▸ h) k
theorem sub_eq {E' E : Env} {j : Nat} {u v : Value} (h : eget E j = some (true, u)) (e : u = v) (k : sub E' E) : sub ((j, true, v) :: E') E := sub_cons (e ▸ h) k
abbrev Gh := Nat → Option Obj
def Pre (o o' : Obj) : Prop := o = o' ∨ ∃ cs cs' T fr, o = .cells cs T fr ∧ o' = .cells cs' T fr ∧ ∀ (j : Nat) u, cs[j]? = some u → cs'[j]? = some u
def Gh.In (H : Gh) (w : World) : Prop := ∀ b o, H b = some o → ∃ o', w.heap[b]? = some o' ∧ Pre o o'
theorem Gh.In.cell {H : Gh} {w : World} (h : H.In w) {b j : Nat} {cs : Array Value} {T : TypeId} {fr : Nat × Nat} (hb : H b = some (.cells cs T fr)) {u : Value} (hj : cs[j]? = some u) : w.cell? ⟨b, j, none⟩ = some u := by
  obtain ⟨o', h1, h2⟩ := h b _ hb
  rcases h2 with rfl | ⟨cs1, cs', T', fr', e, rfl, h3⟩
  · simp [World.cell?, h1, hj]
  · injection e with e1 e2 e3
    subst e1
    simp [World.cell?, h1, h3 j u hj]
def Gh.Le (H H' : Gh) : Prop := ∀ b o, H b = some o → H' b = some o
theorem Gh.Le.refl (H : Gh) : H.Le H := fun _ _ h => h
theorem Gh.Le.trans {A B C : Gh} (h : A.Le B) (k : B.Le C) : A.Le C := fun b o hb => k b o (h b o hb)
theorem Gh.In.le {H H' : Gh} {w : World} (h : H'.In w) (k : H.Le H') : H.In w := fun b o hb => h b o (k b o hb)
def Gh.NewS (H H' : Gh) (n : Nat) (S : List Nat) : Prop := ∀ b, H' b ≠ none → H b ≠ none ∨ n ≤ b ∨ b ∈ S
def Gh.New (H H' : Gh) (n : Nat) : Prop := ∀ b, H' b ≠ none → H b ≠ none ∨ n ≤ b
theorem Gh.New.refl (H : Gh) (n : Nat) : H.New H n := fun _ h => .inl h
theorem Gh.New.trans {A B C : Gh} {n m : Nat} (h : A.New B n) (k : B.New C m) (hm : n ≤ m) : A.New C n := fun b hb => by
  rcases k b hb with h1 | h1
  · exact h b h1
  · exact .inr (by omega)
theorem Gh.NewS.trans {A B C : Gh} {n m : Nat} {S : List Nat} (h : A.NewS B n S) (k : B.New C m) (hm : n ≤ m) : A.NewS C n S := fun b hb => by
  rcases k b hb with h1 | h1
  · exact h b h1
  · exact .inr (.inl (by omega))
theorem Gh.NewS.new {A B : Gh} {n : Nat} (h : A.NewS B n []) : A.New B n := fun b hb => by
  rcases h b hb with h1 | h1 | h1
  · exact .inl h1
  · exact .inr h1
  · cases h1
theorem Gh.NewS.refl (H : Gh) (n : Nat) (S : List Nat) : H.NewS H n S := fun _ h => .inl h
def Gh.add (H : Gh) (b : Nat) (o : Obj) : Gh := fun c => if c = b then some o else H c
theorem Gh.le_add {H : Gh} {b : Nat} (h : H b = none) (o : Obj) : H.Le (H.add b o) := fun c u hc => by
  unfold Gh.add
  split
  · rename_i e; subst e; rw [h] at hc; cases hc
  · exact hc
theorem Gh.add_same (H : Gh) (b : Nat) (o : Obj) : (H.add b o) b = some o := by simp [Gh.add]
structure Kept (S : List Nat) (w w' : World) : Prop where
  os : w'.os = w.os
  tape : w'.tape = w.tape
  output : w'.output = w.output
  size : w.heap.size ≤ w'.heap.size
  block : ∀ b, b < w.heap.size → b ∉ S → w'.heap[b]? = w.heap[b]?
  drawn : w.drawn ≤ w'.drawn
theorem Kept.refl (S : List Nat) (w : World) : Kept S w w := ⟨rfl, rfl, rfl, Nat.le_refl _, fun _ _ _ => rfl, Nat.le_refl _⟩
theorem Kept.trans {S : List Nat} {a b c : World} (h : Kept S a b) (k : Kept S b c) : Kept S a c :=
  ⟨k.os.trans h.os, k.tape.trans h.tape, k.output.trans h.output, Nat.le_trans h.size k.size, fun i hi hs => (k.block i (Nat.lt_of_lt_of_le hi h.size) hs).trans (h.block i hi hs), Nat.le_trans h.drawn k.drawn⟩
theorem Kept.below {w w' : World} (h : Kept [] w w') : Below w.heap.size w w' := ⟨h.os, h.tape, h.output, h.size, fun k hk => h.block k hk (by simp)⟩
theorem Kept.mono {S T : List Nat} {w w' : World} (h : Kept S w w') (hs : ∀ b ∈ S, b ∈ T) : Kept T w w' := ⟨h.os, h.tape, h.output, h.size, fun k hk hn => h.block k hk (fun hb => hn (hs k hb)), h.drawn⟩
structure Cx where
  w0 : World
  S : List Nat
  H0 : Gh
structure Rw where
  v : Value
  T : Nat
  k : Nat
  m : Nat
  cs : List Value
def Rw.apart (r : Rw) (g : Nat) : Prop := r.v.ownBlock ≠ some g
structure St (C : Cx) (n : Nat) (D : List Deferred) (H : Gh) (E : Env) (M : List (Nat × Obj)) (R : List Rw) (a : Act) (w : World) : Prop where
  fits : Fits n E a
  defs : a.defers = D
  kept : Kept C.S C.w0 w
  mem : ∀ q ∈ M, w.heap[q.1]? = some q.2
  own : ∀ q ∈ M, C.w0.heap.size ≤ q.1 ∨ q.1 ∈ C.S
  nodup : (M.map (·.1)).Nodup
  gin : H.In w
  dis : ∀ q ∈ M, H q.1 = none
  gle : C.H0.Le H
  gnew : C.H0.NewS H C.w0.heap.size C.S
  rows : ∀ r ∈ R, w.ownsRow 0 r.T r.k r.v r.m r.cs
  rown : ∀ r ∈ R, ∀ g, r.v.ownBlock = some g → C.w0.heap.size ≤ g ∨ g ∈ C.S
  rgh : ∀ r ∈ R, ∀ g, r.v.ownBlock = some g → H g = none
  rmem : ∀ r ∈ R, ∀ q ∈ M, r.apart q.1
  rnod : R.Pairwise fun r s => ∀ g, r.v.ownBlock = some g → s.apart g
variable {P : Program} {C : Cx} {n : Nat} {D : List Deferred} {H : Gh} {E : Env} {M : List (Nat × Obj)} {R : List Rw} {a : Act} {w : World}
theorem St.put (s : St C n D H E M R a w) {d : Nat} (hd : Nat.blt d n = true) {b : Bool} {v u : Value} (hu : u = cond b v undef) : St C n D H ((d, b, v) :: E) M R (a.put (some d) u) w :=
  { s with fits := s.fits.put' (by simpa [Nat.blt_eq] using hd) b v u hu, defs := by simpa [Act.put] using s.defs }
theorem St.sub (s : St C n D H E M R a w) {E' : Env} (h : Go.Proofs.YtoakoffdjeleoaaGreat.sub E' E) : St C n D H E' M R a w := { s with fits := s.fits.sub h }
theorem St.sub' {d : Nat} {b : Bool} {u v : Value} (s : St C n D H ((d, b, v) :: E) M R a w) (h : b = true → v = u) : St C n D H ((d, b, u) :: E) M R a w :=
  { s with fits := ⟨s.fits.size, fun k c x hk => by
      simp only [eget] at hk
      by_cases e : d = k
      · subst e
        simp only [Nat.beq_refl, cond_true] at hk
        injection hk with hk
        injection hk with hk1 hk2
        subst hk1
        rw [s.fits.get d b v (by simp [eget]), ← hk2]
        cases b with
        | true => rw [h rfl]
        | false => rfl
      · rw [beq_no e] at hk
        exact s.fits.get k c x (by simp only [eget, beq_no e]; exact hk)⟩ }
theorem St.lt (s : St C n D H E M R a w) {q : Nat × Obj} (hq : q ∈ M) : q.1 < w.heap.size := (Array.getElem?_eq_some_iff.1 (s.mem q hq)).1
theorem St.glt (s : St C n D H E M R a w) {b : Nat} {o : Obj} (hb : H b = some o) : b < w.heap.size := by
  obtain ⟨_, h, _⟩ := s.gin b o hb
  exact (Array.getElem?_eq_some_iff.1 h).1
theorem row_lt {w : World} {base : Nat} {e : TypeId} {size n : Nat} {v : Value} {xs : List Value} (h : w.ownsRow base e size v n xs) {k : Nat} (hk : v.ownBlock = some k) : base ≤ k ∧ k < w.heap.size := by
  rcases h.2 with ⟨rfl, _⟩ | ⟨g, cap, cur, rfl, hb, hh, _⟩
  · simp [Value.ownBlock] at hk
  · have : g = k := by simpa [Value.ownBlock] using hk
    subst this
    exact ⟨hb, (Array.getElem?_eq_some_iff.1 hh).1⟩
theorem row_move {w w1 : World} {base : Nat} {e : TypeId} {size n : Nat} {v : Value} {xs : List Value} (h : w.ownsRow base e size v n xs) (hm : ∀ k, v.ownBlock = some k → w1.heap[k]? = w.heap[k]?) : w1.ownsRow base e size v n xs := by
  obtain ⟨h1, h2⟩ := h
  refine ⟨h1, ?_⟩
  rcases h2 with h2 | ⟨g, cap, cur, rfl, hg, hh, r⟩
  · exact .inl h2
  · exact .inr ⟨g, cap, cur, rfl, hg, (hm g (by simp [Value.ownBlock])).trans hh, r⟩
theorem St.drew (s : St C n D H E M R a w) : St C n D H E M R a w.drew :=
  { s with kept := ⟨s.kept.os, s.kept.tape, s.kept.output, s.kept.size, s.kept.block, Nat.le_succ_of_le s.kept.drawn⟩, mem := s.mem, gin := s.gin, rows := fun r hr => row_move (s.rows r hr) (fun _ _ => rfl) }
theorem St.move (s : St C n D H E M R a w) {H' : Gh} {M' : List (Nat × Obj)} {w' : World} (hk : Kept C.S C.w0 w') (hle : H.Le H') (hin : H'.In w') (hnew : H.New H' w.heap.size)
    (hM : ∀ q ∈ M', w'.heap[q.1]? = some q.2) (hMM : M'.map (·.1) = M.map (·.1)) (hR : ∀ r ∈ R, ∀ k, r.v.ownBlock = some k → w'.heap[k]? = w.heap[k]?) : St C n D H' E M' R a w' := by
  have back : ∀ q ∈ M', ∃ q' ∈ M, q'.1 = q.1 := fun q hq => by
    have : q.1 ∈ M.map (·.1) := by rw [← hMM]; exact List.mem_map.2 ⟨q, hq, rfl⟩
    obtain ⟨q', h1, h2⟩ := List.mem_map.1 this
    exact ⟨q', h1, h2⟩
  have none_ : ∀ g, g < w.heap.size → H g = none → H' g = none := fun g hg h0 => by
    cases h1 : H' g with
    | none => rfl
    | some o =>
      rcases hnew g (by rw [h1]; simp) with h2 | h2
      · exact absurd h0 h2
      · omega
  refine ⟨s.fits, s.defs, hk, hM, fun q hq => ?_, by rw [hMM]; exact s.nodup, hin, fun q hq => ?_, s.gle.trans hle, s.gnew.trans hnew s.kept.size, fun r hr => row_move (s.rows r hr) (hR r hr), s.rown, fun r hr g hg => ?_, fun r hr q hq => ?_, s.rnod⟩
  · obtain ⟨q', h1, h2⟩ := back q hq
    rw [← h2]; exact s.own q' h1
  · obtain ⟨q', h1, h2⟩ := back q hq
    rw [← h2]; exact none_ _ (s.lt h1) (s.dis q' h1)
  · exact none_ g (row_lt (s.rows r hr) hg).2 (s.rgh r hr g hg)
  · obtain ⟨q', h1, h2⟩ := back q hq
    rw [← h2]; exact s.rmem r hr q' h1
theorem St.alloc (s : St C n D H E M R a w) (o : Obj) : St C n D H E ((w.heap.size, o) :: M) R a (w.alloc o) := by
  have hb := fun k hk => Below.heap_alloc w o k hk
  have hg0 : H w.heap.size = none := by
    cases hg : H w.heap.size with
    | none => rfl
    | some u => exact absurd (s.glt hg) (Nat.lt_irrefl _)
  refine ⟨s.fits, s.defs, s.kept.trans ⟨rfl, rfl, rfl, by simp, fun k hk _ => hb k hk, Nat.le_refl _⟩, fun q hq => ?_, fun q hq => ?_, ?_, fun b u hu => ?_, fun q hq => ?_, s.gle, s.gnew, fun r hr => row_move (s.rows r hr) (fun k hk => hb k (row_lt (s.rows r hr) hk).2), s.rown, s.rgh, fun r hr q hq => ?_, s.rnod⟩
  · rcases List.mem_cons.1 hq with rfl | hq
    · show (w.heap.push o)[w.heap.size]? = some o
      simp
    · rw [hb q.1 (s.lt hq)]; exact s.mem q hq
  · rcases List.mem_cons.1 hq with rfl | hq
    · exact .inl s.kept.size
    · exact s.own q hq
  · rw [List.map_cons, List.nodup_cons]
    refine ⟨fun hm => ?_, s.nodup⟩
    obtain ⟨q, hq, e⟩ := List.mem_map.1 hm
    have := s.lt hq
    omega
  · rw [hb b (s.glt hu)]; exact s.gin b u hu
  · rcases List.mem_cons.1 hq with rfl | hq
    · exact hg0
    · exact s.dis q hq
  · rcases List.mem_cons.1 hq with rfl | hq
    · intro he
      have := (row_lt (s.rows r hr) he).2
      exact absurd this (Nat.lt_irrefl _)
    · exact s.rmem r hr q hq
theorem getElem?_map_set {i g : Nat} {o o' : Obj} (hi : M[i]? = some (g, o)) : (M.set i (g, o')).map (·.1) = M.map (·.1) := by
  apply List.ext_getElem?
  intro j
  simp only [List.getElem?_map, List.getElem?_set]
  by_cases e : i = j
  · subst e
    obtain ⟨h1, h2⟩ := List.getElem?_eq_some_iff.1 hi
    simp [h1, h2]
  · simp [e]
theorem mem_set {i g : Nat} {o o' : Obj} (nd : (M.map (·.1)).Nodup) (hi : M[i]? = some (g, o)) : ∀ q ∈ M.set i (g, o'), q = (g, o') ∨ (q ∈ M ∧ q.1 ≠ g) := by
  intro q hq
  obtain ⟨j, hj⟩ := List.mem_iff_getElem?.1 hq
  rw [List.getElem?_set] at hj
  by_cases e : i = j
  · subst e
    have : i < M.length := (List.getElem?_eq_some_iff.1 hi).1
    simp [this] at hj
    exact .inl hj.symm
  · rw [if_neg e] at hj
    refine .inr ⟨List.mem_of_getElem? hj, fun eg => ?_⟩
    have h1 : (M.map (·.1))[i]? = some g := by rw [List.getElem?_map, hi]; rfl
    have h2 : (M.map (·.1))[j]? = some g := by rw [List.getElem?_map, hj]; exact congrArg some eg
    obtain ⟨i1, e1⟩ := List.getElem?_eq_some_iff.1 h1
    obtain ⟨j1, e2⟩ := List.getElem?_eq_some_iff.1 h2
    exact e ((List.getElem_inj nd).1 (e1.trans e2.symm))
theorem St.write (s : St C n D H E M R a w) {i g : Nat} {o o' : Obj} (hi : M[i]? = some (g, o)) {w' : World} (hos : w'.os = w.os) (htape : w'.tape = w.tape) (hout : w'.output = w.output) (hsize : w'.heap.size = w.heap.size)
    (hg : w'.heap[g]? = some o') (hoth : ∀ k, k ≠ g → w'.heap[k]? = w.heap[k]?) (hdr : w.drawn ≤ w'.drawn := by exact Nat.le_refl _) : St C n D H E (M.set i (g, o')) R a w' := by
  have hmem : (g, o) ∈ M := List.mem_of_getElem? hi
  refine s.move ⟨hos.trans s.kept.os, htape.trans s.kept.tape, hout.trans s.kept.output, by have := s.kept.size; omega, fun k hk hs => ?_, Nat.le_trans s.kept.drawn hdr⟩ (Gh.Le.refl _) (fun b u hu => ?_) (Gh.New.refl _ _) (fun q hq => ?_) (getElem?_map_set hi) (fun r hr k hk => ?_)
  · have : k ≠ g := fun e => by
      subst e
      rcases s.own _ hmem with h | h
      · exact absurd hk (Nat.not_lt.2 h)
      · exact hs h
    rw [hoth k this]; exact s.kept.block k hk hs
  · have : b ≠ g := fun e => by subst e; rw [s.dis _ hmem] at hu; cases hu
    rw [hoth b this]; exact s.gin b u hu
  · rcases mem_set s.nodup hi q hq with rfl | ⟨h1, h2⟩
    · exact hg
    · rw [hoth _ h2]; exact s.mem q h1
  · have : k ≠ g := fun e => by subst e; exact s.rmem r hr _ hmem hk
    exact hoth k this
theorem St.call (s : St C n D H E M R a w) {H' : Gh} {w' : World} (hk : Kept [] w w') (hle : H.Le H') (hin : H'.In w') (hnew : H.New H' w.heap.size) : St C n D H' E M R a w' :=
  s.move (s.kept.trans (hk.mono (by simp))) hle hin hnew (fun q hq => by rw [hk.block _ (s.lt hq) (by simp)]; exact s.mem q hq) rfl (fun r hr k hrk => hk.block k (row_lt (s.rows r hr) hrk).2 (by simp))
theorem St.freeze (s : St C n D H E M R a w) {i g : Nat} {o : Obj} (hi : M[i]? = some (g, o)) : St C n D (H.add g o) E (M.eraseIdx i) R a w := by
  have hS := s.own _ (List.mem_of_getElem? hi)
  have hmem : (g, o) ∈ M := List.mem_of_getElem? hi
  have sub_ := List.eraseIdx_sublist M i
  have ne_ : ∀ q ∈ M.eraseIdx i, q.1 ≠ g := by
    intro q hq e
    obtain ⟨j, hj, hne, rfl⟩ := List.mem_eraseIdx_iff_getElem.1 hq
    obtain ⟨i1, e1⟩ := List.getElem?_eq_some_iff.1 hi
    have h1 : (M.map (·.1))[i]'(by simpa using i1) = (M.map (·.1))[j]'(by simpa using hj) := by
      rw [List.getElem_map, List.getElem_map, e1]; exact e.symm
    exact hne ((List.getElem_inj s.nodup).1 h1).symm
  have hle : H.Le (H.add g o) := Gh.le_add (s.dis _ hmem) o
  refine ⟨s.fits, s.defs, s.kept, fun q hq => s.mem q (sub_.subset hq), fun q hq => s.own q (sub_.subset hq), (s.nodup).sublist (sub_.map _), fun b u hu => ?_, fun q hq => ?_, s.gle.trans hle, fun b hb => ?_, s.rows, s.rown, fun r hr k hk => ?_, fun r hr q hq => s.rmem r hr q (sub_.subset hq), s.rnod⟩
  · unfold Gh.add at hu
    split at hu
    · rename_i e; subst e; injection hu with hu; subst hu; exact ⟨_, s.mem _ hmem, .inl rfl⟩
    · exact s.gin b u hu
  · unfold Gh.add; rw [if_neg (ne_ q hq)]; exact s.dis q (sub_.subset hq)
  · by_cases e : b = g
    · subst e; exact .inr hS
    · unfold Gh.add at hb; rw [if_neg e] at hb; exact s.gnew b hb
  · unfold Gh.add
    rw [if_neg (fun e => by subst e; exact s.rmem r hr _ hmem hk)]
    exact s.rgh r hr k hk
theorem St.forget (s : St C n D H E M R a w) {M' : List (Nat × Obj)} {R' : List Rw} (hM : M'.Sublist M) (hR : R'.Sublist R) : St C n D H E M' R' a w :=
  ⟨s.fits, s.defs, s.kept, fun q hq => s.mem q (hM.subset hq), fun q hq => s.own q (hM.subset hq), s.nodup.sublist (hM.map _), s.gin, fun q hq => s.dis q (hM.subset hq), s.gle, s.gnew, fun r hr => s.rows r (hR.subset hr), fun r hr => s.rown r (hR.subset hr), fun r hr => s.rgh r (hR.subset hr), fun r hr q hq => s.rmem r (hR.subset hr) q (hM.subset hq), s.rnod.sublist hR⟩
theorem sA {E' E : Env} (h : sub E' E := by repeat' (first | exact sub_nil _ | refine sub_cons rfl ?_)) : sub E' E := h
end Go.Proofs.YtoakoffdjeleoaaGreat
end
section
namespace Go.Proofs.YtoakoffdjeleoaaGreat
open Go.RowKit
def RK (K : Act → World → Prop) (C : Cx) (n : Nat) (D : List Deferred) (H : Gh) (E : Env) (M : List (Nat × Obj)) (R : List Rw) : Prop := ∀ a w, St C n D H E M R a w → K a w
variable {P : Program} {ops : Array Oper} {Q : Exit → Act → World → Prop} {K : Act → World → Prop} {C : Cx} {n : Nat} {D : List Deferred} {H : Gh} {E : Env} {M : List (Nat × Obj)} {R : List Rw} {l : List Oper} {o : Oper} {d : Nat} {b : Bool} {v : Value}
theorem c_seq {x y : Code} (h : RK (x.wp P (Exit.then (y.wp P Q) Q)) C n D H E M R) : RK ((Code.seq x y).wp P Q) C n D H E M R := fun a w s => wp_seq (h a w s)
theorem c_skip (h : RK (Q .normal) C n D H E M R) : RK (Code.skip.wp P Q) C n D H E M R := fun a w s => wp_skip (h a w s)
theorem c_ret (h : RK (Q .ret) C n D H E M R) : RK (Code.ret.wp P Q) C n D H E M R := fun a w s => wp_ret (h a w s)
theorem c_exit {i : Nat} (h : RK (Q (.exit i)) C n D H E M R) : RK ((Code.exit i).wp P Q) C n D H E M R := fun a w s => wp_exit (h a w s)
theorem c_block {i : Nat} {c : Code} (h : RK (c.wp P (Exit.inBlock i Q)) C n D H E M R) : RK ((Code.block i c).wp P Q) C n D H E M R := fun a w s => wp_block (h a w s)
theorem c_region {i : Nat} {l : List Oper} (h : RK (wpList P l.toArray Q l) C n D H E M R) : RK ((Code.region i l.toArray false).wp P Q) C n D H E M R := fun a w s => wp_region_lit (h a w s)
theorem c_if {x : Operand} {c d : Code} {b : Bool} (hx : ev E x = some (true, .bool b)) (ht : b = true → RK (c.wp P Q) C n D H E M R) (hf : b = false → RK (d.wp P Q) C n D H E M R) : RK ((Code.cond x c d).wp P Q) C n D H E M R :=
  fun a w s => wp_cond_split (s.fits.ev (e1 hx) rfl) (fun h => ht h a w s) (fun h => hf h a w s)
theorem l_end (h : RK (Q .normal) C n D H E M R) : RK (wpList P ops Q []) C n D H E M R := fun a w s => h a w s
theorem x_next {y : Code} (h : RK (y.wp P Q) C n D H E M R) : RK (Exit.then (y.wp P Q) Q .normal) C n D H E M R := h
theorem x_te {N : Act → World → Prop} {i : Nat} (h : RK (Q (.exit i)) C n D H E M R) : RK (Exit.then N Q (.exit i)) C n D H E M R := h
theorem x_tr {N : Act → World → Prop} (h : RK (Q .ret) C n D H E M R) : RK (Exit.then N Q .ret) C n D H E M R := h
theorem x_bn {i : Nat} (h : RK (Q .normal) C n D H E M R) : RK (Exit.inBlock i Q .normal) C n D H E M R := h
theorem x_br {i : Nat} (h : RK (Q .ret) C n D H E M R) : RK (Exit.inBlock i Q .ret) C n D H E M R := h
theorem x_be {i : Nat} (h : RK (Q .normal) C n D H E M R) : RK (Exit.inBlock i Q (.exit i)) C n D H E M R := fun a w s => by
  show (if i = i then Q .normal a w else Q (.exit i) a w)
  rw [if_pos rfl]
  exact h a w s
theorem x_bo {i j : Nat} (hne : Nat.beq j i = false) (h : RK (Q (.exit j)) C n D H E M R) : RK (Exit.inBlock i Q (.exit j)) C n D H E M R := fun a w s => by
  show (if j = i then Q .normal a w else Q (.exit j) a w)
  rw [if_neg (fun e => by subst e; rw [Nat.beq_refl] at hne; cases hne)]
  exact h a w s
theorem k_forget {M' : List (Nat × Obj)} {R' : List Rw} (hM : M'.Sublist M) (hR : R'.Sublist R) (h : RK K C n D H E M' R') : RK K C n D H E M R := fun a w s => h a w (s.forget hM hR)
theorem c_loop {ι : Type} {c : Code} (Ei : ι → Env) (Mi : ι → List (Nat × Obj)) (Ri : ι → List Rw) (Hi : ι → Gh) (I : ι → Prop) (μ : ι → Nat) (i0 : ι) (hI : I i0) (hH : Hi i0 = H) (hE : sub (Ei i0) E) (hM : Mi i0 = M) (hR : Ri i0 = R)
    (round : ∀ i, I i → RK (c.wp P (Exit.then (fun a w => ∃ j, I j ∧ μ j < μ i ∧ St C n D (Hi j) (Ei j) (Mi j) (Ri j) a w) Q)) C n D (Hi i) (Ei i) (Mi i) (Ri i)) : RK ((Code.loop c).wp P Q) C n D H E M R := by
  intro a w s
  subst hH; subst hM; subst hR
  have key : ∀ m i, μ i = m → I i → ∀ a w, St C n D (Hi i) (Ei i) (Mi i) (Ri i) a w → ∀ (b : Frame) (k : List Item) (cs : List Frame),
      ∃ e a' w', Q e a' w' ∧ Arrives P (lone (b.at a (.code c :: .inLoop c :: k)) cs w) b k cs e a' w' := by
    intro m
    induction m using Nat.strongRecOn with
    | _ m ih =>
      intro i hm hi a w s b k cs
      obtain ⟨e, a₁, w₁, hq, harr⟩ := round i hi a w s b (.inLoop c :: k) cs
      cases e with
      | normal =>
        obtain ⟨j, hj, hlt, hs⟩ := hq
        obtain ⟨e₂, a₂, w₂, hq₂, harr₂⟩ := ih (μ j) (hm ▸ hlt) j rfl hj a₁ w₁ hs b k cs
        exact ⟨e₂, a₂, w₂, hq₂, .of_steps (Steps.trans harr (.one step_inLoop)) harr₂⟩
      | exit id => exact ⟨_, a₁, w₁, hq, .pass (x := .inLoop c) rfl (fun _ _ => .inl (by simp)) harr⟩
      | goto l => exact ⟨_, a₁, w₁, hq, .pass (x := .inLoop c) rfl (fun _ _ => .inl (by simp)) harr⟩
      | ret => exact ⟨_, a₁, w₁, hq, .pass (x := .inLoop c) rfl (fun _ _ => .inl (by simp)) harr⟩
      | panic ch => exact ⟨_, a₁, w₁, hq, .pass (x := .inLoop c) rfl (fun _ _ => .inl (by simp)) harr⟩
      | outgrown => exact ⟨_, a₁, w₁, hq, .pass (x := .inLoop c) rfl (fun _ _ => .inl (by simp)) harr⟩
  intro b k cs
  obtain ⟨e, a', w', hq, harr⟩ := key _ i0 rfl hI a w (s.sub hE) b k cs
  exact ⟨e, a', w', hq, .of_steps (.one step_loop) harr⟩
theorem x_round {ι : Type} {Ei : ι → Env} {Mi : ι → List (Nat × Obj)} {Ri : ι → List Rw} {Hi : ι → Gh} {I : ι → Prop} {μ : ι → Nat} {m : Nat} (j : ι) (hI : I j) (hμ : μ j < m) (hH : Hi j = H) (hE : sub (Ei j) E) (hM : Mi j = M) (hR : Ri j = R) :
    RK (Exit.then (fun a w => ∃ j, I j ∧ μ j < m ∧ St C n D (Hi j) (Ei j) (Mi j) (Ri j) a w) Q .normal) C n D H E M R := fun a w s => by
  subst hH; subst hM; subst hR
  exact ⟨j, hI, hμ, s.sub hE⟩
def SX (P : Program) (ops : Array Oper) (Q : Exit → Act → World → Prop) (o : Oper) (K : Act → World → Prop) (a : Act) (w : World) : Prop :=
  if Region.wanted o (yielded ops a.tmps) then o.wp P a w K Q else K (a.put o.dst undef) w
theorem l_x (h : RK (SX P ops Q o (wpList P ops Q l)) C n D H E M R) : RK (wpList P ops Q (o :: l)) C n D H E M R := fun a w s => by
  have := h a w s
  unfold SX at this
  unfold wpList
  split
  · rename_i hw; rw [if_pos hw] at this; exact .inl this
  · rename_i hw; rw [if_neg hw] at this; exact this
inductive Gd (ops : Array Oper) (E : Env) : Option (Nat × Bool) → Bool → Prop where
  | no : Gd ops E none true
  | yes {j dj : Nat} {c : Bool} (h : (ops[j]?).bind (·.dst) = some dj) (k : eget E dj = some (true, .bool c)) : Gd ops E (some (j, true)) c
  | not {j dj : Nat} {c : Bool} (h : (ops[j]?).bind (·.dst) = some dj) (k : eget E dj = some (true, .bool c)) : Gd ops E (some (j, false)) (!c)
  | ifs {j dj : Nat} {c0 c : Bool} (h : (ops[j]?).bind (·.dst) = some dj) (k : eget E dj = some (c0, .bool c)) : Gd ops E (some (j, true)) (c0 && c)
  | ifn {j dj : Nat} {c0 c : Bool} (h : (ops[j]?).bind (·.dst) = some dj) (k : eget E dj = some (c0, .bool c)) : Gd ops E (some (j, false)) (c0 && !c)
theorem Gd.want {gd : Option (Nat × Bool)} (h : Gd ops E gd b) (hg : o.guard = gd) {a : Act} (hf : Fits n E a) : Region.wanted o (yielded ops a.tmps) = b := by
  unfold Region.wanted
  rw [hg]
  cases h with
  | no => rfl
  | yes h k =>
    have := hf.get _ _ _ k
    simp only [yielded, h, Option.bind_some, this, cond_true]
    cases b <;> rfl
  | not h k =>
    rename_i j dj c
    have := hf.get _ _ _ k
    simp only [yielded, h, Option.bind_some, this, cond_true]
    cases c <;> rfl
  | ifs h k =>
    rename_i j dj c0 c
    have := hf.get _ _ _ k
    simp only [yielded, h, Option.bind_some, this]
    cases c0 <;> cases c <;> rfl
  | ifn h k =>
    rename_i j dj c0 c
    have := hf.get _ _ _ k
    simp only [yielded, h, Option.bind_some, this]
    cases c0 <;> cases c <;> rfl
def Holds (M : List (Nat × Obj)) (w : World) : Prop := ∀ q ∈ M, w.heap[q.1]? = some q.2
structure PV (P : Program) (ops : Array Oper) (n : Nat) (E : Env) (M : List (Nat × Obj)) (H : Gh) (o : Oper) (d : Nat) (b : Bool) (v : Value) : Prop where
  dst : o.dst = some d
  want : ∀ a, Fits n E a → Region.wanted o (yielded ops a.tmps) = b
  run : b = true → ∀ a w, Fits n E a → Holds M w → H.In w → (execOp a.eval o).run P w = .ok (.value v) w
theorem x_pv (h : PV P ops n E M H o d b v) (k : RK K C n D H ((d, b, v) :: E) M R) (hn : Nat.blt d n = true := by rfl) : RK (SX P ops Q o K) C n D H E M R := fun a w s => by
  unfold SX
  rw [h.want a s.fits]
  cases hb : b with
  | true =>
    subst hb
    rw [if_pos rfl]
    unfold Oper.wp
    rw [h.run rfl a w s.fits s.mem s.gin]
    show K (a.put o.dst v) w
    rw [h.dst]
    exact k _ _ (s.put hn rfl)
  | false =>
    subst hb
    rw [if_neg (by simp), h.dst]
    exact k _ _ (s.put hn rfl)
theorem l_v (h : PV P ops n E M H o d b v) (k : RK (wpList P ops Q l) C n D H ((d, b, v) :: E) M R) (hn : Nat.blt d n = true := by rfl) : RK (wpList P ops Q (o :: l)) C n D H E M R := l_x (x_pv h k hn)
section
variable {ty : TypeId} {pos : String} {af : Array Edge} {gd : Option (Nat × Bool)}
theorem p_move {x : Operand} (hg : Gd ops E gd b) (hx : Ev E b x v) : PV P ops n E M H ⟨some d, .move x, ty, pos, af, gd⟩ d b v :=
  ⟨rfl, fun _ hf => hg.want rfl hf, fun hb a w hf _ _ => by simp only [execOp, hf.ev hx hb]; rfl⟩
theorem p_assign {x : Operand} (hg : Gd ops E gd b) (hx : Ev E b x v) : PV P ops n E M H ⟨some d, .assign x, ty, pos, af, gd⟩ d b v :=
  ⟨rfl, fun _ hf => hg.want rfl hf, fun hb a w hf _ _ => by simp only [execOp, hf.ev hx hb]; rfl⟩
theorem p_bin {op : BinOp} {t t' : TypeId} {x y : Operand} {k1 k2 : IntKind} {i j : Int} (hg : Gd ops E gd b) (hx : Ev E b x (.int k1 i)) (hy : Ev E b y (.int k2 j)) (hr : b = true → ∀ w, (binOp op t (.int k1 i) (.int k2 j)).run P w = .ok v w) : PV P ops n E M H ⟨some d, .binOp op t x y t', ty, pos, af, gd⟩ d b v :=
  ⟨rfl, fun _ hf => hg.want rfl hf, fun hb a w hf _ _ => by simp only [execOp, hf.ev hx hb, hf.ev hy hb, eqGuard_at_int, Sem.run_bind, Sem.run_pure, hr hb w, Result.andThen_ok]⟩
theorem p_not {t : TypeId} {x : Operand} {c : Bool} (hg : Gd ops E gd b) (hx : Ev E b x (.bool c)) : PV P ops n E M H ⟨some d, .unOp .not t x, ty, pos, af, gd⟩ d b (.bool (!c)) :=
  ⟨rfl, fun _ hf => hg.want rfl hf, fun hb a w hf _ _ => by simp only [execOp, hf.ev hx hb]; rfl⟩
theorem wrap_in {i : Int} (h : -9223372036854775808 ≤ i ∧ i ≤ 9223372036854775807) : IntKind.i64.wrap i = i := by
  rw [IntKind.wrap_i64]; omega
theorem p_neg {t : TypeId} {x : Operand} {i : Int} (hg : Gd ops E gd b) (hx : Ev E b x (.int .i64 i)) (hi : b = true → -9223372036854775808 ≤ -i ∧ -i ≤ 9223372036854775807) : PV P ops n E M H ⟨some d, .unOp .neg t x, ty, pos, af, gd⟩ d b (.int .i64 (-i)) :=
  ⟨rfl, fun _ hf => hg.want rfl hf, fun hb a w hf _ _ => by simp only [execOp, hf.ev hx hb]; simp [go_sem, wrap_in (hi hb)]⟩
theorem p_extract {x : Operand} {i : Nat} {vs : Array Value} (hg : Gd ops E gd b) (hx : Ev E b x (.tuple vs)) (hv : vs[i]? = some v) : PV P ops n E M H ⟨some d, .extract x i, ty, pos, af, gd⟩ d b v :=
  ⟨rfl, fun _ hf => hg.want rfl hf, fun hb a w hf _ _ => by simp only [execOp, hf.ev hx hb, Instr.extract, hv]; rfl⟩
theorem p_len {x : Operand} {t : TypeId} {A : Option Addr} {m c : Nat} (hg : Gd ops E gd b) (hx : Ev E b x (.slice A m c)) (ht : P.underlying t = some (.slice (P.elem t))) :
    PV P ops n E M H ⟨some d, .call { callee := .builtin .len, args := #[x], argTypes := #[t] }, ty, pos, af, gd⟩ d b (.int .i64 m) :=
  ⟨rfl, fun _ hf => hg.want rfl hf, fun hb a w hf _ _ => by simp [execOp, resolve, invoke, builtin, hf.ev hx hb, run_len_slice _ _ _ _ _ _ ht, goInt]⟩
theorem p_max {x y : Operand} {t : TypeId} {i j : Int} (hg : Gd ops E gd b) (hx : Ev E b x (.int .i64 i)) (hy : Ev E b y (.int .i64 j)) :
    PV P ops n E M H ⟨some d, .call { callee := .builtin .max, args := #[x, y], argTypes := #[t, t] }, ty, pos, af, gd⟩ d b (.int .i64 (max i j)) :=
  ⟨rfl, fun _ hf => hg.want rfl hf, fun hb a w hf _ _ => by
    have e : (Builtin.max_ #[t, t] ty #[.int .i64 i, .int .i64 j]).run P w = .ok (.int .i64 (max i j)) w := by
      have : (if i < j then j else i) = max i j := by omega
      simp [go_sem, this]
    simp only [execOp, resolve, invoke, builtin, List.map_toArray, List.map_cons, List.map_nil, hf.ev hx hb, hf.ev hy hb, Sem.run_bind, Sem.run_pure, Result.andThen_ok, e]⟩
theorem p_min {x y : Operand} {t : TypeId} {i j : Int} (hg : Gd ops E gd b) (hx : Ev E b x (.int .i64 i)) (hy : Ev E b y (.int .i64 j)) :
    PV P ops n E M H ⟨some d, .call { callee := .builtin .min, args := #[x, y], argTypes := #[t, t] }, ty, pos, af, gd⟩ d b (.int .i64 (min i j)) :=
  ⟨rfl, fun _ hf => hg.want rfl hf, fun hb a w hf _ _ => by
    have e : (Builtin.min_ #[t, t] ty #[.int .i64 i, .int .i64 j]).run P w = .ok (.int .i64 (min i j)) w := by
      have : (if j < i then j else i) = min i j := by omega
      simp [go_sem, this]
    simp only [execOp, resolve, invoke, builtin, List.map_toArray, List.map_cons, List.map_nil, hf.ev hx hb, hf.ev hy hb, Sem.run_bind, Sem.run_pure, Result.andThen_ok, e]⟩
theorem p_and {x y : Operand} {b c : Bool} (hx : ev E x = some (true, .bool b)) (hy : ev E y = some (b, .bool c)) : PV P ops n E M H ⟨some d, .pick x y (.const (.bool false)), ty, pos, af, none⟩ d true (.bool (b && c)) :=
  ⟨rfl, fun _ _ => rfl, fun _ a w hf _ _ => by
    simp only [execOp, hf.ev (e1 (b := true) hx) rfl]
    cases b with
    | true => simp only [hf.ev (e1 (b := true) hy) rfl]; rfl
    | false => rfl⟩
theorem p_or {x y : Operand} {b c : Bool} (hx : ev E x = some (true, .bool b)) (hy : ev E y = some (!b, .bool c)) : PV P ops n E M H ⟨some d, .pick x (.const (.bool true)) y, ty, pos, af, none⟩ d true (.bool (b || c)) :=
  ⟨rfl, fun _ _ => rfl, fun _ a w hf _ _ => by
    simp only [execOp, hf.ev (e1 (b := true) hx) rfl]
    cases b with
    | false => simp only [hf.ev (e1 (b := true) hy) rfl]; rfl
    | true => rfl⟩
end
theorem beq_dec (i j : Int) : (i == j) = decide (i = j) := by rw [Bool.eq_iff_iff]; simp
theorem r_lss (t : TypeId) (k : IntKind) (i j : Int) (w : World) : (binOp .lss t (.int k i) (.int k j)).run P w = .ok (.bool (decide (i < j))) w := by simp [go_sem]
theorem r_leq (t : TypeId) (k : IntKind) (i j : Int) (w : World) : (binOp .leq t (.int k i) (.int k j)).run P w = .ok (.bool (decide (i ≤ j))) w := by simp [go_sem]
theorem r_gtr (t : TypeId) (k : IntKind) (i j : Int) (w : World) : (binOp .gtr t (.int k i) (.int k j)).run P w = .ok (.bool (decide (j < i))) w := by simp [go_sem]
theorem r_geq (t : TypeId) (k : IntKind) (i j : Int) (w : World) : (binOp .geq t (.int k i) (.int k j)).run P w = .ok (.bool (decide (j ≤ i))) w := by simp [go_sem]
theorem r_eql (t : TypeId) (k : IntKind) (i j : Int) (w : World) : (binOp .eql t (.int k i) (.int k j)).run P w = .ok (.bool (decide (i = j))) w := by simp [go_sem, beq_dec]
theorem r_neq (t : TypeId) (k : IntKind) (i j : Int) (w : World) : (binOp .neq t (.int k i) (.int k j)).run P w = .ok (.bool (decide (i ≠ j))) w := by simp [go_sem, bne, beq_dec]
theorem r_add (t : TypeId) {i j : Int} (h : -9223372036854775808 ≤ i + j ∧ i + j ≤ 9223372036854775807) (w : World) : (binOp .add t (.int .i64 i) (.int .i64 j)).run P w = .ok (.int .i64 (i + j)) w := by simp [go_sem, wrap_in h]
theorem r_sub (t : TypeId) {i j : Int} (h : -9223372036854775808 ≤ i - j ∧ i - j ≤ 9223372036854775807) (w : World) : (binOp .sub t (.int .i64 i) (.int .i64 j)).run P w = .ok (.int .i64 (i - j)) w := by simp [go_sem, wrap_in h]
theorem r_mul (t : TypeId) {i j : Int} (h : -9223372036854775808 ≤ i * j ∧ i * j ≤ 9223372036854775807) (w : World) : (binOp .mul t (.int .i64 i) (.int .i64 j)).run P w = .ok (.int .i64 (i * j)) w := by simp [go_sem, wrap_in h]
theorem r_quo (t : TypeId) {i j : Int} (hi : 0 ≤ i ∧ i ≤ 9223372036854775807) (hj : 0 < j) (w : World) : (binOp .quo t (.int .i64 i) (.int .i64 j)).run P w = .ok (.int .i64 (i / j)) w := by
  have h0 : ¬ j = 0 := by omega
  have h1 : i.tdiv j = i / j := Int.tdiv_eq_ediv_of_nonneg hi.1
  have h2 : IntKind.i64.wrap (i / j) = i / j := wrap_in ⟨by have := Int.ediv_nonneg hi.1 (show 0 ≤ j by omega); omega, by have := Int.ediv_le_self j hi.1; omega⟩
  simp [go_sem, Op.intDiv, h0, h1, h2]
theorem r_rem (t : TypeId) {i j : Int} (hi : 0 ≤ i ∧ i ≤ 9223372036854775807) (hj : 0 < j) (w : World) : (binOp .rem t (.int .i64 i) (.int .i64 j)).run P w = .ok (.int .i64 (i % j)) w := by
  have h0 : ¬ j = 0 := by omega
  have h1 : i.tmod j = i % j := Int.tmod_eq_emod_of_nonneg hi.1
  simp [go_sem, Op.intDiv, h0, h1]
theorem c_then {x : Operand} {c d : Code} (hx : ev E x = some (true, .bool true)) (h : RK (c.wp P Q) C n D H E M R) : RK ((Code.cond x c d).wp P Q) C n D H E M R := fun a w s => wp_cond_true (s.fits.ev (e1 (b := true) hx) rfl) (h a w s)
theorem c_else {x : Operand} {c d : Code} (hx : ev E x = some (true, .bool false)) (h : RK (d.wp P Q) C n D H E M R) : RK ((Code.cond x c d).wp P Q) C n D H E M R := fun a w s => wp_cond_false (s.fits.ev (e1 (b := true) hx) rfl) (h a w s)
section
variable {ty : TypeId} {pos : String} {af : Array Edge} {gd : Option (Nat × Bool)}
theorem p_or' {x y : Operand} {b c : Bool} (hx : ev E x = some (true, .bool b)) (hy : ev E y = some (true, .bool c)) : PV P ops n E M H ⟨some d, .pick x (.const (.bool true)) y, ty, pos, af, none⟩ d true (.bool (b || c)) :=
  ⟨rfl, fun _ _ => rfl, fun _ a w hf _ _ => by
    simp only [execOp, hf.ev (e1 (b := true) hx) rfl, hf.ev (e1 (b := true) hy) rfl]
    cases b <;> rfl⟩
theorem p_bool {op : BinOp} {t t' : TypeId} {x y : Operand} {i j : Bool} (hr : ∀ w, (binOp op t (.bool i) (.bool j)).run P w = .ok v w) (hg : Gd ops E gd b) (hx : Ev E b x (.bool i)) (hy : Ev E b y (.bool j)) : PV P ops n E M H ⟨some d, .binOp op t x y t', ty, pos, af, gd⟩ d b v :=
  ⟨rfl, fun _ hf => hg.want rfl hf, fun hb a w hf _ _ => by simp only [execOp, hf.ev hx hb, hf.ev hy hb, eqGuard_at_bool, Sem.run_bind, Sem.run_pure, hr w, Result.andThen_ok]⟩
end
section
variable {ty : TypeId} {pos : String} {af : Array Edge} {gd : Option (Nat × Bool)}
theorem p_andg {x y : Operand} {g b c : Bool} (hg : Gd ops E gd g) (hx : ev E x = some (g, .bool b)) (hy : ev E y = some (g && b, .bool c)) : PV P ops n E M H ⟨some d, .pick x y (.const (.bool false)), ty, pos, af, gd⟩ d g (.bool (b && c)) :=
  ⟨rfl, fun _ hf => hg.want rfl hf, fun hb a w hf _ _ => by
    subst hb
    simp only [execOp, hf.ev (e1 (b := true) hx) rfl]
    cases b with
    | true => simp only [hf.ev (e1 (b := true) hy) rfl]; rfl
    | false => rfl⟩
theorem p_org {x y : Operand} {g b c : Bool} (hg : Gd ops E gd g) (hx : ev E x = some (g, .bool b)) (hy : ev E y = some (g && !b, .bool c)) : PV P ops n E M H ⟨some d, .pick x (.const (.bool true)) y, ty, pos, af, gd⟩ d g (.bool (b || c)) :=
  ⟨rfl, fun _ hf => hg.want rfl hf, fun hb a w hf _ _ => by
    subst hb
    simp only [execOp, hf.ev (e1 (b := true) hx) rfl]
    cases b with
    | false => simp only [hf.ev (e1 (b := true) hy) rfl]; rfl
    | true => rfl⟩
end
end Go.Proofs.YtoakoffdjeleoaaGreat
end
section
namespace Go.Proofs.YtoakoffdjeleoaaGreat
open Go.RowKit Go.Shelf
variable {P : Program} {ops : Array Oper} {Q : Exit → Act → World → Prop} {K : Act → World → Prop} {C : Cx} {n : Nat} {D : List Deferred} {H : Gh} {E : Env} {M : List (Nat × Obj)} {R : List Rw} {l : List Oper} {o : Oper} {d : Nat} {b : Bool} {v : Value}
class Sc (P : Program) (t : Nat) : Prop where
  run : ∀ w, (isAgg t).run P w = .ok false w
class Ag (P : Program) (t : Nat) (k : outParam Nat) : Prop where
  run : ∀ w, (isAgg t).run P w = .ok true w
  size : ∀ w, (sizeOf t).run P w = .ok k w
class Sz (P : Program) (t : Nat) (k : outParam Nat) : Prop where
  run : ∀ w, (sizeOf t).run P w = .ok k w
class Zv (P : Program) (t : Nat) (v : outParam Value) : Prop where
  run : ∀ w, (zeroValue t).run P w = .ok v w
class Fd (P : Program) (t f : Nat) (off : outParam Nat) : Prop where
  run : ∀ (g j : Nat) w, (Instr.fieldAt t (.pointer (some ⟨g, j, none⟩)) f).run P w = .ok (.pointer (some ⟨g, j + off, none⟩)) w
class Sl (P : Program) (t : Nat) (e : outParam Nat) : Prop where
  und : P.underlying t = some (.slice e)
theorem Sl.elem {P : Program} {t e : Nat} [h : Sl P t e] : P.underlying t = some (.slice (P.elem t)) := by
  have : P.elem t = e := by simp [Program.elem, h.und]
  rw [this]; exact h.und
class En (P : Program) (f : Nat) : Prop where
  enters : Enters P f
theorem cell_blk {w : World} {g : Nat} {cs : Array Value} {T : TypeId} {fr : Nat × Nat} (h : w.heap[g]? = some (.cells cs T fr)) (j : Nat) : w.cell? ⟨g, j, none⟩ = cs[j]? := by simp [World.cell?, h]
theorem add_at (g o j : Nat) : (⟨g, o, none⟩ : Addr).add j = ⟨g, o + j, none⟩ := by unfold Addr.add; split <;> simp_all
theorem run_load1 {t : Nat} (hs : Sc P t) {g j : Nat} {w : World} (h : w.cell? ⟨g, j, none⟩ = some v) : (Instr.loadAt t (.pointer (some ⟨g, j, none⟩))).run P w = .ok v w := by
  simp only [Instr.loadAt, Instr.sureAddr, loadVar, Sem.run_bind, Sem.run_pure, Result.andThen_ok, hs.run w, Bool.false_eq_true, if_false, run_load, h]
theorem run_loadK {t k : Nat} (hs : Ag P t k) {g j : Nat} {w : World} {cs : List Value} (hl : cs.length = k) (h : ∀ i u, cs[i]? = some u → w.cell? ⟨g, j + i, none⟩ = some u) : (Instr.loadAt t (.pointer (some ⟨g, j, none⟩))).run P w = .ok (.agg cs.toArray) w := by
  have hc : (loadCells ⟨g, j, none⟩ k).run P w = .ok cs.toArray w := by
    rw [run_loadCells w _ k (fun i => cs.getD i undef)]
    · congr 1
      congr 1
      apply List.ext_getElem?
      intro i
      subst hl
      by_cases hi : i < cs.length
      · simp [List.getElem?_range hi, List.getD_eq_getElem?_getD, List.getElem?_eq_getElem hi]
      · simp [List.getElem?_eq_none (show cs.length ≤ i by omega)]
        omega
    · intro i hi
      rw [add_at]
      have : i < cs.length := by omega
      exact h i _ (by simp [List.getD_eq_getElem?_getD, List.getElem?_eq_getElem this])
  simp only [Instr.loadAt, Instr.sureAddr, loadVar, Sem.run_bind, Sem.run_pure, Result.andThen_ok, hs.run w, hs.size w, if_true, hc]
section
variable {ty : TypeId} {pos : String} {af : Array Edge} {gd : Option (Nat × Bool)}
theorem p_load {t : Nat} {x : Operand} {g j : Nat} (i : Nat) {cs : List Value} {T : TypeId} (hg : Gd ops E gd b) (hx : Ev E b x (.pointer (some ⟨g, j, none⟩))) [hs : Sc P t] (hm : M[i]? = some (g, .cells cs.toArray T (0, 0)) := by rfl) (hc : cs[j]? = some v := by rfl) : PV P ops n E M H ⟨some d, .load t x, ty, pos, af, gd⟩ d b v :=
  ⟨rfl, fun _ hf => hg.want rfl hf, fun hb a w hf hM _ => by
    have := run_load1 (v := v) hs (g := g) (j := j) (w := w) (by rw [cell_blk (hM _ (List.mem_of_getElem? hm))]; simpa using hc)
    simp only [execOp, hf.ev hx hb, Sem.run_bind, this, Result.andThen_ok, Sem.run_pure]⟩
theorem p_loadK {t k' : Nat} {x : Operand} {g j : Nat} (i : Nat) {cs : List Value} (us : List Value) {T : TypeId} (hg : Gd ops E gd b) (hx : Ev E b x (.pointer (some ⟨g, j, none⟩))) [hs : Ag P t k'] (hm : M[i]? = some (g, .cells cs.toArray T (0, 0)) := by rfl) (hc : (cs.drop j).take k' = us := by rfl) (hl : us.length = k' := by rfl) : PV P ops n E M H ⟨some d, .load t x, ty, pos, af, gd⟩ d b (.agg us.toArray) :=
  ⟨rfl, fun _ hf => hg.want rfl hf, fun hb a w hf hM _ => by
    have := run_loadK hs (g := g) (j := j) (w := w) (cs := us) hl (fun q u hu => by
      rw [cell_blk (hM _ (List.mem_of_getElem? hm))]
      subst hc
      rw [List.getElem?_take] at hu
      split at hu
      · simpa [List.getElem?_drop] using hu
      · cases hu)
    simp only [execOp, hf.ev hx hb, Sem.run_bind, this, Result.andThen_ok, Sem.run_pure]⟩
theorem p_field {t f off : Nat} {x : Operand} {g j : Nat} (hg : Gd ops E gd b) (hx : Ev E b x (.pointer (some ⟨g, j, none⟩))) [hr : Fd P t f off] : PV P ops n E M H ⟨some d, .fieldAddr t x f, ty, pos, af, gd⟩ d b (.pointer (some ⟨g, j + off, none⟩)) :=
  ⟨rfl, fun _ hf => hg.want rfl hf, fun hb a w hf _ _ => by simp only [execOp, hf.ev hx hb, Sem.run_bind, hr.run g j w, Result.andThen_ok, Sem.run_pure]⟩
theorem p_nil {x : Operand} {p : Addr} (hg : Gd ops E gd b) (hx : Ev E b x (.pointer (some p))) : PV P ops n E M H ⟨some d, .nilCheck x, ty, pos, af, gd⟩ d b (.pointer (some p)) :=
  ⟨rfl, fun _ hf => hg.want rfl hf, fun hb a w hf _ _ => by simp only [execOp, hf.ev hx hb]; rfl⟩
theorem p_build {t : TypeId} {ps : List (Nat × Operand)} (vs : List (Nat × Value)) (hg : Gd ops E gd b) (hx : ∀ a, Fits n E a → b = true → ps.map (fun q => (q.1, a.eval q.2)) = vs) (hr : ∀ w, (Instr.build t vs.toArray).run P w = .ok v w) : PV P ops n E M H ⟨some d, .build t ps.toArray, ty, pos, af, gd⟩ d b v :=
  ⟨rfl, fun _ hf => hg.want rfl hf, fun hb a w hf _ _ => by
    have e : (ps.toArray.map fun q => (q.1, a.eval q.2)) = vs.toArray := by rw [List.map_toArray, hx a hf hb]
    show ((do pure (.value (← Instr.build t (ps.toArray.map fun q => (q.1, a.eval q.2))))) : Sem Next).run P w = _
    rw [e]
    simp only [Sem.run_bind, hr w, Result.andThen_ok, Sem.run_pure]⟩
theorem ps_nil {a : Act} : ([] : List (Nat × Operand)).map (fun q => (q.1, a.eval q.2)) = [] := rfl
theorem ps_cons {a : Act} {i : Nat} {x : Operand} {ps : List (Nat × Operand)} {vs : List (Nat × Value)} (h : a.eval x = v) (k : ps.map (fun q => (q.1, a.eval q.2)) = vs) : ((i, x) :: ps).map (fun q => (q.1, a.eval q.2)) = (i, v) :: vs := by rw [List.map_cons, h, k]
end
theorem x_new {ob : Obj} {f : Nat → Value} (hg : o.guard = none) (hd : o.dst = some d) (hn : Nat.blt d n = true) (hr : ∀ a w, Fits n E a → (execOp a.eval o).run P w = .ok (.value (f w.heap.size)) (w.alloc ob))
    (k : ∀ g, C.w0.heap.size ≤ g → RK K C n D H ((d, true, f g) :: E) ((g, ob) :: M) R) : RK (SX P ops Q o K) C n D H E M R := fun a w s => by
  unfold SX
  rw [if_pos (by simp [Region.wanted, hg])]
  unfold Oper.wp
  rw [hr a w s.fits]
  show K (a.put o.dst _) _
  rw [hd]
  exact k _ s.kept.size _ _ ((s.alloc ob).put hn rfl)
theorem x_alloc {t : Nat} {ty : TypeId} {pos : String} {af : Array Edge} {cs : List Value} [hz : Zv P t v] (hc : v.cells = cs.toArray := by rfl) (hn : Nat.blt d n = true := by rfl)
    (k : ∀ g, C.w0.heap.size ≤ g → RK K C n D H ((d, true, .pointer (some ⟨g, 0, none⟩)) :: E) ((g, .cells cs.toArray t (0, 0)) :: M) R) : RK (SX P ops Q ⟨some d, .alloc t, ty, pos, af, none⟩ K) C n D H E M R :=
  x_new (f := fun g => .pointer (some ⟨g, 0, none⟩)) rfl rfl hn (fun a w s => by simp [execOp, Instr.alloc, hz.run, newVar, newRow, hc]) k
theorem x_box {x : Operand} {t ty : TypeId} {pos : String} {af : Array Edge} {cs : List Value} (hx : Ev E true x v := by exact e1 rfl) (hc : v.cells = cs.toArray := by rfl) (hn : Nat.blt d n = true := by rfl)
    (k : ∀ g, C.w0.heap.size ≤ g → RK K C n D H ((d, true, .pointer (some ⟨g, 0, none⟩)) :: E) ((g, .cells cs.toArray t (0, 0)) :: M) R) : RK (SX P ops Q ⟨some d, .box t x, ty, pos, af, none⟩ K) C n D H E M R :=
  x_new (f := fun g => .pointer (some ⟨g, 0, none⟩)) rfl rfl hn (fun a w s => by simp only [execOp, s.ev hx rfl]; simp [Instr.box, newVar, newRow, hc]) k
theorem x_store {t k' : Nat} {x y : Operand} {g j : Nat} (i : Nat) {cs : List Value} (us cs' : List Value) {T : TypeId} {ty : TypeId} {pos : String} {af : Array Edge} [hsz : Sz P t k'] (hx : Ev E true x (.pointer (some ⟨g, j, none⟩)) := by exact e1 rfl) (hy : Ev E true y v := by exact e1 rfl) (hl : us.length = k' := by rfl) (hv : v.cells = us.toArray := by rfl) (h1 : us.all (·.oneCell') = true := by rfl)
    (hm : M[i]? = some (g, .cells cs.toArray T (0, 0)) := by rfl) (hfit : Nat.ble (j + us.length) cs.length = true := by rfl) (hc : cs.take j ++ us ++ cs.drop (j + us.length) = cs' := by rfl) (k : RK K C n D H E (M.set i (g, .cells cs'.toArray T (0, 0))) R) :
    RK (SX P ops Q ⟨none, .store t x y, ty, pos, af, none⟩ K) C n D H E M R := fun a w s => by
  have hg := s.mem _ (List.mem_of_getElem? hm)
  have hst := run_storeCells_at P g j T us 0 cs.toArray w hg (by have := Nat.le_of_ble_eq_true hfit; simpa using this) (fun u hu => List.all_eq_true.1 h1 u hu)
  have hrun : (Instr.storeAt t (.pointer (some ⟨g, j, none⟩)) v).run P w = .ok () (w.setRow g cs'.toArray) := by
    simp only [Instr.storeAt, Instr.sureAddr, storeVar, Sem.run_bind, Sem.run_pure, Result.andThen_ok, hsz.run w, hv, hl, List.size_toArray, ne_eq, not_true_eq_false, if_false]
    rw [hst]
    simp only [Nat.add_zero, hc]
  unfold SX
  rw [if_pos (by simp [Region.wanted])]
  unfold Oper.wp
  simp only [execOp, s.fits.ev hx rfl, s.fits.ev hy rfl, Sem.run_bind, hrun, Result.andThen_ok, Sem.run_pure]
  show K (a.put none undef) _
  refine k _ _ (s.write hm rfl rfl rfl (by simp [World.setRow]) ?_ ?_)
  · simp only [World.setRow, Array.getElem?_modify, if_true]
    rw [show w.heap[g]? = _ from hg]
    rfl
  · intro q hq
    simp only [World.setRow, Array.getElem?_modify]
    rw [if_neg (fun e => hq e.symm)]
def GAt (H : Gh) (b off : Nat) (cs : List Value) : Prop := ∃ arr T fr, H b = some (.cells arr T fr) ∧ ∀ j u, cs[j]? = some u → arr[off + j]? = some u
theorem GAt.le {H H' : Gh} {b off : Nat} {cs : List Value} (h : GAt H b off cs) (hl : H.Le H') : GAt H' b off cs := by
  obtain ⟨arr, T, fr, h1, h2⟩ := h
  exact ⟨arr, T, fr, hl _ _ h1, h2⟩
theorem GAt.cell {b off : Nat} {cs : List Value} (h : GAt H b off cs) {w : World} (hw : H.In w) {j : Nat} {u : Value} (hj : cs[j]? = some u) : w.cell? ⟨b, off + j, none⟩ = some u := by
  obtain ⟨arr, T, fr, h1, h2⟩ := h
  exact hw.cell h1 (h2 j u hj)
section
variable {ty : TypeId} {pos : String} {af : Array Edge} {gd : Option (Nat × Bool)}
theorem p_gload {t : Nat} {x : Operand} {c p off : Nat} (j : Nat) {cs : List Value} (hc' : b = true → GAt H c off cs) (hg : Gd ops E gd b) (hx : Ev E b x (.pointer (some ⟨c, p, none⟩))) [hs : Sc P t] (hp : p = off + j := by omega) (hc : cs[j]? = some v := by rfl) : PV P ops n E M H ⟨some d, .load t x, ty, pos, af, gd⟩ d b v :=
  ⟨rfl, fun _ hf => hg.want rfl hf, fun hb a w hf _ hH => by
    have := run_load1 (v := v) hs (g := c) (j := p) (w := w) (by rw [hp]; exact (hc' hb).cell hH hc)
    simp only [execOp, hf.ev hx hb, Sem.run_bind, this, Result.andThen_ok, Sem.run_pure]⟩
theorem p_gloadK {t k' : Nat} {x : Operand} {c p off : Nat} (j : Nat) {cs : List Value} (us : List Value) (hc' : b = true → GAt H c off cs) (hg : Gd ops E gd b) (hx : Ev E b x (.pointer (some ⟨c, p, none⟩))) [hs : Ag P t k'] (hp : p = off + j := by omega) (hc : (cs.drop j).take k' = us := by rfl) (hl : us.length = k' := by rfl) : PV P ops n E M H ⟨some d, .load t x, ty, pos, af, gd⟩ d b (.agg us.toArray) :=
  ⟨rfl, fun _ hf => hg.want rfl hf, fun hb a w hf _ hH => by
    have := run_loadK hs (g := c) (j := p) (w := w) (cs := us) hl (fun q u hu => by
      subst hc
      rw [List.getElem?_take] at hu
      split at hu
      · rw [hp, Nat.add_assoc]
        exact (hc' hb).cell hH (by simpa [List.getElem?_drop] using hu)
      · cases hu)
    simp only [execOp, hf.ev hx hb, Sem.run_bind, this, Result.andThen_ok, Sem.run_pure]⟩
end
def GRow {α : Type} (H : Gh) (A : Option Addr) (c : Nat) (enc : α → List Value) (k : Nat) (l : List α) : Prop :=
  l.length ≤ c ∧ c ≤ 9223372036854775807 ∧ (0 < l.length → ∃ b off arr T fr, A = some ⟨b, off, none⟩ ∧ H b = some (.cells arr T fr) ∧ ∀ i x, l[i]? = some x → ∀ j u, (enc x)[j]? = some u → arr[off + i * k + j]? = some u)
theorem GRow.le {α : Type} {H H' : Gh} {A : Option Addr} {c k : Nat} {enc : α → List Value} {l : List α} (h : GRow H A c enc k l) (hl : H.Le H') : GRow H' A c enc k l :=
  ⟨h.1, h.2.1, fun hp => by
    obtain ⟨b, off, arr, T, fr, h1, h2, h3⟩ := h.2.2 hp
    exact ⟨b, off, arr, T, fr, h1, hl _ _ h2, h3⟩⟩
theorem GRow.nil {α : Type} (H : Gh) (enc : α → List Value) (k : Nat) : GRow H none 0 enc k ([] : List α) := ⟨Nat.le_refl _, by simp, fun h => by simp at h⟩
theorem index_run {t e : TypeId} {k' c m : Nat} {p off : Nat} {i : Int} {q : IntKind} (ht : P.underlying t = some (.slice e)) (hs : ∀ w, (sizeOf e).run P w = .ok k' w) (h0 : 0 ≤ i) (h1 : i < m) (w : World) : (Instr.indexAt t (.slice (some ⟨p, off, none⟩) m c) (.int q i)).run P w = .ok (.pointer (some ⟨p, off + i.toNat * k', none⟩)) w := by
  have hel : P.elem t = e := by simp [Program.elem, ht]
  have := run_indexAt_slice w t ⟨p, off, none⟩ m c q i (by rw [hel]; exact ht)
  rw [hel, if_pos ⟨h0, h1⟩, hs w, Result.andThen_ok, add_at] at this
  exact this
theorem p_index {α : Type} {t e k' c m : Nat} {x y : Operand} {A : Option Addr} {i : Int} {q : IntKind} {enc : α → List Value} {L : List α} {ty : TypeId} {pos : String} {af : Array Edge} {gd : Option (Nat × Bool)} (hrow : GRow H A c enc k' L) (z : α) (j : Nat) (hj : i.toNat = j) (hg : Gd ops E gd b) (hx : Ev E b x (.slice A m c)) (hy : Ev E b y (.int q i)) [ht : Sl P t e] [hs : Sz P e k']
    (hm : m = L.length) (hi : b = true → 0 ≤ i ∧ i < (L.length : Int)) : ∃ p off, (b = true → GAt H p off (enc (L.getD j z))) ∧ PV P ops n E M H ⟨some d, .indexAddr t x y, ty, pos, af, gd⟩ d b (.pointer (some ⟨p, off, none⟩)) := by
  subst hj
  cases b with
  | false => exact ⟨0, 0, fun h => (by cases h), ⟨rfl, fun _ hf => hg.want rfl hf, fun h => (by cases h)⟩⟩
  | true =>
    obtain ⟨h0, h1⟩ := hi rfl
    obtain ⟨p, off, arr, T, fr, rfl, h2, h3⟩ := hrow.2.2 (by omega)
    have hlt : i.toNat < L.length := by omega
    refine ⟨p, off + i.toNat * k', fun _ => ⟨arr, T, fr, h2, fun j u hu => ?_⟩, ⟨rfl, fun _ hf => hg.want rfl hf, fun hb a w hf _ _ => ?_⟩⟩
    · exact h3 i.toNat _ (List.getElem?_eq_getElem hlt) j u (by simpa [List.getD_eq_getElem?_getD, List.getElem?_eq_getElem hlt] using hu)
    · have := index_run (c := c) (p := p) (off := off) (q := q) (m := m) ht.und hs.run h0 (by rw [hm]; exact h1) w
      simp only [execOp, hf.ev hx hb, hf.ev hy hb, Sem.run_bind, this, Result.andThen_ok, Sem.run_pure]
def evl (E : Env) : List Operand → Option (List Value)
  | [] => some []
  | x :: xs => match ev E x, evl E xs with
    | some (_, v), some vs => some (v :: vs)
    | _, _ => none
def Evl (E : Env) (b : Bool) : List Operand → List Value → Prop
  | [], [] => True
  | x :: xs, v :: vs => Ev E b x v ∧ Evl E b xs vs
  | _, _ => False
theorem Fits.evl {a : Act} (h : Fits n E a) (hb : b = true) : ∀ {xs : List Operand} {vs : List Value}, Evl E b xs vs → xs.map a.eval = vs
  | [], [], _ => rfl
  | x :: xs, v :: vs, hv => by rw [List.map_cons, h.ev hv.1 hb, h.evl hb hv.2]
  | [], _ :: _, hv => hv.elim
  | _ :: _, [], hv => hv.elim
def Ct (P : Program) (f : FuncId) (args : List Value) (H : Gh) (Rs : Gh → Value → Prop) : Prop :=
  ∀ w, H.In w → Calls P f args.toArray w fun e w' => ∃ v H', e = .returned v ∧ Kept [] w w' ∧ H.Le H' ∧ H'.In w' ∧ H.New H' w.heap.size ∧ Rs H' v
def Cv (P : Program) (f : FuncId) (args : List Value) (H : Gh) (Rs : Value → Prop) : Prop :=
  ∀ w, H.In w → Calls P f args.toArray w fun e w' => ∃ v, e = .returned v ∧ Kept [] w w' ∧ Rs v
theorem Kept.gin {w w' : World} (h : Kept [] w w') (hw : H.In w) : H.In w' := fun b u hu => by
  obtain ⟨o', h1, h2⟩ := hw b u hu
  rw [h.block b ((Array.getElem?_eq_some_iff.1 h1).1) (by simp)]
  exact ⟨o', h1, h2⟩
theorem Cv.ct {f : FuncId} {args : List Value} {Rs : Value → Prop} (h : Cv P f args H Rs) : Ct P f args H fun _ v => Rs v := fun w hw =>
  (h w hw).mono fun _ _ ⟨v, h1, h2, h3⟩ => ⟨v, H, h1, h2, Gh.Le.refl _, h2.gin hw, Gh.New.refl _ _, h3⟩
theorem run_call {f : FuncId} {xs : List Operand} {at_ : Array TypeId} {vs : List Value} {ty : TypeId} {pos : String} {af : Array Edge} {gd : Option (Nat × Bool)} {dst : Option Nat} (hen : Enters P f) {a : Act} (hx : xs.map a.eval = vs) (w : World) :
    (execOp a.eval ⟨dst, .call { callee := .value (.func f), args := xs.toArray, argTypes := at_ }, ty, pos, af, gd⟩).run P w = .ok (.enter f vs.toArray) w := by
  have e1 : xs.toArray.map a.eval = vs.toArray := by rw [List.map_toArray, hx]
  show ((do let d ← (pure { target := .fn (.func f) #[], args := #[] ++ xs.toArray.map a.eval } : Sem Deferred); invoke d.target d.args) : Sem Next).run P w = _
  simp only [Sem.run_bind, Sem.run_pure, Result.andThen_ok, invoke, e1, Array.empty_append, Array.append_empty, hen _ w]
theorem x_call {f : Nat} {xs : List Operand} {at_ : Array TypeId} {vs : List Value} {Rs : Gh → Value → Prop} {ty : TypeId} {pos : String} {af : Array Edge} {gd : Option (Nat × Bool)} [hen : En P f] (hg : Gd ops E gd b) (hx : Evl E b xs vs) (hc : b = true → Ct P f vs H Rs) (hn : Nat.blt d n = true := by rfl)
    (k : ∀ H' v, H.Le H' → (b = true → Rs H' v) → RK K C n D H' ((d, b, v) :: E) M R) : RK (SX P ops Q ⟨some d, .call { callee := .value (.func f), args := xs.toArray, argTypes := at_ }, ty, pos, af, gd⟩ K) C n D H E M R := fun a w s => by
  unfold SX
  rw [hg.want rfl s.fits]
  cases hb : b with
  | false =>
    subst hb
    rw [if_neg (by simp)]
    exact k H undef (Gh.Le.refl _) (fun h => by cases h) _ _ (s.put hn rfl)
  | true =>
    subst hb
    rw [if_pos rfl]
    unfold Oper.wp
    rw [run_call hen.enters (s.fits.evl rfl hx) w, Oper.upon_enter]
    refine (hc rfl w s.gin).mono fun e w' ⟨v, H', h1, h2, h3, h4, h5, h6⟩ => ?_
    subst h1
    exact k H' v h3 (fun _ => h6) _ _ ((s.call h2 h3 h4 h5).put hn rfl)
theorem x_callv {f : Nat} {xs : List Operand} {at_ : Array TypeId} {vs : List Value} {Rs : Value → Prop} {ty : TypeId} {pos : String} {af : Array Edge} {gd : Option (Nat × Bool)} [hen : En P f] (hg : Gd ops E gd b) (hx : Evl E b xs vs) (hc : b = true → Cv P f vs H Rs) (hn : Nat.blt d n = true := by rfl)
    (k : ∀ v, (b = true → Rs v) → RK K C n D H ((d, b, v) :: E) M R) : RK (SX P ops Q ⟨some d, .call { callee := .value (.func f), args := xs.toArray, argTypes := at_ }, ty, pos, af, gd⟩ K) C n D H E M R := fun a w s => by
  unfold SX
  rw [hg.want rfl s.fits]
  cases hb : b with
  | false =>
    subst hb
    rw [if_neg (by simp)]
    exact k undef (fun h => by cases h) _ _ (s.put hn rfl)
  | true =>
    subst hb
    rw [if_pos rfl]
    unfold Oper.wp
    rw [run_call hen.enters (s.fits.evl rfl hx) w, Oper.upon_enter]
    refine (hc rfl w s.gin).mono fun e w' ⟨v, h1, h2, h6⟩ => ?_
    subst h1
    exact k v (fun _ => h6) _ _ ((s.call h2 (Gh.Le.refl _) (h2.gin s.gin) (Gh.New.refl _ _)).put hn rfl)
theorem x_calle {f : Nat} {xs : List Operand} {at_ : Array TypeId} {vs : List Value} {u : Value} {ty : TypeId} {pos : String} {af : Array Edge} {gd : Option (Nat × Bool)} [hen : En P f] (hg : Gd ops E gd b) (hx : Evl E b xs vs) (hc : b = true → Cv P f vs H (fun v => v = u)) (hn : Nat.blt d n = true := by rfl)
    (k : RK K C n D H ((d, b, u) :: E) M R) : RK (SX P ops Q ⟨some d, .call { callee := .value (.func f), args := xs.toArray, argTypes := at_ }, ty, pos, af, gd⟩ K) C n D H E M R :=
  x_callv hg hx hc hn fun v hv a w s => k a w (St.sub' s hv)
end Go.Proofs.YtoakoffdjeleoaaGreat
end
section
namespace Go.Proofs.YtoakoffdjeleoaaGreat
open Go.RowKit
variable {P : Program} {ops : Array Oper} {Q : Exit → Act → World → Prop} {K : Act → World → Prop} {C : Cx} {n : Nat} {D : List Deferred} {H H0 : Gh} {E : Env} {M M0 : List (Nat × Obj)} {R : List Rw} {l : List Oper} {o : Oper} {d : Nat} {b : Bool} {v : Value} {fuel : Nat} {listed : Array Bool}
def SS (L : List (Nat × Nat × Obj)) (H0 : Gh) (listed : Array Bool) (w : World) : Prop := (∀ q ∈ L, listed.getD q.1 false = false → w.heap[q.2.1]? = some q.2.2) ∧ H0.In w
def wpG (P : Program) (ops : Array Oper) (Q : Exit → Act → World → Prop) (L : List (Nat × Nat × Obj)) (H0 : Gh) : Nat → Array Bool → Act → World → Prop
  | 0, listed, a, w => Region.ready .any ops listed = [] ∧ Q .normal a w
  | fuel + 1, listed, a, w => (Region.ready .any ops listed = [] → Q .normal a w) ∧ ∀ i ∈ Region.ready .any ops listed, wpOp P ops Q i (fun a' w' => SS L H0 (listed.setIfInBounds i true) w' ∧ wpG P ops Q L H0 fuel (listed.setIfInBounds i true) a' w') a w
theorem wpAny_of_G {L : List (Nat × Nat × Obj)} : ∀ (fuel : Nat) (listed : Array Bool) (a : Act) (w : World), wpG P ops Q L H0 fuel listed a w → wpAny P .any ops Q fuel listed a w
  | 0, _, _, _, h => h
  | fuel + 1, _, _, _, h => ⟨h.1, fun i hi => wpOp_mono (fun a' w' h' => wpAny_of_G fuel _ a' w' h'.2) (h.2 i hi)⟩
theorem SS.set {L : List (Nat × Nat × Obj)} {w : World} (h : SS L H0 listed w) (i : Nat) : SS L H0 (listed.setIfInBounds i true) w := ⟨fun q hq hl => h.1 q hq (by
  by_cases e : i = q.1
  · subst e
    rcases Nat.lt_or_ge q.1 listed.size with h' | h'
    · simp [h'] at hl
    · simp [Array.getElem?_eq_none h']
  · rwa [getD_set_ne false e] at hl), h.2⟩
theorem SS.of_set {L : List (Nat × Nat × Obj)} {w : World} {i j : Nat} (h : SS L H0 ((listed.setIfInBounds i true).setIfInBounds j true) w) (hji : j ≠ i) (hL : ∀ q ∈ L, q.1 ≠ i) : SS L H0 (listed.setIfInBounds j true) w := ⟨fun q hq hl => h.1 q hq (by
  rw [Array.setIfInBounds_comm _ _ (Ne.symm hji), getD_set_ne false (Ne.symm (hL q hq))]
  exact hl), h.2⟩
def awaits (ops : Array Oper) (s i : Nat) : Bool := match ops[s]? with
  | none => true
  | some o => o.after.any fun e => Region.binds .any e && Nat.beq e.on i
def LM (L : List (Nat × Nat × Obj)) : List (Nat × Obj) := L.map (·.2)
theorem wpG_first {i : Nat} {oi : Oper} {v : Value} {L L' : List (Nat × Nat × Obj)} (hi : ops[i]? = some oi) (hsel : ∀ (j : Nat) (o : Oper) cs b, ops[j]? = some o → o.op ≠ .select cs b) (hQ : ∀ c a w, Q (.panic c) (a.put oi.dst v) w → Q (.panic c) a w)
    (hL : ∀ q ∈ L', q ∈ L) (hLi : ∀ q ∈ L, q.1 ≠ i) (hwait : ∀ q ∈ L', awaits ops q.1 i = true) :
    ∀ (fuel : Nat) (listed : Array Bool) (a : Act) (w : World), (∀ j oj, ops[j]? = some oj → j ≠ i → listed.getD j true = false → (∀ e ∈ oj.after, Region.binds .any e = true → e.on ≠ i) → oi.apart ops oj = true) →
      i ∈ Region.ready .any ops listed → (∀ q ∈ L', listed.getD q.1 false = false) → YieldsIf P ops (fun w => Holds (LM L') w ∧ H0.In w) oi v a → SS L H0 listed w → wpG P ops Q L H0 fuel (listed.setIfInBounds i true) (a.put oi.dst v) w → wpG P ops Q L H0 (fuel + 1) listed a w := by
  intro fuel
  have now : ∀ {listed : Array Bool} {w : World}, (∀ q ∈ L', listed.getD q.1 false = false) → SS L H0 listed w → Holds (LM L') w ∧ H0.In w := fun hn hS => ⟨fun q hq => by
    obtain ⟨q', h1, rfl⟩ := List.mem_map.1 hq
    exact hS.1 q' (hL q' h1) (hn q' h1), hS.2⟩
  induction fuel with
  | zero =>
    intro listed a w _ hr hn hy hS HH
    refine ⟨fun h => (by rw [h] at hr; cases hr), fun j hj => ?_⟩
    by_cases hji : j = i
    · subst hji; exact hy.wpOp hi (now hn hS) ⟨hS.set j, HH⟩
    · have := ready_mono hj hji
      rw [HH.1] at this
      cases this
  | succ fuel ih =>
    intro listed a w hfree hr hn hy hS HH
    refine ⟨fun h => (by rw [h] at hr; cases hr), fun j hj => ?_⟩
    by_cases hji : j = i
    · subst hji; exact hy.wpOp hi (now hn hS) ⟨hS.set j, HH⟩
    · have h1 := HH.2 j (ready_mono hj hji)
      obtain ⟨hjun, oj, hoj, hall⟩ := mem_ready.1 hj
      have hnot : ∀ e ∈ oj.after, Region.binds .any e = true → e.on ≠ i := fun e he hb heq => by
        have h1 := hall e he hb
        have h0 := (mem_ready.1 hr).1
        rw [heq] at h1
        rcases Nat.lt_or_ge i listed.size with h' | h'
        · simp [h'] at h0 h1; rw [h0] at h1; cases h1
        · simp [Array.getElem?_eq_none h'] at h1
      have hjs : ∀ q ∈ L', j ≠ q.1 := fun q hq e => by
        have h2 := hwait q hq
        unfold awaits at h2
        rw [← e, hoj] at h2
        obtain ⟨x, hx, hx2⟩ := Array.any_eq_true'.1 h2
        simp only [Bool.and_eq_true] at hx2
        exact hnot x hx hx2.1 (Nat.eq_of_beq_eq_true hx2.2)
      have h2 := wpOp_putIf hoj (hfree j oj hoj hji hjun hnot) (fun cs b => hsel i oi cs b hi) (fun cs b => hsel j oj cs b hoj) hQ hy h1
      have hfree' : ∀ k ok, ops[k]? = some ok → k ≠ i → (listed.setIfInBounds j true).getD k true = false → (∀ e ∈ ok.after, Region.binds .any e = true → e.on ≠ i) → oi.apart ops ok = true := fun k ok hk hki hun hno => by
        refine hfree k ok hk hki ?_ hno
        by_cases hjk : j = k
        · subst hjk; exact hjun
        · rw [getD_set_ne true hjk] at hun; exact hun
      refine wpOp_mono (fun a' w' h3 => ?_) h2
      have h4 := SS.of_set h3.2.1 hji hLi
      refine ⟨h4, ih (listed.setIfInBounds j true) a' w' hfree' (ready_mono hr (Ne.symm hji)) (fun q hq => by rw [getD_set_ne false (hjs q hq)]; exact hn q hq) h3.1 h4 ?_⟩
      rw [Array.setIfInBounds_comm _ _ hji]
      exact h3.2.2
def Tells (H0 H : Gh) (R : List Rw) : Prop := ∀ {C : Cx} {n : Nat} {D : List Deferred} {E : Env} {M : List (Nat × Obj)} {a : Act} {w : World}, St C n D H E M R a w → H0.In w
theorem te (h : H0.Le H) : Tells H0 H R := fun s => s.gin.le h
class PF (Q : Exit → Act → World → Prop) : Prop where
  pf : ∀ c a d v w, Q (.panic c) (a.put d v) w → Q (.panic c) a w
instance {N : Act → World → Prop} [h : PF Q] : PF (Exit.then N Q) := ⟨fun c a d v w k => h.pf c a d v w k⟩
instance {i : Nat} [h : PF Q] : PF (Exit.inBlock i Q) := ⟨fun c a d v w k => h.pf c a d v w k⟩
instance {fn : Func} {Rr : Ending → World → Prop} : PF (bodyPost P fn Rr) := ⟨fun c a d v w k => by
  obtain ⟨k1, k2⟩ := k
  exact ⟨by cases d <;> simpa [Act.put] using k1, k2⟩⟩
class Mixed (P : Program) : Prop where
  follows : P.follows .mixedOrders = true
theorem c_draw {i : Nat} (L : List (Nat × Nat × Obj)) (H0 : Gh) {l : List Oper} [hm : Mixed P] (h : RK (wpG P l.toArray Q L H0 l.length (Array.replicate l.length false)) C n D H E M R) : RK ((Code.region i l.toArray true).wp P Q) C n D H E M R := fun a w s => by
  refine wp_region_any hm.follows (wpAny_of_G (L := L) (H0 := H0) _ _ _ _ ?_)
  have := h a w.drew s.drew
  simpa using this
def okL (ops : Array Oper) (listed : Array Bool) (i : Nat) (L : List (Nat × Nat × Obj)) : Bool := L.all fun q => !(listed.getD q.1 false) && awaits ops q.1 i
def offL (i : Nat) (L : List (Nat × Nat × Obj)) : Bool := L.all fun q => !(Nat.beq q.1 i)
variable {L L' : List (Nat × Nat × Obj)}
def InM (L : List (Nat × Nat × Obj)) (listed : Array Bool) (M : List (Nat × Obj)) : Prop := ∀ q ∈ L, listed.getD q.1 false = false → q.2 ∈ M
theorem inM_nil {listed : Array Bool} : InM [] listed M := fun q h => by cases h
theorem inM_at {listed : Array Bool} {s g : Nat} {ob : Obj} (j : Nat) (h : InM L listed M) (hm : M[j]? = some (g, ob) := by rfl) : InM ((s, g, ob) :: L) listed M := fun q hq hl => by
  rcases List.mem_cons.1 hq with rfl | hq
  · exact List.mem_of_getElem? hm
  · exact h q hq hl
theorem inM_off {listed : Array Bool} {s g : Nat} {ob : Obj} (h : InM L listed M) (hs : listed.getD s false = true := by kernel_rfl) : InM ((s, g, ob) :: L) listed M := fun q hq hl => by
  rcases List.mem_cons.1 hq with rfl | hq
  · rw [hs] at hl; cases hl
  · exact h q hq hl
theorem InM.cons {listed : Array Bool} {x : Nat × Obj} (h : InM L listed M) : InM L listed (x :: M) := fun q hq hl => List.mem_cons_of_mem _ (h q hq hl)
theorem a_v (i : Nat) (hi : ops[i]? = some o) (L' : List (Nat × Nat × Obj)) [hq : PF Q] (h : PV P ops n E (LM L') H0 o d b v) (hM : InM L listed M) (hH : Tells H0 H R) (k : RK (wpG P ops Q L H0 fuel (listed.setIfInBounds i true)) C n D H ((d, b, v) :: E) M R) (hsub : L'.Sublist L := by exact List.nil_sublist _) (hok : okL ops listed i L' = true := by kernel_rfl) (hoff : offL i L = true := by kernel_rfl) (hs : Region.noSelect ops = true := by kernel_rfl) (hf : Region.free .any ops listed i = true := by kernel_rfl) (hr : (Region.ready .any ops listed).contains i = true := by kernel_rfl) (hn : Nat.blt d n = true := by rfl) : RK (wpG P ops Q L H0 (fuel + 1) listed) C n D H E M R := fun a w s => by
  have hS : SS L H0 listed w := ⟨fun q hq hl => s.mem _ (hM q hq hl), hH s⟩
  have hok' : ∀ q ∈ L', listed.getD q.1 false = false ∧ awaits ops q.1 i = true := fun q hq => by
    have := List.all_eq_true.1 hok q hq
    simpa using this
  have hoff' : ∀ q ∈ L, q.1 ≠ i := fun q hq e => by
    have := List.all_eq_true.1 hoff q hq
    rw [e, Nat.beq_refl] at this
    cases this
  cases hb : b with
  | true =>
    subst hb
    refine wpG_first hi (Region.noSelect_spec hs) (fun c a w => hq.pf c a o.dst v w) (fun q h => hsub.subset h) hoff' (fun q h => (hok' q h).2) fuel listed a w (Region.free_spec hi hf) (by simpa using hr) (fun q h => (hok' q h).1) (.inl ⟨h.want a s.fits, fun w' hS' => h.run rfl a w' s.fits hS'.1 hS'.2⟩) hS ?_
    rw [h.dst]
    exact k _ _ (s.put hn rfl)
  | false =>
    subst hb
    refine wpG_first (v := undef) hi (Region.noSelect_spec hs) (fun c a w => hq.pf c a o.dst undef w) (fun q h => hsub.subset h) hoff' (fun q h => (hok' q h).2) fuel listed a w (Region.free_spec hi hf) (by simpa using hr) (fun q h => (hok' q h).1) (.inr ⟨h.want a s.fits, rfl⟩) hS ?_
    rw [h.dst]
    exact k _ _ (s.put hn rfl)
theorem a_l (i : Nat) (hi : ops[i]? = some o) (j : Nat) [hq : PF Q] (h : PV P ops n E (LM (L[j]?).toList) H0 o d b v) (hM : InM L listed M) (hH : Tells H0 H R) (k : RK (wpG P ops Q L H0 fuel (listed.setIfInBounds i true)) C n D H ((d, b, v) :: E) M R) (hok : okL ops listed i (L[j]?).toList = true := by kernel_rfl) (hoff : offL i L = true := by kernel_rfl) (hs : Region.noSelect ops = true := by kernel_rfl) (hf : Region.free .any ops listed i = true := by kernel_rfl) (hr : (Region.ready .any ops listed).contains i = true := by kernel_rfl) (hn : Nat.blt d n = true := by rfl) : RK (wpG P ops Q L H0 (fuel + 1) listed) C n D H E M R :=
  a_v i hi _ h hM hH k (by
    cases e : L[j]? with
    | none => simp
    | some q => simpa using List.mem_of_getElem? e) hok hoff hs hf hr hn
theorem a_ix {α : Type} {t e k' c m : Nat} {x y : Operand} {A : Option Addr} {q : Int} {qk : IntKind} {enc : α → List Value} {Ls : List α} {ty : TypeId} {pos : String} {af : Array Edge} {gd : Option (Nat × Bool)} (i : Nat) (hi : ops[i]? = some ⟨some d, .indexAddr t x y, ty, pos, af, gd⟩) [hq : PF Q] (hrow : GRow H0 A c enc k' Ls) (z : α) (j : Nat) (hj : q.toNat = j) (hg : Gd ops E gd b) (hx : Ev E b x (.slice A m c)) (hy : Ev E b y (.int qk q)) [ht : Sl P t e] [hs : Sz P e k'] (hm : m = Ls.length) (hin : b = true → 0 ≤ q ∧ q < (Ls.length : Int)) (hM : InM L listed M) (hH : Tells H0 H R)
    (k : ∀ p off, (b = true → GAt H0 p off (enc (Ls.getD j z))) → RK (wpG P ops Q L H0 fuel (listed.setIfInBounds i true)) C n D H ((d, b, .pointer (some ⟨p, off, none⟩)) :: E) M R) (hoff : offL i L = true := by kernel_rfl) (hs' : Region.noSelect ops = true := by kernel_rfl) (hf : Region.free .any ops listed i = true := by kernel_rfl) (hr : (Region.ready .any ops listed).contains i = true := by kernel_rfl) (hn : Nat.blt d n = true := by rfl) : RK (wpG P ops Q L H0 (fuel + 1) listed) C n D H E M R := by
  obtain ⟨p, off, h1, h2⟩ := p_index (P := P) (ops := ops) (n := n) (E := E) (M := LM []) (d := d) (b := b) (ty := ty) (pos := pos) (af := af) (gd := gd) (t := t) (e := e) (x := x) (y := y) hrow z j hj hg hx hy hm hin
  exact a_v i hi [] h2 hM hH (k p off h1) (List.nil_sublist _) rfl hoff hs' hf hr hn
theorem a_in {K : Act → World → Prop} (hM : InM L listed M) (hH : Tells H0 H R) (k : RK K C n D H E M R) : RK (fun a w => SS L H0 listed w ∧ K a w) C n D H E M R := fun a w s =>
  ⟨⟨fun q hq hl => s.mem _ (hM q hq hl), hH s⟩, k a w s⟩
theorem wpOp_of {i : Nat} {a : Act} {w : World} (hi : ops[i]? = some o) (h : SX P ops Q o K a w) : wpOp P ops Q i K a w := by
  unfold wpOp
  simp only [hi]
  unfold SX at h
  split
  · rename_i hw; rw [if_pos hw] at h; exact .inl h
  · rename_i hw; rw [if_neg hw] at h; exact h
theorem wpG_ready {rs : List Nat} (hr : Region.ready .any ops listed = rs) (hne : rs ≠ []) {a : Act} {w : World} (h : ∀ i ∈ rs, wpOp P ops Q i (fun a' w' => SS L H0 (listed.setIfInBounds i true) w' ∧ wpG P ops Q L H0 fuel (listed.setIfInBounds i true) a' w') a w) : wpG P ops Q L H0 (fuel + 1) listed a w :=
  ⟨fun h0 => absurd (hr ▸ h0) hne, hr ▸ h⟩
theorem a_one (i : Nat) (hi : ops[i]? = some o) (h : RK (SX P ops Q o fun a w => SS L H0 (listed.setIfInBounds i true) w ∧ wpG P ops Q L H0 fuel (listed.setIfInBounds i true) a w) C n D H E M R) (hr : Region.ready .any ops listed = [i] := by kernel_rfl) : RK (wpG P ops Q L H0 (fuel + 1) listed) C n D H E M R := fun a w s =>
  wpG_ready hr (by simp) fun j hj => by
    obtain rfl := List.mem_singleton.1 hj
    exact wpOp_of hi (h a w s)
theorem a_two (i j : Nat) {o' : Oper} (hi : ops[i]? = some o) (hj : ops[j]? = some o')
    (h : RK (SX P ops Q o fun a w => SS L H0 (listed.setIfInBounds i true) w ∧ wpG P ops Q L H0 fuel (listed.setIfInBounds i true) a w) C n D H E M R)
    (h' : RK (SX P ops Q o' fun a w => SS L H0 (listed.setIfInBounds j true) w ∧ wpG P ops Q L H0 fuel (listed.setIfInBounds j true) a w) C n D H E M R) (hr : Region.ready .any ops listed = [i, j] := by kernel_rfl) : RK (wpG P ops Q L H0 (fuel + 1) listed) C n D H E M R := fun a w s =>
  wpG_ready hr (by simp) fun q hq => by
    rcases List.mem_cons.1 hq with rfl | hq
    · exact wpOp_of hi (h a w s)
    · obtain rfl := List.mem_singleton.1 hq
      exact wpOp_of hj (h' a w s)
theorem a_end (h : RK (Q .normal) C n D H E M R) (hr : Region.ready .any ops listed = [] := by kernel_rfl) : RK (wpG P ops Q L H0 fuel listed) C n D H E M R := fun a w s => by
  cases fuel with
  | zero => exact ⟨hr, h a w s⟩
  | succ fuel => exact ⟨fun _ => h a w s, by rw [hr]; simp⟩
theorem te0 {H : Gh} {R : List Rw} : Tells H H R := te (Gh.Le.refl _)
end Go.Proofs.YtoakoffdjeleoaaGreat
end
section
namespace Go.Proofs.YtoakoffdjeleoaaGreat
open Go.RowKit Go.Shelf
variable {P : Program} {ops : Array Oper} {Q : Exit → Act → World → Prop} {C : Cx} {n : Nat} {D : List Deferred} {H : Gh} {E : Env} {M : List (Nat × Obj)} {R : List Rw} {l : List Oper} {o : Oper} {d : Nat} {v : Value}
def envOf : Nat → List Value → Env
  | _, [] => []
  | i, v :: vs => (i, true, v) :: envOf (i + 1) vs
theorem eget_envOf (i k : Nat) (vs : List Value) (u : Bool × Value) (h : eget (envOf i vs) k = some u) : i ≤ k ∧ vs[k - i]? = some u.2 ∧ u.1 = true := by
  induction vs generalizing i with
  | nil => cases h
  | cons v vs ih =>
    simp only [envOf, eget] at h
    by_cases e : i = k
    · subst e
      simp only [Nat.beq_refl, cond_true] at h
      injection h with h
      subst h
      exact ⟨Nat.le_refl _, by simp, rfl⟩
    · rw [beq_no e] at h
      obtain ⟨h1, h2, h3⟩ := ih (i + 1) h
      refine ⟨by omega, ?_, h3⟩
      rw [show k - i = (k - (i + 1)) + 1 by omega]
      simpa using h2
theorem start (w0 : World) (S : List Nat) (H : Gh) (hw : H.In w0) (n : Nat) (args : List Value) (ha : args.length ≤ n) {M : List (Nat × Obj)} (hM : ∀ q ∈ M, w0.heap[q.1]? = some q.2) (hS : ∀ q ∈ M, q.1 ∈ S) (hnd : (M.map (·.1)).Nodup) (hd : ∀ q ∈ M, H q.1 = none) :
    St ⟨w0, S, H⟩ n [] H (envOf 0 args) M [] { tmps := args.toArray ++ Array.replicate (n - args.toArray.size) undef, defers := [] } w0 := by
  refine ⟨⟨by simp; omega, fun k c u hk => ?_⟩, rfl, Kept.refl _ _, hM, fun q hq => .inr (hS q hq), hnd, hw, hd, Gh.Le.refl _, Gh.NewS.refl _ _ _, by simp, by simp, by simp, by simp, List.Pairwise.nil⟩
  obtain ⟨_, h2, h3⟩ := eget_envOf 0 k args _ hk
  simp only at h3
  subst h3
  have hlt : k < args.length := (List.getElem?_eq_some_iff.1 h2).1
  rw [Array.getElem?_append_left (by simpa using hlt)]
  simpa using h2
def Post (w0 : World) (H : Gh) (Rs : Gh → Value → Prop) : Ending → World → Prop := fun e w' => ∃ v H', e = .returned v ∧ Kept [] w0 w' ∧ H.Le H' ∧ H'.In w' ∧ H.New H' w0.heap.size ∧ Rs H' v
theorem ct_of {f : FuncId} {fn : Func} {c : Code} {args : List Value} {Rs : Gh → Value → Prop} (hf : P.funcs[f]? = some fn) (hb : fn.body = some c) (hn : fn.ntmps = n) (ha : Nat.ble args.length n = true) (h : ∀ w0, H.In w0 → RK (c.wp P (bodyPost P fn (Post w0 H Rs))) ⟨w0, [], H⟩ n [] H (envOf 0 args) [] []) : Ct P f args H Rs := fun w hw => by
  refine calls_of_wp hf hb ?_
  rw [hn]
  exact h w hw _ w (start w [] H hw n args (Nat.le_of_ble_eq_true ha) (by simp) (by simp) (by simp) (by simp))
theorem cv_of {f : FuncId} {fn : Func} {c : Code} {args : List Value} {Rs : Value → Prop} (hf : P.funcs[f]? = some fn) (hb : fn.body = some c) (hn : fn.ntmps = n) (ha : Nat.ble args.length n = true) (h : ∀ w0, H.In w0 → RK (c.wp P (bodyPost P fn (Post w0 H fun _ => Rs))) ⟨w0, [], H⟩ n [] H (envOf 0 args) [] []) : Cv P f args H Rs := fun w hw => by
  refine (ct_of (Rs := fun _ => Rs) hf hb hn ha h w hw).mono fun _ _ ⟨v, _, h1, h2, _, _, _, h6⟩ => ⟨v, h1, h2, h6⟩
def RV (P : Program) (E : Env) (M : List (Nat × Obj)) : ResultVar → Value → Prop
  | .tmp t, v => eget E t = some (true, v)
  | .cell p ty, v => ∃ (g i : Nat) (cs : List Value) (T : TypeId), eget E p = some (true, .pointer (some ⟨g, 0, none⟩)) ∧ M[i]? = some (g, .cells cs.toArray T (0, 0)) ∧ ((Sc P ty ∧ cs[0]? = some v) ∨ (∃ k, Ag P ty k ∧ cs.length = k ∧ v = .agg cs.toArray))
def RVs (P : Program) (E : Env) (M : List (Nat × Obj)) : List ResultVar → List Value → Prop
  | [], [] => True
  | r :: rs, v :: vs => RV P E M r v ∧ RVs P E M rs vs
  | _, _ => False
theorem rv_cell {p : Nat} {ty : Nat} {g : Nat} (i : Nat) (cs : List Value) {T : TypeId} {k : Nat} [ha : Ag P ty k] (hp : eget E p = some (true, .pointer (some ⟨g, 0, none⟩)) := by rfl) (hm : M[i]? = some (g, .cells cs.toArray T (0, 0)) := by rfl) (hl : cs.length = k := by rfl) : RV P E M (.cell p ty) (.agg cs.toArray) := ⟨g, i, cs, T, hp, hm, .inr ⟨k, ha, hl, rfl⟩⟩
theorem rv_cell1 {p : Nat} {ty : Nat} {g : Nat} (i : Nat) {cs : List Value} {T : TypeId} [ha : Sc P ty] (hp : eget E p = some (true, .pointer (some ⟨g, 0, none⟩)) := by rfl) (hm : M[i]? = some (g, .cells cs.toArray T (0, 0)) := by rfl) (hc : cs[0]? = some v := by rfl) : RV P E M (.cell p ty) v := ⟨g, i, cs, T, hp, hm, .inl ⟨ha, hc⟩⟩
def rvRun (tmps : Array Value) : ResultVar → Sem Value
  | .tmp t => pure (tmps.getD t undef)
  | .cell a t => do loadVar t (← asAddr (tmps.getD a undef))
theorem rvs_run {rs : List ResultVar} {vs : List Value} (h : RVs P E M rs vs) {a : Act} {w : World} (s : St C n D H E M R a w) (f : ResultVar → Sem Value) (hf : ∀ r, f r = rvRun a.tmps r) : (rs.mapM f).run P w = .ok vs w := by
  induction rs generalizing vs with
  | nil =>
    cases vs with
    | nil => simp
    | cons v vs => exact h.elim
  | cons r rs ih =>
    cases vs with
    | nil => exact h.elim
    | cons v vs =>
      obtain ⟨h1, h2⟩ := h
      have hr : (f r).run P w = .ok v w := by
        rw [hf]
        cases r with
        | tmp t =>
          have := s.fits.get t _ v h1
          simp [rvRun, this]
        | cell p ty =>
          obtain ⟨g, i, cs, T, e1, e2, e3⟩ := h1
          have hp := s.fits.get p _ _ e1
          have hb := s.mem _ (List.mem_of_getElem? e2)
          have e4 : (asAddr (.pointer (some ⟨g, 0, none⟩))).run P w = .ok ⟨g, 0, none⟩ w := rfl
          simp only [rvRun, Array.getD_eq_getD_getElem?, hp, Option.getD_some, cond_true, Sem.run_bind, e4, Result.andThen_ok]
          rcases e3 with ⟨e5, e6⟩ | ⟨k, e5, e6, rfl⟩
          · have := run_load1 (v := v) e5 (g := g) (j := 0) (w := w) (by rw [cell_blk hb]; simpa using e6)
            simpa [Instr.loadAt, Instr.sureAddr] using this
          · have := run_loadK e5 (g := g) (j := 0) (w := w) (cs := cs) e6 (fun q u hu => by rw [cell_blk hb]; simpa using hu)
            simpa [Instr.loadAt, Instr.sureAddr] using this
      rw [List.mapM_cons]
      simp [hr, ih h2]
def oneOf : List Value → Value
  | [v] => v
  | vs => .tuple vs.toArray
theorem results_run {fn : Func} {rs : List ResultVar} {vs : List Value} (hr : fn.results = rs.toArray) (h : RVs P E M rs vs) {a : Act} {w : World} (s : St C n D H E M R a w) : (results fn a.tmps).run P w = .ok (oneOf vs) w := by
  unfold results
  rw [hr, List.mapM_toArray]
  simp only [Sem.run_bind, Sem.run_map]
  rw [rvs_run h s _ (fun r => by cases r <;> rfl)]
  match vs with
  | [] => simp [oneOf]
  | [v] => simp [oneOf]
  | v :: u :: vs => simp [oneOf]
theorem x_ret {fn : Func} {rs : List ResultVar} {vs : List Value} {w0 : World} {H0 : Gh} {Rs : Gh → Value → Prop} (hr : fn.results = rs.toArray) (h : RVs P E M rs vs) (hR : Rs H (oneOf vs)) : RK (bodyPost P fn (Post w0 H0 Rs) .ret) ⟨w0, [], H0⟩ n [] H E M R := fun _ _ s =>
  ⟨s.defs, _, results_run hr h s, _, H, rfl, s.kept, s.gle, s.gin, s.gnew.new, hR⟩
end Go.Proofs.YtoakoffdjeleoaaGreat
end
section
namespace BS
structure Wi where
  id : Int
  right : Int
  wrong : Int
  deriving DecidableEq
structure Ac where
  id : Int
  wit : Int
  deriving DecidableEq
structure Nd where
  fact : Int
  point : Int
  axis : Int
  at_ : Int
  deriving DecidableEq
end BS
namespace Go.Proofs.YtoakoffdjeleoaaGreat
def encI (x : Int) : List Value := [.int .i64 x]
def encSp (s : BS.Sp) : List Value := [.int .i64 s.lo, .int .i64 s.hi]
def encBx (b : BS.Bx) : List Value := [.int .i64 b.x.lo, .int .i64 b.x.hi, .int .i64 b.y.lo, .int .i64 b.y.hi]
def encPt (p : BS.Pt) : List Value := [.int .i64 p.x, .int .i64 p.y]
def encFc (f : BS.Fc) : List Value := [.int .i64 f.id, .int .i64 f.kind, .bool f.neg, .int .i64 f.a, .int .i64 f.b, .int .i64 f.c, .int .i64 f.span.lo, .int .i64 f.span.hi, .int .i64 f.quarter]
def encWi (w : BS.Wi) : List Value := [.int .i64 w.id, .int .i64 w.right, .int .i64 w.wrong]
def encAc (a : BS.Ac) : List Value := [.int .i64 a.id, .int .i64 a.wit]
def zPt : BS.Pt := ⟨0, 0⟩
def zFc : BS.Fc := ⟨0, 0, false, 0, 0, 0, ⟨0, 0⟩, 0⟩
def zWi : BS.Wi := ⟨0, 0, 0⟩
def zAc : BS.Ac := ⟨0, 0⟩
end Go.Proofs.YtoakoffdjeleoaaGreat
end
section
namespace Go.Proofs.YtoakoffdjeleoaaGreat
open Go.RowKit
variable {P : Program} {ops : Array Oper} {Q : Exit → Act → World → Prop} {K : Act → World → Prop} {C : Cx} {n : Nat} {D : List Deferred} {H : Gh} {E : Env} {M : List (Nat × Obj)} {R : List Rw} {l : List Oper} {o : Oper} {d : Nat} {b : Bool} {v : Value}
section
variable {ty : TypeId} {pos : String} {af : Array Edge} {x y : Operand} {i j : Int} {t t' : TypeId} {q : IntKind}
theorem lm (k : RK (wpList P ops Q l) C n D H ((d, true, v) :: E) M R) (hx : ev E x = some (true, v) := by rfl) (hn : Nat.blt d n = true := by rfl) : RK (wpList P ops Q (⟨some d, .move x, ty, pos, af, none⟩ :: l)) C n D H E M R := l_v (p_move .no (e1 hx)) k hn
theorem la (k : RK (wpList P ops Q l) C n D H ((d, true, v) :: E) M R) (hx : ev E x = some (true, v) := by rfl) (hn : Nat.blt d n = true := by rfl) : RK (wpList P ops Q (⟨some d, .assign x, ty, pos, af, none⟩ :: l)) C n D H E M R := l_v (p_assign .no (e1 hx)) k hn
theorem llss (k : RK (wpList P ops Q l) C n D H ((d, true, .bool (decide (i < j))) :: E) M R) (hx : ev E x = some (true, .int q i) := by rfl) (hy : ev E y = some (true, .int q j) := by rfl) (hn : Nat.blt d n = true := by rfl) : RK (wpList P ops Q (⟨some d, .binOp .lss t x y t', ty, pos, af, none⟩ :: l)) C n D H E M R := l_v (p_bin .no (e1 hx) (e1 hy) fun _ => r_lss _ _ _ _) k hn
theorem lleq (k : RK (wpList P ops Q l) C n D H ((d, true, .bool (decide (i ≤ j))) :: E) M R) (hx : ev E x = some (true, .int q i) := by rfl) (hy : ev E y = some (true, .int q j) := by rfl) (hn : Nat.blt d n = true := by rfl) : RK (wpList P ops Q (⟨some d, .binOp .leq t x y t', ty, pos, af, none⟩ :: l)) C n D H E M R := l_v (p_bin .no (e1 hx) (e1 hy) fun _ => r_leq _ _ _ _) k hn
theorem lgtr (k : RK (wpList P ops Q l) C n D H ((d, true, .bool (decide (j < i))) :: E) M R) (hx : ev E x = some (true, .int q i) := by rfl) (hy : ev E y = some (true, .int q j) := by rfl) (hn : Nat.blt d n = true := by rfl) : RK (wpList P ops Q (⟨some d, .binOp .gtr t x y t', ty, pos, af, none⟩ :: l)) C n D H E M R := l_v (p_bin .no (e1 hx) (e1 hy) fun _ => r_gtr _ _ _ _) k hn
theorem lgeq (k : RK (wpList P ops Q l) C n D H ((d, true, .bool (decide (j ≤ i))) :: E) M R) (hx : ev E x = some (true, .int q i) := by rfl) (hy : ev E y = some (true, .int q j) := by rfl) (hn : Nat.blt d n = true := by rfl) : RK (wpList P ops Q (⟨some d, .binOp .geq t x y t', ty, pos, af, none⟩ :: l)) C n D H E M R := l_v (p_bin .no (e1 hx) (e1 hy) fun _ => r_geq _ _ _ _) k hn
theorem leql (k : RK (wpList P ops Q l) C n D H ((d, true, .bool (decide (i = j))) :: E) M R) (hx : ev E x = some (true, .int q i) := by rfl) (hy : ev E y = some (true, .int q j) := by rfl) (hn : Nat.blt d n = true := by rfl) : RK (wpList P ops Q (⟨some d, .binOp .eql t x y t', ty, pos, af, none⟩ :: l)) C n D H E M R := l_v (p_bin .no (e1 hx) (e1 hy) fun _ => r_eql _ _ _ _) k hn
theorem lneq (k : RK (wpList P ops Q l) C n D H ((d, true, .bool (decide (i ≠ j))) :: E) M R) (hx : ev E x = some (true, .int q i) := by rfl) (hy : ev E y = some (true, .int q j) := by rfl) (hn : Nat.blt d n = true := by rfl) : RK (wpList P ops Q (⟨some d, .binOp .neq t x y t', ty, pos, af, none⟩ :: l)) C n D H E M R := l_v (p_bin .no (e1 hx) (e1 hy) fun _ => r_neq _ _ _ _) k hn
theorem ladd (k : RK (wpList P ops Q l) C n D H ((d, true, .int .i64 (i + j)) :: E) M R) (hx : ev E x = some (true, .int .i64 i) := by rfl) (hy : ev E y = some (true, .int .i64 j) := by rfl) (h : -9223372036854775808 ≤ i + j ∧ i + j ≤ 9223372036854775807 := by omega) (hn : Nat.blt d n = true := by rfl) : RK (wpList P ops Q (⟨some d, .binOp .add t x y t', ty, pos, af, none⟩ :: l)) C n D H E M R := l_v (p_bin .no (e1 hx) (e1 hy) fun _ => r_add _ h) k hn
theorem lsub (k : RK (wpList P ops Q l) C n D H ((d, true, .int .i64 (i - j)) :: E) M R) (hx : ev E x = some (true, .int .i64 i) := by rfl) (hy : ev E y = some (true, .int .i64 j) := by rfl) (h : -9223372036854775808 ≤ i - j ∧ i - j ≤ 9223372036854775807 := by omega) (hn : Nat.blt d n = true := by rfl) : RK (wpList P ops Q (⟨some d, .binOp .sub t x y t', ty, pos, af, none⟩ :: l)) C n D H E M R := l_v (p_bin .no (e1 hx) (e1 hy) fun _ => r_sub _ h) k hn
theorem lmul (k : RK (wpList P ops Q l) C n D H ((d, true, .int .i64 (i * j)) :: E) M R) (hx : ev E x = some (true, .int .i64 i) := by rfl) (hy : ev E y = some (true, .int .i64 j) := by rfl) (h : -9223372036854775808 ≤ i * j ∧ i * j ≤ 9223372036854775807 := by omega) (hn : Nat.blt d n = true := by rfl) : RK (wpList P ops Q (⟨some d, .binOp .mul t x y t', ty, pos, af, none⟩ :: l)) C n D H E M R := l_v (p_bin .no (e1 hx) (e1 hy) fun _ => r_mul _ h) k hn
theorem lquo (k : RK (wpList P ops Q l) C n D H ((d, true, .int .i64 (i / j)) :: E) M R) (hx : ev E x = some (true, .int .i64 i) := by rfl) (hy : ev E y = some (true, .int .i64 j) := by rfl) (h : 0 ≤ i ∧ i ≤ 9223372036854775807 := by omega) (h' : 0 < j := by omega) (hn : Nat.blt d n = true := by rfl) : RK (wpList P ops Q (⟨some d, .binOp .quo t x y t', ty, pos, af, none⟩ :: l)) C n D H E M R := l_v (p_bin .no (e1 hx) (e1 hy) fun _ => r_quo _ h h') k hn
theorem lrem (k : RK (wpList P ops Q l) C n D H ((d, true, .int .i64 (i % j)) :: E) M R) (hx : ev E x = some (true, .int .i64 i) := by rfl) (hy : ev E y = some (true, .int .i64 j) := by rfl) (h : 0 ≤ i ∧ i ≤ 9223372036854775807 := by omega) (h' : 0 < j := by omega) (hn : Nat.blt d n = true := by rfl) : RK (wpList P ops Q (⟨some d, .binOp .rem t x y t', ty, pos, af, none⟩ :: l)) C n D H E M R := l_v (p_bin .no (e1 hx) (e1 hy) fun _ => r_rem _ h h') k hn
theorem lnot {c : Bool} (k : RK (wpList P ops Q l) C n D H ((d, true, .bool (!c)) :: E) M R) (hx : ev E x = some (true, .bool c) := by rfl) (hn : Nat.blt d n = true := by rfl) : RK (wpList P ops Q (⟨some d, .unOp .not t x, ty, pos, af, none⟩ :: l)) C n D H E M R := l_v (p_not .no (e1 hx)) k hn
theorem lneg (k : RK (wpList P ops Q l) C n D H ((d, true, .int .i64 (-i)) :: E) M R) (hx : ev E x = some (true, .int .i64 i) := by rfl) (h : -9223372036854775808 ≤ -i ∧ -i ≤ 9223372036854775807 := by omega) (hn : Nat.blt d n = true := by rfl) : RK (wpList P ops Q (⟨some d, .unOp .neg t x, ty, pos, af, none⟩ :: l)) C n D H E M R := l_v (p_neg .no (e1 hx) fun _ => h) k hn
theorem lext {f : Nat} {vs : Array Value} (k : RK (wpList P ops Q l) C n D H ((d, true, v) :: E) M R) (hx : ev E x = some (true, .tuple vs) := by rfl) (hv : vs[f]? = some v := by rfl) (hn : Nat.blt d n = true := by rfl) : RK (wpList P ops Q (⟨some d, .extract x f, ty, pos, af, none⟩ :: l)) C n D H E M R := l_v (p_extract .no (e1 hx) hv) k hn
theorem lnil {p : Addr} (k : RK (wpList P ops Q l) C n D H ((d, true, .pointer (some p)) :: E) M R) (hx : ev E x = some (true, .pointer (some p)) := by rfl) (hn : Nat.blt d n = true := by rfl) : RK (wpList P ops Q (⟨some d, .nilCheck x, ty, pos, af, none⟩ :: l)) C n D H E M R := l_v (p_nil .no (e1 hx)) k hn
theorem lf {T f off g p : Nat} [hr : Fd P T f off] (k : RK (wpList P ops Q l) C n D H ((d, true, .pointer (some ⟨g, p + off, none⟩)) :: E) M R) (hx : ev E x = some (true, .pointer (some ⟨g, p, none⟩)) := by rfl) (hn : Nat.blt d n = true := by rfl) : RK (wpList P ops Q (⟨some d, .fieldAddr T x f, ty, pos, af, none⟩ :: l)) C n D H E M R := l_v (p_field .no (e1 hx)) k hn
theorem ll (q : Nat) {T g p : Nat} {cs : List Value} {T' : TypeId} [hs : Sc P T] (k : RK (wpList P ops Q l) C n D H ((d, true, v) :: E) M R) (hx : ev E x = some (true, .pointer (some ⟨g, p, none⟩)) := by rfl) (hm : M[q]? = some (g, .cells cs.toArray T' (0, 0)) := by rfl) (hc : cs[p]? = some v := by rfl) (hn : Nat.blt d n = true := by rfl) : RK (wpList P ops Q (⟨some d, .load T x, ty, pos, af, none⟩ :: l)) C n D H E M R := l_v (p_load q .no (e1 hx) hm hc) k hn
theorem lk (q : Nat) (us : List Value) {T g p k' : Nat} {cs : List Value} {T' : TypeId} [hs : Ag P T k'] (k : RK (wpList P ops Q l) C n D H ((d, true, .agg us.toArray) :: E) M R) (hx : ev E x = some (true, .pointer (some ⟨g, p, none⟩)) := by rfl) (hm : M[q]? = some (g, .cells cs.toArray T' (0, 0)) := by rfl) (hc : (cs.drop p).take k' = us := by rfl) (hl : us.length = k' := by rfl) (hn : Nat.blt d n = true := by rfl) : RK (wpList P ops Q (⟨some d, .load T x, ty, pos, af, none⟩ :: l)) C n D H E M R := l_v (p_loadK q us .no (e1 hx) hm hc hl) k hn
theorem lg (q : Nat) {T c p off : Nat} {cs : List Value} (hc' : GAt H c off cs) [hs : Sc P T] (k : RK (wpList P ops Q l) C n D H ((d, true, v) :: E) M R) (hx : ev E x = some (true, .pointer (some ⟨c, p, none⟩)) := by rfl) (hp : p = off + q := by omega) (hc : cs[q]? = some v := by rfl) (hn : Nat.blt d n = true := by rfl) : RK (wpList P ops Q (⟨some d, .load T x, ty, pos, af, none⟩ :: l)) C n D H E M R := l_v (p_gload q (fun _ => hc') .no (e1 hx) hp hc) k hn
theorem lgk (q : Nat) (us : List Value) {T c p off k' : Nat} {cs : List Value} (hc' : GAt H c off cs) [hs : Ag P T k'] (k : RK (wpList P ops Q l) C n D H ((d, true, .agg us.toArray) :: E) M R) (hx : ev E x = some (true, .pointer (some ⟨c, p, none⟩)) := by rfl) (hp : p = off + q := by omega) (hc : (cs.drop q).take k' = us := by rfl) (hl : us.length = k' := by rfl) (hn : Nat.blt d n = true := by rfl) : RK (wpList P ops Q (⟨some d, .load T x, ty, pos, af, none⟩ :: l)) C n D H E M R := l_v (p_gloadK q us (fun _ => hc') .no (e1 hx) hp hc hl) k hn
theorem llen {T e m c : Nat} {A : Option Addr} [ht : Sl P T e] (k : RK (wpList P ops Q l) C n D H ((d, true, .int .i64 m) :: E) M R) (hx : ev E x = some (true, .slice A m c) := by rfl) (hn : Nat.blt d n = true := by rfl) : RK (wpList P ops Q (⟨some d, .call { callee := .builtin .len, args := #[x], argTypes := #[T] }, ty, pos, af, none⟩ :: l)) C n D H E M R := l_v (p_len .no (e1 hx) ht.elem) k hn
theorem lmax (k : RK (wpList P ops Q l) C n D H ((d, true, .int .i64 (max i j)) :: E) M R) (hx : ev E x = some (true, .int .i64 i) := by rfl) (hy : ev E y = some (true, .int .i64 j) := by rfl) (hn : Nat.blt d n = true := by rfl) : RK (wpList P ops Q (⟨some d, .call { callee := .builtin .max, args := #[x, y], argTypes := #[t, t] }, ty, pos, af, none⟩ :: l)) C n D H E M R := l_v (p_max .no (e1 hx) (e1 hy)) k hn
theorem lmin (k : RK (wpList P ops Q l) C n D H ((d, true, .int .i64 (min i j)) :: E) M R) (hx : ev E x = some (true, .int .i64 i) := by rfl) (hy : ev E y = some (true, .int .i64 j) := by rfl) (hn : Nat.blt d n = true := by rfl) : RK (wpList P ops Q (⟨some d, .call { callee := .builtin .min, args := #[x, y], argTypes := #[t, t] }, ty, pos, af, none⟩ :: l)) C n D H E M R := l_v (p_min .no (e1 hx) (e1 hy)) k hn
theorem lbd {t : TypeId} {ps : List (Nat × Operand)} (vs : List (Nat × Value)) (k : RK (wpList P ops Q l) C n D H ((d, true, v) :: E) M R) (hr : ∀ w, (Instr.build t vs.toArray).run P w = .ok v w) (hx : ∀ q ∈ ps.zip vs, ev E q.1.2 = some (true, q.2.2) ∧ q.1.1 = q.2.1) (hl : ps.length = vs.length := by rfl) (hn : Nat.blt d n = true := by rfl) : RK (wpList P ops Q (⟨some d, .build t ps.toArray, ty, pos, af, none⟩ :: l)) C n D H E M R :=
  l_v (p_build vs .no (fun a hf _ => by
    apply List.ext_getElem (by simp [hl])
    intro i h1 h2
    have h3 : i < ps.length := by simpa using h1
    obtain ⟨h4, h5⟩ := hx (ps[i], vs[i]) (List.mem_iff_getElem.2 ⟨i, by simp; omega, by simp⟩)
    simp only [List.getElem_map]
    rw [hf.ev (e1 (b := true) h4) rfl, h5]) hr) k hn
end
theorem lal {t : Nat} {ty : TypeId} {pos : String} {af : Array Edge} {cs : List Value} [hz : Zv P t v] (k : ∀ g, C.w0.heap.size ≤ g → RK (wpList P ops Q l) C n D H ((d, true, .pointer (some ⟨g, 0, none⟩)) :: E) ((g, .cells cs.toArray t (0, 0)) :: M) R) (hc : v.cells = cs.toArray := by rfl) (hn : Nat.blt d n = true := by rfl) : RK (wpList P ops Q (⟨some d, .alloc t, ty, pos, af, none⟩ :: l)) C n D H E M R := l_x (x_alloc (hc := hc) (hn := hn) k)
theorem lbx (cs : List Value) {x : Operand} {t ty : TypeId} {pos : String} {af : Array Edge} (k : ∀ g, C.w0.heap.size ≤ g → RK (wpList P ops Q l) C n D H ((d, true, .pointer (some ⟨g, 0, none⟩)) :: E) ((g, .cells cs.toArray t (0, 0)) :: M) R) (hx : ev E x = some (true, v) := by rfl) (hc : v.cells = cs.toArray := by rfl) (hn : Nat.blt d n = true := by rfl) : RK (wpList P ops Q (⟨some d, .box t x, ty, pos, af, none⟩ :: l)) C n D H E M R := l_x (x_box (hx := e1 hx) (hc := hc) (hn := hn) k)
theorem lst (i : Nat) (us cs' : List Value) {t k' g j : Nat} {x y : Operand} {cs : List Value} {T : TypeId} {ty : TypeId} {pos : String} {af : Array Edge} [hsz : Sz P t k'] (k : RK (wpList P ops Q l) C n D H E (M.set i (g, .cells cs'.toArray T (0, 0))) R) (hx : ev E x = some (true, .pointer (some ⟨g, j, none⟩)) := by rfl) (hy : ev E y = some (true, v) := by rfl) (hl : us.length = k' := by rfl) (hv : v.cells = us.toArray := by rfl) (h1 : us.all (·.oneCell') = true := by rfl)
    (hm : M[i]? = some (g, .cells cs.toArray T (0, 0)) := by rfl) (hfit : Nat.ble (j + us.length) cs.length = true := by rfl) (hc : cs.take j ++ us ++ cs.drop (j + us.length) = cs' := by rfl) : RK (wpList P ops Q (⟨none, .store t x y, ty, pos, af, none⟩ :: l)) C n D H E M R :=
  l_x (x_store i us cs' (hx := e1 hx) (hy := e1 hy) (hl := hl) (hv := hv) (h1 := h1) (hm := hm) (hfit := hfit) (hc := hc) k)
theorem evl_of {xs : List Operand} {vs : List Value} (h : xs.map (ev E) = vs.map (fun v => some (true, v))) : Evl E true xs vs := by
  induction xs generalizing vs with
  | nil => cases vs with
    | nil => trivial
    | cons v vs => simp at h
  | cons x xs ih =>
    cases vs with
    | nil => simp at h
    | cons v vs =>
      simp only [List.map_cons, List.cons.injEq] at h
      exact ⟨e1 h.1, ih h.2⟩
theorem lcl {f : Nat} {xs : List Operand} {at_ : Array TypeId} {vs : List Value} {u : Value} {ty : TypeId} {pos : String} {af : Array Edge} [hen : En P f] (hc : Cv P f vs H (fun v => v = u)) (k : RK (wpList P ops Q l) C n D H ((d, true, u) :: E) M R) (hx : xs.map (ev E) = vs.map (fun v => some (true, v)) := by rfl) (hn : Nat.blt d n = true := by rfl) : RK (wpList P ops Q (⟨some d, .call { callee := .value (.func f), args := xs.toArray, argTypes := at_ }, ty, pos, af, none⟩ :: l)) C n D H E M R :=
  l_x (x_calle .no (evl_of hx) (fun _ => hc) hn k)
theorem lct {f : Nat} {xs : List Operand} {at_ : Array TypeId} {vs : List Value} {Rs : Gh → Value → Prop} {ty : TypeId} {pos : String} {af : Array Edge} [hen : En P f] (hc : Ct P f vs H Rs) (k : ∀ H' v, H.Le H' → Rs H' v → RK (wpList P ops Q l) C n D H' ((d, true, v) :: E) M R) (hx : xs.map (ev E) = vs.map (fun v => some (true, v)) := by rfl) (hn : Nat.blt d n = true := by rfl) : RK (wpList P ops Q (⟨some d, .call { callee := .value (.func f), args := xs.toArray, argTypes := at_ }, ty, pos, af, none⟩ :: l)) C n D H E M R :=
  l_x (x_call .no (evl_of hx) (fun _ => hc) hn fun H' v h1 h2 => k H' v h1 (h2 rfl))
theorem lix {α : Type} {t e k' c m : Nat} {x y : Operand} {A : Option Addr} {i : Int} {q : IntKind} {enc : α → List Value} {L : List α} {ty : TypeId} {pos : String} {af : Array Edge} (hrow : GRow H A c enc k' L) (z : α) (j : Nat) [ht : Sl P t e] [hs : Sz P e k'] (k : ∀ p off, GAt H p off (enc (L.getD j z)) → RK (wpList P ops Q l) C n D H ((d, true, .pointer (some ⟨p, off, none⟩)) :: E) M R)
    (hx : ev E x = some (true, .slice A m c) := by rfl) (hy : ev E y = some (true, .int q i) := by rfl) (hj : i.toNat = j := by rfl) (hi : 0 ≤ i ∧ i < (L.length : Int) := by omega) (hm : m = L.length := by rfl) (hn : Nat.blt d n = true := by rfl) : RK (wpList P ops Q (⟨some d, .indexAddr t x y, ty, pos, af, none⟩ :: l)) C n D H E M R := by
  obtain ⟨p, off, h1, h2⟩ := p_index (P := P) (ops := ops) (n := n) (E := E) (M := M) (d := d) (b := true) (ty := ty) (pos := pos) (af := af) (gd := none) (t := t) (e := e) (x := x) (y := y) hrow z j hj .no (e1 hx) (e1 hy) hm (fun _ => hi)
  exact l_v h2 (k p off (h1 rfl)) hn
end Go.Proofs.YtoakoffdjeleoaaGreat
end
section
namespace Go.Proofs.YtoakoffdjeleoaaGreat
open Go.RowKit
variable {P : Program} {ops : Array Oper} {Q : Exit → Act → World → Prop} {K : Act → World → Prop} {C : Cx} {n : Nat} {D : List Deferred} {H : Gh} {E : Env} {M : List (Nat × Obj)} {R : List Rw} {l : List Oper} {o : Oper} {d : Nat} {b : Bool} {v : Value}
section
variable {ty : TypeId} {pos : String} {af : Array Edge} {gd : Option (Nat × Bool)}
theorem p_eql {t t' : TypeId} {x y : Operand} {xs ys : Array Value} {r : Bool} (hr : ∀ w, (Op.equal t (.agg xs) (.agg ys)).run P w = .ok r w) (hgt : P.eqGuardType P.depth t = false) (hg : Gd ops E gd b) (hx : Ev E b x (.agg xs)) (hy : Ev E b y (.agg ys)) : PV P ops n E M H ⟨some d, .binOp .eql t x y t', ty, pos, af, gd⟩ d b (.bool r) :=
  ⟨rfl, fun _ hf => hg.want rfl hf, fun hb a w hf _ _ => by
    have e : (binOp .eql t (.agg xs) (.agg ys)).run P w = .ok (.bool r) w := by
      show ((do pure (.bool (← Op.equal t (.agg xs) (.agg ys)))) : Sem Value).run P w = _
      simp only [Sem.run_bind, hr w, Result.andThen_ok, Sem.run_pure]
    simp only [execOp, hf.ev hx hb, hf.ev hy hb, run_eqGuard_agg _ _ _ _ _ _ _ hgt, Sem.run_bind, Sem.run_pure, e, Result.andThen_ok]⟩
theorem p_neq {t t' : TypeId} {x y : Operand} {xs ys : Array Value} {r : Bool} (hr : ∀ w, (Op.equal t (.agg xs) (.agg ys)).run P w = .ok r w) (hgt : P.eqGuardType P.depth t = false) (hg : Gd ops E gd b) (hx : Ev E b x (.agg xs)) (hy : Ev E b y (.agg ys)) : PV P ops n E M H ⟨some d, .binOp .neq t x y t', ty, pos, af, gd⟩ d b (.bool (!r)) :=
  ⟨rfl, fun _ hf => hg.want rfl hf, fun hb a w hf _ _ => by
    have e : (binOp .neq t (.agg xs) (.agg ys)).run P w = .ok (.bool (!r)) w := by
      show ((do pure (.bool (!(← Op.equal t (.agg xs) (.agg ys))))) : Sem Value).run P w = _
      simp only [Sem.run_bind, hr w, Result.andThen_ok, Sem.run_pure]
    simp only [execOp, hf.ev hx hb, hf.ev hy hb, run_eqGuard_agg _ _ _ _ _ _ _ hgt, Sem.run_bind, Sem.run_pure, e, Result.andThen_ok]⟩
end
section
variable {ty : TypeId} {pos : String} {af : Array Edge} {gd : Option (Nat × Bool)}
theorem p_mkf {f : Nat} {fs cs : List Operand} {us ws : List Value} (hg : Gd ops E gd b) (hf' : Evl E b fs us) (hc : Evl E b cs ws) : PV P ops n E M H ⟨some d, .makeFunc (.func f) fs.toArray cs.toArray, ty, pos, af, gd⟩ d b (.func (.func f) us.toArray ws.toArray) :=
  ⟨rfl, fun _ hf => hg.want rfl hf, fun hb a w hf _ _ => by
    show ((do pure (.value (← Instr.makeFunc (.func f) (fs.toArray.map a.eval) (cs.toArray.map a.eval)))) : Sem Next).run P w = _
    rw [List.map_toArray, List.map_toArray, hf.evl hb hf', hf.evl hb hc]
    rfl⟩
theorem run_callf {f : Nat} {x : Operand} {xs : List Operand} {at_ : Array TypeId} {us vs ws : List Value} {dst : Option Nat} (hen : Enters P f) {a : Act} (hx : a.eval x = .func (.func f) us.toArray ws.toArray) (hxs : xs.map a.eval = vs) (w : World) :
    (execOp a.eval ⟨dst, .call { callee := .value x, args := xs.toArray, argTypes := at_ }, ty, pos, af, gd⟩).run P w = .ok (.enter f (us ++ vs ++ ws).toArray) w := by
  have e1 : xs.toArray.map a.eval = vs.toArray := by rw [List.map_toArray, hxs]
  show ((do let d ← Deferred.ofValue (a.eval x) (xs.toArray.map a.eval); invoke d.target d.args) : Sem Next).run P w = _
  rw [hx, e1]
  simp only [Deferred.ofValue, Sem.run_bind, Sem.run_pure, Result.andThen_ok, invoke]
  have e2 : us.toArray ++ vs.toArray ++ ws.toArray = (us ++ vs ++ ws).toArray := by simp
  rw [e2]
  exact hen _ w
theorem x_callfe {f : Nat} {zs : List Value} {x : Operand} {xs : List Operand} {at_ : Array TypeId} {us vs ws : List Value} {u : Value} [hen : En P f] (hg : Gd ops E gd b) (hx : Ev E b x (.func (.func f) us.toArray ws.toArray)) (hxs : Evl E b xs vs) (hc : b = true → Cv P f zs H (fun v => v = u)) (has : us ++ vs ++ ws = zs := by rfl) (hn : Nat.blt d n = true := by rfl)
    (k : RK K C n D H ((d, b, u) :: E) M R) : RK (SX P ops Q ⟨some d, .call { callee := .value x, args := xs.toArray, argTypes := at_ }, ty, pos, af, gd⟩ K) C n D H E M R := fun a w s => by
  unfold SX
  rw [hg.want rfl s.fits]
  cases hb : b with
  | false =>
    subst hb
    rw [if_neg (by simp)]
    exact k _ _ (s.put hn rfl)
  | true =>
    subst hb
    rw [if_pos rfl]
    unfold Oper.wp
    rw [run_callf hen.enters (s.fits.ev hx rfl) (s.fits.evl rfl hxs) w, has, Oper.upon_enter]
    refine (hc rfl w s.gin).mono fun e w' ⟨v, h1, h2, h6⟩ => ?_
    subst h1; subst h6
    exact k _ _ ((s.call h2 (Gh.Le.refl _) (h2.gin s.gin) (Gh.New.refl _ _)).put hn rfl)
class Arr (P : Program) (t : Nat) (len e k : outParam Nat) : Prop where
  und : P.underlying t = some (.array len e)
  agg : ∀ w, (isAgg e).run P w = .ok true w
  size : ∀ w, (sizeOf e).run P w = .ok k w
theorem drop_flat {α : Type} (enc : α → List Value) (k : Nat) (hk : ∀ x, (enc x).length = k) (l : List α) (i : Nat) : (l.flatMap enc).drop (i * k) = (l.drop i).flatMap enc := by
  induction i generalizing l with
  | zero => simp
  | succ i ih =>
    cases l with
    | nil => simp
    | cons x l =>
      rw [List.flatMap_cons, List.drop_succ_cons, ← ih l, show (i + 1) * k = (enc x).length + i * k by rw [hk, Nat.succ_mul, Nat.add_comm]]
      rw [List.drop_append]
      simp
theorem take_flat {α : Type} (enc : α → List Value) (k : Nat) (hk : ∀ x, (enc x).length = k) (l : List α) (i : Nat) (z : α) (hi : i < l.length) : ((l.flatMap enc).drop (i * k)).take k = enc (l.getD i z) := by
  rw [drop_flat enc k hk, List.drop_eq_getElem_cons hi, List.flatMap_cons, List.take_append_of_le_length (by rw [hk]; exact Nat.le_refl _), ← hk (l[i]), List.take_length]
  simp [List.getD_eq_getElem?_getD, List.getElem?_eq_getElem hi]
theorem p_idx {α : Type} {t len e k : Nat} {x y : Operand} {i : Int} {q : IntKind} (enc : α → List Value) (l : List α) (z : α) (j : Nat) (hj : i.toNat = j) [hA : Arr P t len e k] (hg : Gd ops E gd b) (hx : Ev E b x (.agg (l.flatMap enc).toArray)) (hy : Ev E b y (.int q i)) (hk : ∀ x, (enc x).length = k := by exact fun _ => rfl) (hl : l.length = len := by rfl) (hi : b = true → 0 ≤ i ∧ i < (len : Int) := by exact fun _ => by omega) : PV P ops n E M H ⟨some d, .index t x y, ty, pos, af, gd⟩ d b (.agg (enc (l.getD j z)).toArray) :=
  ⟨rfl, fun _ hf => hg.want rfl hf, fun hb a w hf _ _ => by
    subst hj
    have h0 := hi hb
    have h2 : (part e (l.flatMap enc).toArray (i.toNat * k)).run P w = .ok (.agg (enc (l.getD i.toNat z)).toArray) w := by
      have h3 : ((l.flatMap enc).toArray.extract (i.toNat * k) (i.toNat * k + k)) = (enc (l.getD i.toNat z)).toArray := by
        rw [← take_flat enc k hk l i.toNat z (by omega)]
        simp
      unfold part
      simp only [Sem.run_bind, hA.agg w, Result.andThen_ok, if_true, hA.size w, Sem.run_pure, h3]
    have h1 : (Instr.index t (.agg (l.flatMap enc).toArray) (.int q i)).run P w = .ok (.agg (enc (l.getD i.toNat z)).toArray) w := by
      simp only [Instr.index, asIntOf, Sem.run_bind, Sem.run_pure, Result.andThen_ok, run_underlying hA.und, if_pos h0, hA.size w, h2]
    simp only [execOp, hf.ev hx hb, hf.ev hy hb, Sem.run_bind, h1, Result.andThen_ok, Sem.run_pure]⟩
end
section
variable {e : Nat} {xs ys : Array Value} {f : Field} {fs : List Field} {u v : Value} {r s : Bool} {w : World}
theorem ef_nil : (Op.eqFields e xs ys []).run P w = .ok true w := by simp [Op.eqFields]
theorem ef_cons (hn : (f.name == "_") = false) (ha : (part f.type xs f.offset).run P w = .ok u w) (hb : (part f.type ys f.offset).run P w = .ok v w) (he : (Op.equalIn e f.type u v).run P w = .ok r w) (hr : (Op.eqFields e xs ys fs).run P w = .ok s w) : (Op.eqFields e xs ys (f :: fs)).run P w = .ok (r && s) w := by
  have hn' : f.name ≠ "_" := by simpa using hn
  rw [Op.eqFields]
  simp only [if_pos hn', Sem.run_bind, ha, hb, he, Result.andThen_ok]
  cases r
  · simp
  · simpa using hr
theorem ef_last (hn : (f.name == "_") = false) (ha : (part f.type xs f.offset).run P w = .ok u w) (hb : (part f.type ys f.offset).run P w = .ok v w) (he : (Op.equalIn e f.type u v).run P w = .ok r w) : (Op.eqFields e xs ys [f]).run P w = .ok r w := by
  have := ef_cons (fs := []) hn ha hb he ef_nil
  rwa [Bool.and_true] at this
theorem ef_of {t : TypeId} {fs : Array Field} (hu : P.underlying t = some (.struct fs)) (hp : P.stoodInHeld t = false) (h : (Op.eqFields e xs ys fs.toList).run P w = .ok r w) : (Op.equalIn (e + 1) t (.agg xs) (.agg ys)).run P w = .ok r w := by
  have hf : P.fieldsOf t = fs := by simp [Program.fieldsOf, hu]
  rw [run_equalIn_struct (P := P) w e t xs ys (by rw [hf]; exact hu) hp, hf]
  exact h
end
end Go.Proofs.YtoakoffdjeleoaaGreat
end
section
namespace Go.Proofs.YtoakoffdjeleoaaGreat
open Go.RowKit
theorem ask_drawn {α : Type} : ∀ (q : Ask α) (w : World), w.drawn ≤ (w.ask q).2.drawn
  | .done a, w => Nat.le_refl _
  | .ask what range k, w => by
    unfold World.ask
    simp only
    split
    · exact ask_drawn (k 0) w
    · exact Nat.le_trans (Nat.le_succ _) (ask_drawn (k _) { w with drawn := w.drawn + 1 })
theorem sys_drawn (w : World) (c : Sys) : w.drawn ≤ (w.sys c).2.drawn := by
  have h := ask_drawn (Kernel.perform c w.os) w
  unfold World.sys
  split
  · exact Nat.le_refl _
  · rename_i r os w' _ e
    rw [e] at h
    exact h
theorem except_bind {ε α β : Type} {x : Except ε α} {f : α → Except ε β} {b : β} (h : (x >>= f) = .ok b) : ∃ a, x = .ok a ∧ f a = .ok b := by
  cases x with
  | error e => cases h
  | ok a => exact ⟨a, rfl, h⟩
theorem view_drawn {P : Program} {w w' : World} {at_ a : Addr} {u : TypeId} {v : Value} {atomic : Bool} {l : List Addr} (h : w.viewStore P at_ u a v atomic = .ok (w', l)) : w'.drawn = w.drawn := by
  unfold World.viewStore at h
  dsimp only at h
  split at h
  · obtain ⟨_, h1, _⟩ := except_bind h
    cases h1
  · obtain ⟨⟨c, e, frozen, first, like, cells⟩, _, h⟩ := except_bind h
    dsimp only at h
    split at h
    · split at h
      · obtain ⟨_, h1, _⟩ := except_bind h
        cases h1
      · obtain ⟨_, _, h⟩ := except_bind h
        injection h with h
        injection h with h _
        rw [← h]
    · cases h
theorem far_drawn {P : Program} {w w' : World} {a : Addr} {v : Value} {atomic : Bool} {l : List Addr} (h : w.farStore P a v atomic = .ok (w', l)) : w'.drawn = w.drawn := by
  unfold World.farStore at h
  split at h
  · split at h
    · rename_i r e
      injection h with h
      subst h
      exact view_drawn e
    · cases h
  · cases h
theorem setCell_drawn (w : World) (a : Addr) (v : Value) : (w.setCell a v).drawn = w.drawn := rfl
theorem freeze_drawn (w : World) (a : Addr) (n : Nat) : (w.freeze a n).drawn = w.drawn := by unfold World.freeze; split <;> rfl
theorem run_drawn {α : Type} {P : Program} : ∀ (m : Sem α) (w : World) {r : α} {w' : World}, m.run P w = .ok r w' → w.drawn ≤ w'.drawn := by
  intro m
  induction m with
  | pure a => intro w r w' h; unfold Sem.run at h; injection h with _ h; subst h; exact Nat.le_refl _
  | load m a k ih =>
    intro w r w' h
    unfold Sem.run at h
    split at h
    · exact ih _ _ h
    · split at h
      · exact ih _ _ h
      · cases h
  | store m a v k ih =>
    intro w r w' h
    cases v <;> simp only [Sem.run] at h <;> first
      | (cases h; done)
      | (split at h
         · split at h
           · cases h
           · have := ih _ h
             rwa [setCell_drawn] at this
         · split at h
           · rename_i e
             have := ih _ h
             rwa [far_drawn e] at this
           · cases h)
  | new o k ih => intro w r w' h; unfold Sem.run at h; have := ih _ _ h; exact this
  | shape q k ih => intro w r w' h; unfold Sem.run at h; exact ih _ _ h
  | freeze a n k ih => intro w r w' h; unfold Sem.run at h; have := ih _ h; rwa [freeze_drawn] at this
  | frozen a k ih => intro w r w' h; unfold Sem.run at h; exact ih _ _ h
  | getObj q k ih =>
    intro w r w' h
    unfold Sem.run at h
    split at h
    · cases h
    · exact ih _ _ h
    · cases h
  | setObj q o k ih =>
    intro w r w' h
    unfold Sem.run at h
    split at h
    · cases h
    · have := ih _ h
      exact this
    · cases h
  | choose q k ih =>
    intro w r w' h
    unfold Sem.run at h
    split at h
    · exact ih _ _ h
    · exact Nat.le_trans (Nat.le_succ _) (ih _ _ h)
  | sys c k ih => intro w r w' h; unfold Sem.run at h; exact Nat.le_trans (sys_drawn w c) (ih _ _ h)
  | program k ih => intro w r w' h; unfold Sem.run at h; exact ih _ _ h
  | mark q k ih => intro w r w' h; unfold Sem.run at h; exact ih _ h
  | halt q => intro w r w' h; unfold Sem.run at h; cases h
end Go.Proofs.YtoakoffdjeleoaaGreat
end
section
namespace Go.Proofs.YtoakoffdjeleoaaGreat
open Go.RowKit
variable {P : Program} {ops : Array Oper} {Q : Exit → Act → World → Prop} {K : Act → World → Prop} {C : Cx} {n : Nat} {D : List Deferred} {H : Gh} {E : Env} {M : List (Nat × Obj)} {R : List Rw} {a : Act} {w : World} {l : List Oper} {o : Oper} {d : Nat} {b : Bool} {v : Value}
class El (P : Program) (t : Nat) (e k by_ : outParam Nat) (z : outParam Value) : Prop where
  und : P.underlying t = some (.slice e)
  inf : (P.info? e).map (fun i => (i.zero, i.size, i.bytes)) = some (some z, k, by_)
  zs : z.cells.size = k
  pos : 0 < k
theorem El.info {t e k by_ : Nat} {z : Value} (h : El P t e k by_ z) : ∃ i, P.info? e = some i ∧ i.zero = some z ∧ i.size = k ∧ i.bytes = by_ := by
  have := h.inf
  cases hi : P.info? e with
  | none => rw [hi] at this; cases this
  | some i =>
    rw [hi] at this
    simp only [Option.map_some, Option.some.injEq, Prod.mk.injEq] at this
    exact ⟨i, rfl, this.1, this.2.1, this.2.2⟩
theorem St.row (s : St C n D H E M R a w) {i : Nat} {r r' : Rw} {w' : World} (hi : R[i]? = some r) (hg : w.grownBy w' r.v.ownBlock) (hrow : w'.ownsRow 0 r'.T r'.k r'.v r'.m r'.cs) (hat : r'.v.ownBlock = r.v.ownBlock ∨ r'.v.ownBlock = some w.heap.size) (hdr : w.drawn ≤ w'.drawn := by exact Nat.le_refl _) : St C n D H E M (R.set i r') a w' := by
  have hr : r ∈ R := List.mem_of_getElem? hi
  have same : ∀ k, k < w.heap.size → r.v.ownBlock ≠ some k → w'.heap[k]? = w.heap[k]? := fun k hk hne => hg.block k hk (fun e => hne e.symm)
  have mem_ : ∀ q ∈ R.set i r', q = r' ∨ ∃ j, j ≠ i ∧ R[j]? = some q := fun q hq => by
    obtain ⟨j, hj⟩ := List.mem_iff_getElem?.1 hq
    rw [List.getElem?_set] at hj
    by_cases e : i = j
    · subst e
      have : i < R.length := (List.getElem?_eq_some_iff.1 hi).1
      simp [this] at hj
      exact .inl hj.symm
    · rw [if_neg e] at hj
      exact .inr ⟨j, Ne.symm e, hj⟩
  have apart_ : ∀ j (q : Rw), j ≠ i → R[j]? = some q → (∀ g, q.v.ownBlock = some g → r.v.ownBlock ≠ some g) := fun j q hne hj g h1 h2 => by
    obtain ⟨ji, je⟩ := List.getElem?_eq_some_iff.1 hj
    obtain ⟨ii, ie⟩ := List.getElem?_eq_some_iff.1 hi
    have pw := List.pairwise_iff_getElem.1 s.rnod
    rcases Nat.lt_or_gt_of_ne hne with h | h
    · have := pw j i ji ii h g (by rw [je]; exact h1)
      rw [ie] at this; exact this h2
    · have := pw i j ii ji h g (by rw [ie]; exact h2)
      rw [je] at this; exact this h1
  have lt_ : ∀ j (q : Rw), R[j]? = some q → ∀ g, q.v.ownBlock = some g → g < w.heap.size := fun j q hj g hg => (row_lt (s.rows q (List.mem_of_getElem? hj)) hg).2
  have new_ : ∀ g, r'.v.ownBlock = some g → r.v.ownBlock = some g ∨ g = w.heap.size := fun g h => by
    rcases hat with h1 | h1
    · exact .inl (h1 ▸ h)
    · rw [h1] at h; exact .inr (Option.some.inj h).symm
  refine ⟨s.fits, s.defs, ⟨hg.os.trans s.kept.os, hg.tape.trans s.kept.tape, hg.output.trans s.kept.output, Nat.le_trans s.kept.size hg.size, fun k hk hs => ?_, Nat.le_trans s.kept.drawn hdr⟩, fun q hq => ?_, s.own, s.nodup, fun k u hu => ?_, s.dis, s.gle, s.gnew, fun q hq => ?_, fun q hq g h => ?_, fun q hq g h => ?_, fun q hq p hp => ?_, ?_⟩
  · rw [same k (Nat.lt_of_lt_of_le hk s.kept.size) (fun e => by
      rcases s.rown r hr k e with h1 | h1
      · exact absurd hk (Nat.not_lt.2 h1)
      · exact hs h1)]
    exact s.kept.block k hk hs
  · rw [same q.1 (s.lt hq) (fun e => s.rmem r hr q hq e)]; exact s.mem q hq
  · rw [same k (s.glt hu) (fun e => by rw [s.rgh r hr k e] at hu; cases hu)]; exact s.gin k u hu
  · rcases mem_ q hq with rfl | ⟨j, hne, hj⟩
    · exact hrow
    · exact row_move (s.rows q (List.mem_of_getElem? hj)) (fun k hk => same k (lt_ j q hj k hk) (fun e => apart_ j q hne hj k hk e))
  · rcases mem_ q hq with rfl | ⟨j, hne, hj⟩
    · rcases new_ g h with h1 | h1
      · exact s.rown r hr g h1
      · subst h1; exact .inl s.kept.size
    · exact s.rown q (List.mem_of_getElem? hj) g h
  · rcases mem_ q hq with rfl | ⟨j, hne, hj⟩
    · rcases new_ g h with h1 | h1
      · exact s.rgh r hr g h1
      · cases hH : H g with
        | none => rfl
        | some u => have := s.glt hH; omega
    · exact s.rgh q (List.mem_of_getElem? hj) g h
  · rcases mem_ q hq with rfl | ⟨j, hne, hj⟩
    · intro e
      rcases new_ _ e with h1 | h1
      · exact s.rmem r hr p hp h1
      · have := s.lt hp; omega
    · exact s.rmem q (List.mem_of_getElem? hj) p hp
  · refine List.pairwise_iff_getElem.2 fun x y hx hy hxy g h1 h2 => ?_
    rw [List.getElem_set] at h1 h2
    simp only [List.length_set] at hx hy
    by_cases e : i = x
    · subst e
      rw [if_pos rfl] at h1
      rw [if_neg (by omega)] at h2
      have hj : R[y]? = some R[y] := List.getElem?_eq_getElem hy
      rcases new_ g h1 with h3 | h3
      · exact apart_ y _ (by omega) hj g h2 h3
      · have := lt_ y _ hj g h2; omega
    · rw [if_neg e] at h1
      have hj : R[x]? = some R[x] := List.getElem?_eq_getElem hx
      by_cases e' : i = y
      · subst e'
        rw [if_pos rfl] at h2
        rcases new_ g h2 with h3 | h3
        · exact apart_ x _ (fun h => e h.symm) hj g h1 h3
        · have := lt_ x _ hj g h1; omega
      · rw [if_neg e'] at h2
        exact (List.pairwise_iff_getElem.1 s.rnod) x y hx hy hxy g h1 h2
abbrev LR {α : Type} (A : Option Addr) (m c T k : Nat) (enc : α → List Value) (L : List α) : Rw := ⟨.slice A m c, T, k, m, L.flatMap enc⟩
theorem k_nilrow {α : Type} (T k : Nat) (enc : α → List Value) (h : RK K C n D H E M (LR none 0 0 T k enc [] :: R)) : RK K C n D H E M R := fun a w s => h a w
  { s with
    rows := fun r hr => by
      rcases List.mem_cons.1 hr with rfl | hr
      · exact World.ownsRow_nil _ _ _ _
      · exact s.rows r hr
    rown := fun r hr g h => by
      rcases List.mem_cons.1 hr with rfl | hr
      · simp [Value.ownBlock] at h
      · exact s.rown r hr g h
    rgh := fun r hr g h => by
      rcases List.mem_cons.1 hr with rfl | hr
      · simp [Value.ownBlock] at h
      · exact s.rgh r hr g h
    rmem := fun r hr q hq h => by
      rcases List.mem_cons.1 hr with rfl | hr
      · simp [Value.ownBlock] at h
      · exact s.rmem r hr q hq h
    rnod := List.pairwise_cons.2 ⟨fun r _ g h => by simp [Value.ownBlock] at h, s.rnod⟩ }
theorem owns_slice {w : World} {base e k m : Nat} {v : Value} {xs : List Value} (h : w.ownsRow base e k v m xs) : ∃ A c, v = .slice A m c := by
  rcases h.2 with ⟨rfl, rfl⟩ | ⟨g, cap, cur, rfl, _⟩
  · exact ⟨_, _, rfl⟩
  · exact ⟨_, _, rfl⟩
theorem flat_length {α : Type} (enc : α → List Value) (k : Nat) (hk : ∀ x, (enc x).length = k) (L : List α) : (L.flatMap enc).length = L.length * k := by
  induction L with
  | nil => simp
  | cons x L ih => rw [List.flatMap_cons, List.length_append, hk, ih, List.length_cons, Nat.succ_mul, Nat.add_comm]
theorem ownBlock_slice (A : Option Addr) (m m' c : Nat) : (Value.slice A m c).ownBlock = (Value.slice A m' c).ownBlock := by cases A <;> rfl
theorem x_app {α : Type} {t e k' by_ : Nat} {z : Value} {A : Option Addr} {c T k : Nat} {enc : α → List Value} {L : List α} (i : Nat) (N : List α) {x y : Operand} {ad : Addr} {m c' : Nat} {ty : TypeId} {pos : String} {af : Array Edge} [he : El P t e k' by_ z] (hi : R[i]? = some (LR A L.length c T k enc L)) (hx : Ev E true x (.slice A L.length c)) (hy : Ev E true y (.slice (some ad) m c')) (hm : N.length = m) (hT : T = e) (hk : k = k') (hke : ∀ x, (enc x).length = k) (hn : Nat.blt d n = true)
    (h1 : ∀ x, ∀ u ∈ enc x, u.oneCell' = true) (hcells : ∀ w, Holds M w → H.In w → ∀ j u, (N.flatMap enc)[j]? = some u → w.cell? (ad.add j) = some u) (hb : (L.length + m) * by_ ≤ 140737488355328) (hb' : L.length + m ≤ 140737488355328)
    (h : ∀ A' c', RK K C n D H ((d, true, .slice A' (L ++ N).length c') :: E) M (R.set i (LR A' (L ++ N).length c' T k enc (L ++ N)))) : RK (SX P ops Q ⟨some d, .call { callee := .builtin .append, args := #[x, y], argTypes := #[t, t] }, ty, pos, af, none⟩ K) C n D H E M R := fun a w s => by
  subst hT; subst hk; subst hm
  obtain ⟨inf, hi1, hi2, hi3, hi4⟩ := he.info
  have hr := s.rows _ (List.mem_of_getElem? hi)
  obtain ⟨v', w', r1, r2, r3, r4, r5⟩ := run_append_own_at (P := P) w 0 t ty T inf z k by_ he.und hi1 hi2 hi3 hi4 he.zs he.pos _ _ _ hr ad N.length c' (N.flatMap enc) (flat_length enc k hke N) (hcells w s.mem s.gin) (fun u hu => by
    obtain ⟨x, _, hx⟩ := List.mem_flatMap.1 hu
    exact h1 x u hx) (by simp only [maxLen]; omega) hb (Nat.zero_le _)
  obtain ⟨A', c'', rfl⟩ := owns_slice r2
  have hs := s.row (r' := LR A' (L ++ N).length c'' T k enc (L ++ N)) hi r3 (by simpa using r2) (by rw [show (LR A' (L ++ N).length c'' T k enc (L ++ N)).v.ownBlock = (Value.slice A' (L.length + N.length) c'').ownBlock from ownBlock_slice _ _ _ _]; exact r5) (run_drawn _ _ r1)
  unfold SX
  rw [if_pos (by simp [Region.wanted])]
  unfold Oper.wp
  have e1 : (execOp a.eval ⟨some d, .call { callee := .builtin .append, args := #[x, y], argTypes := #[t, t] }, ty, pos, af, none⟩).run P w = .ok (.value (.slice A' (L.length + N.length) c'')) w' := by
    simp only [execOp, resolve, invoke, builtin, Sem.run_bind, Sem.run_pure, Result.andThen_ok, List.map_toArray, List.map_cons, List.map_nil, s.fits.ev hx rfl, s.fits.ev hy rfl, r1]
  rw [e1]
  show K (a.put (some d) _) w'
  refine h A' c'' _ _ (hs.put hn ?_)
  simp
theorem x_bs {t e k by_ len : Nat} {z : Value} {ps : List (Nat × Operand)} (vs : List (Nat × Value)) (cells : List Value) {ty : TypeId} {pos : String} {af : Array Edge} [he : El P t e k by_ z] (hf : Instr.fill (fun i => some (i * k, k)) ((Array.range (len * k)).map (z.cells[· % z.cells.size]!)) vs = some cells.toArray) (hx : ∀ q ∈ ps.zip vs, ev E q.1.2 = some (true, q.2.2) ∧ q.1.1 = q.2.1) (hl : ps.length = vs.length := by rfl) (hsmall : Nat.ble (len * k) 16777216 = true := by rfl) (hn : Nat.blt d n = true := by rfl)
    (k' : ∀ g, C.w0.heap.size ≤ g → RK K C n D H ((d, true, .slice (some ⟨g, 0, none⟩) len len) :: E) ((g, .cells cells.toArray e (0, 0)) :: M) R) : RK (SX P ops Q ⟨some d, .buildSlice t len ps.toArray, ty, pos, af, none⟩ K) C n D H E M R :=
  x_new (f := fun g => .slice (some ⟨g, 0, none⟩) len len) rfl rfl hn (fun a w s => by
    obtain ⟨ie, hi1, hi2, hi3, hi4⟩ := he.info
    have hp : (ps.toArray.map fun q => (q.1, a.eval q.2)) = vs.toArray := by
      rw [List.map_toArray]
      congr 1
      apply List.ext_getElem (by simp [hl])
      intro i h1 h2
      have h3 : i < ps.length := by simpa using h1
      obtain ⟨h4, h5⟩ := hx (ps[i], vs[i]) (List.mem_iff_getElem.2 ⟨i, by simp; omega, by simp⟩)
      simp only [List.getElem_map]
      rw [s.ev (e1 (b := true) h4) rfl, h5]
    have hs := Nat.le_of_ble_eq_true hsmall
    have hr : (Instr.buildSlice t len vs.toArray).run P w = .ok (.slice (some ⟨w.heap.size, 0, none⟩) len len) (w.alloc (.cells cells.toArray e)) := by
      by_cases h0 : len * k = 0
      · have hf' := hf
        rw [h0, show Array.range 0 = #[] from rfl, Array.map_empty] at hf'
        simp only [Instr.buildSlice, run_underlying he.und, sizeOf, typeInfo, Sem.run_bind, Result.andThen_ok, run_program, hi1, Sem.run_pure, hi3, h0]
        simp only [show Array.range 0 = #[] from rfl, Array.map_empty, hf']
        simp [newRow]
      · exact run_buildSlice w t e len _ _ ie z he.und hi1 hi2 (by rw [hi3]; omega) (by rw [hi3]; exact h0) (by rw [hi3]; exact hf)
    show ((do pure (.value (← Instr.buildSlice t len (ps.toArray.map fun q => (q.1, a.eval q.2))))) : Sem Next).run P w = _
    rw [hp]
    simp only [Sem.run_bind, hr, Result.andThen_ok, Sem.run_pure]) k'
theorem cells_add {w : World} {g off j : Nat} {cs : Array Value} {T : TypeId} {fr : Nat × Nat} (h : w.heap[g]? = some (.cells cs T fr)) : w.cell? ((⟨g, off, none⟩ : Addr).add j) = cs[off + j]? := by rw [add_at]; exact cell_blk h _
theorem x_app1 {α : Type} {t e k' by_ : Nat} {z : Value} {A : Option Addr} {c T k : Nat} {enc : α → List Value} {L : List α} (i q : Nat) (N : List α) {x y : Operand} {g m m0 c' : Nat} {cs : List Value} {T' : TypeId} {ty : TypeId} {pos : String} {af : Array Edge} [he : El P t e k' by_ z] (h : ∀ A' c', RK K C n D H ((d, true, .slice A' (L ++ N).length c') :: E) M (R.set i (LR A' (L ++ N).length c' T k enc (L ++ N))))
    (hi : R[i]? = some (LR A m0 c T k enc L) := by rfl) (hm0 : m0 = L.length := by first | rfl | (simp; done)) (hx : ev E x = some (true, .slice A m0 c) := by rfl) (hy : ev E y = some (true, .slice (some ⟨g, 0, none⟩) m c') := by rfl) (hq : M[q]? = some (g, .cells cs.toArray T' (0, 0)) := by rfl) (hcs : cs = N.flatMap enc := by rfl) (hm : N.length = m := by rfl) (hb : (L.length + m) * by_ ≤ 140737488355328 := by first | omega | (simp only [List.length_nil, List.length_append, List.length_cons] at *; omega)) (hb' : L.length + m ≤ 140737488355328 := by first | omega | (simp only [List.length_nil, List.length_append, List.length_cons] at *; omega)) (hT : T = e := by rfl) (hk : k = k' := by rfl) (hke : ∀ x, (enc x).length = k := by exact fun _ => rfl) (h1 : ∀ x, (enc x).all (·.oneCell') = true := by exact fun _ => rfl) (hn : Nat.blt d n = true := by rfl) :
    RK (SX P ops Q ⟨some d, .call { callee := .builtin .append, args := #[x, y], argTypes := #[t, t] }, ty, pos, af, none⟩ K) C n D H E M R := by
  subst hm0
  exact x_app i N hi (e1 hx) (e1 hy) hm hT hk hke hn (fun x u hu => List.all_eq_true.1 (h1 x) u hu) (fun w hM _ j u hu => by
    rw [cells_add (hM _ (List.mem_of_getElem? hq)), ← hu, hcs]
    simp) hb hb' h
theorem run_app0 {t e k by_ : Nat} {z : Value} {A B : Option Addr} {m c c' : Nat} {ty : TypeId} [he : El P t e k by_ z] (hmc : m ≤ c) (w : World) : (Builtin.append_ #[t, t] ty #[.slice A m c, .slice B 0 c']).run P w = .ok (.slice A m c) w := by
  obtain ⟨inf, hi1, hi2, hi3, hi4⟩ := he.info
  have hf : (Builtin.firstCells k 0 (.slice B 0 c')).run P w = .ok #[] w := by
    cases B with
    | none => rfl
    | some b => simp [Builtin.firstCells, loadCells, loadCellsFrom]
  cases A <;> simp [Builtin.append_, run_underlying he.und, sizeOf, typeInfo, hi1, hi3, Builtin.lenOf, hmc, hf, storeCells]
theorem x_appg {α : Type} {t e k' by_ : Nat} {z : Value} {A B : Option Addr} {c T k : Nat} {enc : α → List Value} {L N : List α} (i : Nat) {x y : Operand} {m m0 c' : Nat} {ty : TypeId} {pos : String} {af : Array Edge} [he : El P t e k' by_ z] (hg : GRow H B c' enc k N) (h : ∀ A' c', RK K C n D H ((d, true, .slice A' (L ++ N).length c') :: E) M (R.set i (LR A' (L ++ N).length c' T k enc (L ++ N))))
    (hi : R[i]? = some (LR A m0 c T k enc L) := by rfl) (hm0 : m0 = L.length := by first | rfl | (simp; done)) (hx : ev E x = some (true, .slice A m0 c) := by rfl) (hy : ev E y = some (true, .slice B m c') := by rfl) (hm : N.length = m := by rfl) (hb : (L.length + m) * by_ ≤ 140737488355328 := by first | omega | (simp only [List.length_nil, List.length_append, List.length_cons] at *; omega)) (hb' : L.length + m ≤ 140737488355328 := by first | omega | (simp only [List.length_nil, List.length_append, List.length_cons] at *; omega)) (hT : T = e := by rfl) (hk : k = k' := by rfl) (hke : ∀ x, (enc x).length = k := by exact fun _ => rfl) (h1 : ∀ x, (enc x).all (·.oneCell') = true := by exact fun _ => rfl) (hn : Nat.blt d n = true := by rfl) :
    RK (SX P ops Q ⟨some d, .call { callee := .builtin .append, args := #[x, y], argTypes := #[t, t] }, ty, pos, af, none⟩ K) C n D H E M R := by
  subst hk; subst hm0
  by_cases h0 : N = []
  · subst h0; subst hm
    intro a w s
    have hr := s.rows _ (List.mem_of_getElem? hi)
    have hmc : L.length ≤ c := by
      rcases hr.2 with ⟨h, h'⟩ | ⟨g, cap, cur, h, _, _, h', _⟩
      · simp at h'; simp [h']
      · have e : (Value.slice A L.length c) = .slice (some ⟨g, 0, none⟩) L.length cap := h
        injection e with _ _ e; subst e; exact h'
    unfold SX
    rw [if_pos (by simp [Region.wanted])]
    unfold Oper.wp
    have e1 : (execOp a.eval ⟨some d, .call { callee := .builtin .append, args := #[x, y], argTypes := #[t, t] }, ty, pos, af, none⟩).run P w = .ok (.value (.slice A L.length c)) w := by
      simp only [execOp, resolve, invoke, builtin, Sem.run_bind, Sem.run_pure, Result.andThen_ok, List.map_toArray, List.map_cons, List.map_nil, s.fits.ev (e1 hx) rfl, s.fits.ev (e1 hy) rfl, List.length_nil, run_app0 hmc]
    rw [e1]
    show K (a.put (some d) _) w
    have h2 := h A c
    rw [List.append_nil] at h2
    have h3 : R.set i (LR A L.length c T k enc L) = R := by
      apply List.ext_getElem?
      intro j
      rw [List.getElem?_set]
      by_cases ej : i = j
      · subst ej
        have := (List.getElem?_eq_some_iff.1 hi).1
        simp only [this, if_true]; exact hi.symm
      · rw [if_neg ej]
    rw [h3] at h2
    exact h2 _ _ (s.put hn rfl)
  · obtain ⟨b, off, arr, T', fr, rfl, h2, h3⟩ := hg.2.2 (List.length_pos_iff.2 h0)
    refine x_app i N hi (e1 hx) (e1 hy) hm hT rfl hke hn (fun x u hu => List.all_eq_true.1 (h1 x) u hu) (fun w _ hH j u hu => ?_) hb hb' h
    have hcell : ∀ y, arr[off + y]? = some u → w.cell? ((⟨b, off, none⟩ : Addr).add y) = some u := fun y hy => by rw [add_at]; exact hH.cell h2 hy
    apply hcell
    have hj : j < (N.flatMap enc).length := (List.getElem?_eq_some_iff.1 hu).1
    rw [flat_length enc k hke] at hj
    have hk0 : 0 < k := he.pos
    have e3 : j / k * k + j % k = j := by rw [Nat.mul_comm]; exact Nat.div_add_mod j k
    have e4 : j / k < N.length := Nat.div_lt_of_lt_mul (by rw [Nat.mul_comm]; exact hj)
    have e5 : j % k < k := Nat.mod_lt _ hk0
    obtain ⟨z0, hz0⟩ : ∃ z0, N[j / k]? = some z0 := ⟨_, List.getElem?_eq_getElem e4⟩
    have e6 : (enc z0)[j % k]? = some u := by
      have h5 := take_flat enc k hke N (j / k) z0 e4
      have h6 : (N.getD (j / k) z0) = z0 := by simp [List.getD_eq_getElem?_getD, hz0]
      rw [h6] at h5
      rw [← h5, List.getElem?_take, if_pos e5, List.getElem?_drop, e3]
      exact hu
    have := h3 (j / k) z0 hz0 (j % k) u e6
    rwa [Nat.add_assoc, e3] at this
theorem row_some {A : Option Addr} {m c T k base : Nat} {cs : List Value} {w : World} (h : w.ownsRow base T k (.slice A m c) m cs) (hm : 0 < m) : ∃ g cur, A = some ⟨g, 0, none⟩ ∧ base ≤ g ∧ w.heap[g]? = some (.cells cur T (0, 0)) ∧ m ≤ c ∧ c ≤ maxLen ∧ cur.size = c * k ∧ cur.toList.take (m * k) = cs := by
  rcases h.2 with ⟨_, h0⟩ | ⟨g, cap, cur, h1, h2, h3, h4, h5, h6, h7⟩
  · omega
  · injection h1 with e1 e2 e3
    subst e3
    exact ⟨g, cur, e1, h2, h3, h4, h5, h6, h7⟩
theorem flat_at {α : Type} (enc : α → List Value) (k : Nat) (hk : ∀ x, (enc x).length = k) (L : List α) (z : α) {i j : Nat} (hi : i < L.length) (hj : j < k) : (L.flatMap enc)[i * k + j]? = (enc (L.getD i z))[j]? := by
  rw [← take_flat enc k hk L i z hi, List.getElem?_take, if_pos hj, List.getElem?_drop]
theorem row_grow {α : Type} {A : Option Addr} {c T k base m : Nat} {enc : α → List Value} (hk : ∀ x, (enc x).length = k) {L : List α} (hm : m = L.length) {w : World} (h : w.ownsRow base T k (.slice A m c) m (L.flatMap enc)) (h0 : 0 < m) {H : Gh} : ∃ g ob, A = some ⟨g, 0, none⟩ ∧ base ≤ g ∧ w.heap[g]? = some ob ∧ GRow (H.add g ob) A c enc k L := by
  obtain ⟨g, cur, rfl, h2, h3, h4, h5, h6, h7⟩ := row_some h h0
  refine ⟨g, _, rfl, h2, h3, by omega, by simp only [maxLen] at h5; omega, fun _ => ⟨g, 0, cur, T, (0, 0), rfl, Gh.add_same _ _ _, fun i x hx j u hu => ?_⟩⟩
  have hi : i < L.length := (List.getElem?_eq_some_iff.1 hx).1
  have hj : j < k := by rw [← hk x]; exact (List.getElem?_eq_some_iff.1 hu).1
  have e1 : (L.flatMap enc)[i * k + j]? = some u := by
    rw [flat_at enc k hk L x hi hj]
    rw [show L.getD i x = x by simp [List.getD_eq_getElem?_getD, hx]]
    exact hu
  rw [← h7, List.getElem?_take] at e1
  split at e1
  · rw [Nat.zero_add]; simpa using e1
  · cases e1
theorem row_zero {α : Type} {A : Option Addr} {c : Nat} {enc : α → List Value} {k m base T : Nat} {L : List α} (hm : m = L.length) {w : World} (h : w.ownsRow base T k (.slice A m c) m (L.flatMap enc)) (h0 : m = 0) (H : Gh) : GRow H A c enc k L := by
  refine ⟨by omega, ?_, fun h => by omega⟩
  rcases h.2 with ⟨e, _⟩ | ⟨g, cap, cur, e, _, _, _, h5, _⟩
  · injection e with _ _ e; subst e; omega
  · injection e with _ _ e; subst e; simp only [maxLen] at h5; omega
theorem k_frz {α : Type} {A : Option Addr} {m c T k : Nat} {enc : α → List Value} {L : List α} (i : Nat) (h : ∀ H', H.Le H' → GRow H' A c enc k L → RK K C n D H' E M (R.eraseIdx i)) (hi : R[i]? = some (LR A m c T k enc L) := by rfl) (hm : m = L.length := by first | rfl | (simp; done)) (hk : ∀ x, (enc x).length = k := by exact fun _ => rfl) : RK K C n D H E M R := fun a w s => by
  have hr := s.rows _ (List.mem_of_getElem? hi)
  have sub_ := List.eraseIdx_sublist R i
  have s' := s.forget (List.Sublist.refl M) sub_
  by_cases h0 : m = 0
  · exact h H (Gh.Le.refl _) (row_zero hm hr h0 H) a w s'
  · obtain ⟨g, ob, hA, h2, h3, h4⟩ := row_grow hk hm hr (by omega) (H := H)
    have hb : (LR A m c T k enc L).v.ownBlock = some g := by rw [hA]; rfl
    have hg0 : H g = none := s.rgh _ (List.mem_of_getElem? hi) g hb
    have hne : ∀ r ∈ R.eraseIdx i, r.v.ownBlock ≠ some g := fun r hr' e => by
      obtain ⟨j, hj, hne, rfl⟩ := List.mem_eraseIdx_iff_getElem.1 hr'
      obtain ⟨ii, ie⟩ := List.getElem?_eq_some_iff.1 hi
      have pw := List.pairwise_iff_getElem.1 s.rnod
      rcases Nat.lt_or_gt_of_ne hne with h | h
      · exact pw j i (by simpa using hj) ii h g e (by rw [ie]; exact hb)
      · exact pw i j ii (by simpa using hj) h g (by rw [ie]; exact hb) e
    refine h (H.add g ob) (Gh.le_add hg0 ob) h4 a w { s' with gin := fun b u hu => ?_, dis := fun q hq => ?_, gle := s.gle.trans (Gh.le_add hg0 ob), gnew := fun b hb' => ?_, rgh := fun r hr' k' hk' => ?_ }
    · unfold Gh.add at hu
      split at hu
      · rename_i e; subst e; injection hu with hu; subst hu; exact ⟨_, h3, .inl rfl⟩
      · exact s.gin b u hu
    · unfold Gh.add
      rw [if_neg (fun e => s.rmem _ (List.mem_of_getElem? hi) q hq (by rw [e]; exact hb))]
      exact s.dis q hq
    · by_cases e : b = g
      · subst e; exact .inr (s.rown _ (List.mem_of_getElem? hi) b hb)
      · unfold Gh.add at hb'; rw [if_neg e] at hb'; exact s.gnew b hb'
    · unfold Gh.add
      rw [if_neg (fun e => hne r hr' (by rw [← e]; exact hk'))]
      exact s'.rgh r hr' k' hk'
def Cw {α : Type} (P : Program) (f : FuncId) (args : List Value) (H : Gh) (T k : Nat) (enc : α → List Value) (m : Nat) (L : List α) (F : Option Addr → Nat → Value) : Prop :=
  ∀ w, H.In w → Calls P f args.toArray w fun e w' => ∃ A c, e = .returned (F A c) ∧ Kept [] w w' ∧ w'.ownsRow w.heap.size T k (.slice A m c) m (L.flatMap enc)
theorem St.newrow (s : St C n D H E M R a w) {r : Rw} {w' : World} (hk : Kept [] w w') (hr : w'.ownsRow w.heap.size r.T r.k r.v r.m r.cs) : St C n D H E M (r :: R) a w' := by
  have s1 := s.call hk (Gh.Le.refl _) (hk.gin s.gin) (Gh.New.refl _ _)
  have lt : ∀ g, r.v.ownBlock = some g → w.heap.size ≤ g := fun g h => (row_lt hr h).1
  exact { s1 with
    rows := fun q hq => by
      rcases List.mem_cons.1 hq with rfl | hq
      · refine ⟨hr.1, ?_⟩
        rcases hr.2 with h | ⟨g, cap, cur, h1, h2, h3⟩
        · exact .inl h
        · exact .inr ⟨g, cap, cur, h1, Nat.zero_le _, h3⟩
      · exact s1.rows q hq
    rown := fun q hq g h => by
      rcases List.mem_cons.1 hq with rfl | hq
      · exact .inl (Nat.le_trans s.kept.size (lt g h))
      · exact s1.rown q hq g h
    rgh := fun q hq g h => by
      rcases List.mem_cons.1 hq with rfl | hq
      · have h1 := lt g h
        cases hH : H g with
        | none => rfl
        | some u => have := s.glt hH; omega
      · exact s1.rgh q hq g h
    rmem := fun q hq p hp h => by
      rcases List.mem_cons.1 hq with rfl | hq
      · have h1 := lt _ h
        have := s.lt hp; omega
      · exact s1.rmem q hq p hp h
    rnod := List.pairwise_cons.2 ⟨fun q hq g h h' => by
      have h1 := lt g h
      have := (row_lt (s.rows q hq) h').2; omega, s1.rnod⟩ }
theorem lend {α : Type} {A : Option Addr} {m c T k : Nat} {enc : α → List Value} {L : List α} {i : Nat} (s : St C n D H E M R a w) (hi : R[i]? = some (LR A m c T k enc L)) (hm : m = L.length) (hk : ∀ x, (enc x).length = k) : ∃ H', H.Le H' ∧ H'.In w ∧ GRow H' A c enc k L := by
  have hr := s.rows _ (List.mem_of_getElem? hi)
  by_cases h0 : m = 0
  · exact ⟨H, Gh.Le.refl _, s.gin, row_zero hm hr h0 H⟩
  · obtain ⟨g, ob, hA, h2, h3, h4⟩ := row_grow hk hm hr (by omega) (H := H)
    have hb : (LR A m c T k enc L).v.ownBlock = some g := by rw [hA]; rfl
    have hg0 : H g = none := s.rgh _ (List.mem_of_getElem? hi) g hb
    refine ⟨H.add g ob, Gh.le_add hg0 ob, fun b u hu => ?_, h4⟩
    unfold Gh.add at hu
    split at hu
    · rename_i e; subst e; injection hu with hu; subst hu; exact ⟨_, h3, .inl rfl⟩
    · exact s.gin b u hu
section
variable {f : Nat} {xs : List Operand} {at_ : Array TypeId} {vs : List Value} {ty : TypeId} {pos : String} {af : Array Edge}
theorem wp_call (s : St C n D H E M R a w) [hen : En P f] (hx : Evl E true xs vs) {Kd : Act → World → Prop} (hc : Calls P f vs.toArray w fun e w' => ∃ v, e = .returned v ∧ Kd (a.put (some d) v) w') : SX P ops Q ⟨some d, .call { callee := .value (.func f), args := xs.toArray, argTypes := at_ }, ty, pos, af, none⟩ Kd a w := by
  unfold SX
  rw [if_pos (by simp [Region.wanted])]
  unfold Oper.wp
  rw [run_call hen.enters (s.fits.evl rfl hx) w, Oper.upon_enter]
  exact hc.mono fun e w' ⟨v, h1, h2⟩ => by subst h1; exact h2
theorem x_callw {α : Type} {T k m : Nat} {enc : α → List Value} {L : List α} {F : Option Addr → Nat → Value} [hen : En P f] (hc : Cw P f vs H T k enc m L F) (k' : ∀ A c, RK K C n D H ((d, true, F A c) :: E) M (LR A m c T k enc L :: R)) (hx : Evl E true xs vs := by exact evl_of rfl) (hn : Nat.blt d n = true := by rfl) : RK (SX P ops Q ⟨some d, .call { callee := .value (.func f), args := xs.toArray, argTypes := at_ }, ty, pos, af, none⟩ K) C n D H E M R := fun a w s =>
  wp_call s hx ((hc w s.gin).mono fun e w' ⟨A, c, h1, h2, h3⟩ => ⟨_, h1, k' A c _ _ ((s.newrow (r := LR A m c T k enc L) h2 h3).put hn rfl)⟩)
theorem x_callb {α : Type} {A : Option Addr} {m c T k : Nat} {enc : α → List Value} {L : List α} {u : Value} [hen : En P f] (i : Nat) (hc : ∀ H', H.Le H' → GRow H' A c enc k L → Cv P f vs H' (fun v => v = u)) (k' : RK K C n D H ((d, true, u) :: E) M R) (hi : R[i]? = some (LR A m c T k enc L) := by rfl) (hm : m = L.length := by first | rfl | (simp; done)) (hx : Evl E true xs vs := by exact evl_of rfl) (hk : ∀ x, (enc x).length = k := by exact fun _ => rfl) (hn : Nat.blt d n = true := by rfl) : RK (SX P ops Q ⟨some d, .call { callee := .value (.func f), args := xs.toArray, argTypes := at_ }, ty, pos, af, none⟩ K) C n D H E M R := fun a w s => by
  obtain ⟨H', h1, h2, h3⟩ := lend s hi hm hk
  exact wp_call s hx ((hc H' h1 h3 w h2).mono fun e w' ⟨v, e1, e2, e3⟩ => ⟨v, e1, k' _ _ ((s.call e2 (Gh.Le.refl _) (e2.gin s.gin) (Gh.New.refl _ _)).put hn e3)⟩)
theorem x_callwb {α β : Type} {A : Option Addr} {m m' c T k T' k₂ : Nat} {enc : α → List Value} {L : List α} {enc' : β → List Value} {L' : List β} {F : Option Addr → Nat → Value} [hen : En P f] (i : Nat) (hc : ∀ H', H.Le H' → GRow H' A c enc k L → Cw P f vs H' T' k₂ enc' m' L' F) (k' : ∀ A' c', RK K C n D H ((d, true, F A' c') :: E) M (LR A' m' c' T' k₂ enc' L' :: R)) (hi : R[i]? = some (LR A m c T k enc L) := by rfl) (hm : m = L.length := by first | rfl | (simp; done)) (hx : Evl E true xs vs := by exact evl_of rfl) (hk : ∀ x, (enc x).length = k := by exact fun _ => rfl) (hn : Nat.blt d n = true := by rfl) : RK (SX P ops Q ⟨some d, .call { callee := .value (.func f), args := xs.toArray, argTypes := at_ }, ty, pos, af, none⟩ K) C n D H E M R := fun a w s => by
  obtain ⟨H', h1, h2, h3⟩ := lend s hi hm hk
  exact wp_call s hx ((hc H' h1 h3 w h2).mono fun e w' ⟨A', c', e1, e2, e3⟩ => ⟨_, e1, k' A' c' _ _ ((s.newrow (r := LR A' m' c' T' k₂ enc' L') e2 e3).put hn rfl)⟩)
end
end Go.Proofs.YtoakoffdjeleoaaGreat
end
