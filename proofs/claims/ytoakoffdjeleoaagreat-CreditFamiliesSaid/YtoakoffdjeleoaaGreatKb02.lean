import Derived.Test.YtoakoffdjeleoaaGreatKb01
import Derived.Test.YtoakoffdjeleoaaGreatKb00
import Derived.RangeFuncLeaves
import Derived.RangeFuncRecord
import Derived.RangeFuncCalls
import Derived.RangeFuncSeq
import Derived.OrdersIn
import Derived.TacticsIn
import Derived.MapKept
set_option linter.unusedVariables false
set_option linter.unusedSimpArgs false
set_option linter.unusedSectionVars false
section
namespace Go.Proofs.YtoakoffdjeleoaaGreat
open Go.RowKit Go.Shelf
variable {P : Program} {ops : Array Oper} {Q : Exit → Act → World → Prop} {K : Act → World → Prop} {C : Cx} {n : Nat} {D : List Deferred} {H : Gh} {E : Env} {M : List (Nat × Obj)} {R : List Rw} {a : Act} {w : World} {l : List Oper} {o : Oper} {d : Nat} {b : Bool} {v : Value}
theorem x_val {op : Op} {ty : TypeId} {pos : String} {af : Array Edge} (hn : Nat.blt d n = true) (h : ∀ a w, St C n D H E M R a w → ∃ v, (execOp a.eval ⟨some d, op, ty, pos, af, none⟩).run P w = .ok (.value v) w ∧ K (a.put (some d) v) w) : RK (SX P ops Q ⟨some d, op, ty, pos, af, none⟩ K) C n D H E M R := fun a w s => by
  obtain ⟨v, h1, h2⟩ := h a w s
  unfold SX
  rw [if_pos (by simp [Region.wanted])]
  unfold Oper.wp
  rw [h1]
  exact h2
section
variable {α : Type} {A : Option Addr} {m c T k : Nat} {enc : α → List Value} {L : List α} {ty : TypeId} {pos : String} {af : Array Edge} {x y : Operand}
theorem x_rix {t e k' : Nat} {q : Int} {qk : IntKind} (i j : Nat) [ht : Sl P t e] [hs : Sz P e k'] (h : ∀ g, A = some ⟨g, 0, none⟩ → RK K C n D H ((d, true, .pointer (some ⟨g, 0 + j * k', none⟩)) :: E) M R) (hx : ev E x = some (true, .slice A m c) := by rfl) (hy : ev E y = some (true, .int qk q) := by rfl) (hi : R[i]? = some (LR A m c T k enc L) := by rfl) (hj : q.toNat = j := by rfl) (hin : 0 ≤ q ∧ q < (m : Int) := by omega) (hn : Nat.blt d n = true := by rfl) :
    RK (SX P ops Q ⟨some d, .indexAddr t x y, ty, pos, af, none⟩ K) C n D H E M R := x_val hn fun a w s => by
  obtain ⟨g, cur, hA, _⟩ := row_some (s.rows _ (List.mem_of_getElem? hi)) (by omega)
  subst hj
  refine ⟨.pointer (some ⟨g, 0 + q.toNat * k', none⟩), ?_, h g hA _ _ (s.put hn rfl)⟩
  have h1 := s.fits.ev (e1 (b := true) hx) rfl
  rw [hA] at h1
  simp only [execOp, h1, s.fits.ev (e1 (b := true) hy) rfl, Sem.run_bind, index_run (c := c) (p := g) (off := 0) (q := qk) (m := m) ht.und hs.run hin.1 hin.2 w, Result.andThen_ok, Sem.run_pure]
theorem row_cell {g : Nat} {w : World} (s : St C n D H E M R a w) {i : Nat} (hi : R[i]? = some (LR A m c T k enc L)) (hA : A = some ⟨g, 0, none⟩) (hm : m = L.length) (hk : ∀ x, (enc x).length = k) (z : α) {q j : Nat} (hq : q < L.length) {u : Value} (hu : (enc (L.getD q z))[j]? = some u) : w.cell? ⟨g, q * k + j, none⟩ = some u := by
  obtain ⟨g', cur, h1, h2, h3, h4, h5, h6, h7⟩ := row_some (s.rows _ (List.mem_of_getElem? hi)) (by omega)
  have hg : g' = g := by rw [hA] at h1; injection h1 with h1; injection h1 with h1; exact h1.symm
  subst hg
  change cur.toList.take (m * k) = L.flatMap enc at h7
  have hj : j < k := by rw [← hk (L.getD q z)]; exact (List.getElem?_eq_some_iff.1 hu).1
  rw [cell_blk h3]
  have e1 : (L.flatMap enc)[q * k + j]? = some u := by rw [flat_at enc k hk L z hq hj]; exact hu
  rw [← h7, List.getElem?_take] at e1
  split at e1
  · simpa using e1
  · cases e1
theorem x_rl {t g p : Nat} (i q j : Nat) (z : α) (hA : A = some ⟨g, 0, none⟩) [hs : Sc P t] (h : RK K C n D H ((d, true, v) :: E) M R) (hx : ev E x = some (true, .pointer (some ⟨g, p, none⟩)) := by rfl) (hi : R[i]? = some (LR A m c T k enc L) := by rfl) (hq : q < L.length := by omega) (hv : (enc (L.getD q z))[j]? = some v := by rfl) (hp : p = q * k + j := by omega) (hm : m = L.length := by first | rfl | (simp; done)) (hk : ∀ x, (enc x).length = k := by exact fun _ => rfl) (hn : Nat.blt d n = true := by rfl) :
    RK (SX P ops Q ⟨some d, .load t x, ty, pos, af, none⟩ K) C n D H E M R := x_val hn fun a w s => by
  refine ⟨v, ?_, h _ _ (s.put hn rfl)⟩
  have h1 := run_load1 (v := v) hs (g := g) (j := p) (w := w) (by rw [hp]; exact row_cell s hi hA hm hk z hq hv)
  simp only [execOp, s.fits.ev (e1 (b := true) hx) rfl, Sem.run_bind, h1, Result.andThen_ok, Sem.run_pure]
theorem x_rlk {t g p k' : Nat} (i q j : Nat) (z : α) (us : List Value) (hA : A = some ⟨g, 0, none⟩) [hs : Ag P t k'] (h : RK K C n D H ((d, true, .agg us.toArray) :: E) M R) (hl : us.length = k' := by rfl) (hx : ev E x = some (true, .pointer (some ⟨g, p, none⟩)) := by rfl) (hi : R[i]? = some (LR A m c T k enc L) := by rfl) (hq : q < L.length := by omega) (hv : ((enc (L.getD q z)).drop j).take k' = us := by rfl) (hp : p = q * k + j := by omega) (hm : m = L.length := by first | rfl | (simp; done)) (hk : ∀ x, (enc x).length = k := by exact fun _ => rfl) (hn : Nat.blt d n = true := by rfl) :
    RK (SX P ops Q ⟨some d, .load t x, ty, pos, af, none⟩ K) C n D H E M R := x_val hn fun a w s => by
  refine ⟨.agg us.toArray, ?_, h _ _ (s.put hn rfl)⟩
  have h1 := run_loadK hs (g := g) (j := p) (w := w) (cs := us) hl (fun y u hu => by
    subst hv
    rw [List.getElem?_take] at hu
    split at hu
    · rw [hp, Nat.add_assoc]
      exact row_cell s hi hA hm hk z hq (by simpa [List.getElem?_drop] using hu)
    · cases hu)
  simp only [execOp, s.fits.ev (e1 (b := true) hx) rfl, Sem.run_bind, h1, Result.andThen_ok, Sem.run_pure]
theorem flat_set (enc : α → List Value) (k : Nat) (hk : ∀ x, (enc x).length = k) (L : List α) (z x' : α) (us : List Value) {q j : Nat} (hq : q < L.length) (hj : j + us.length ≤ k) (h : (enc (L.getD q z)).take j ++ us ++ (enc (L.getD q z)).drop (j + us.length) = enc x') :
    (L.flatMap enc).take (q * k + j) ++ us ++ (L.flatMap enc).drop (q * k + j + us.length) = (L.set q x').flatMap enc := by
  induction L generalizing q with
  | nil => simp at hq
  | cons y L ih =>
    cases q with
    | zero =>
      simp only [List.getD_cons_zero] at h
      rw [List.set_cons_zero, List.flatMap_cons, List.flatMap_cons, ← h, Nat.zero_mul, Nat.zero_add]
      rw [List.take_append_of_le_length (by rw [hk]; omega), List.drop_append_of_le_length (by rw [hk]; omega)]
      simp
    | succ q =>
      simp only [List.getD_cons_succ] at h
      rw [List.set_cons_succ, List.flatMap_cons, List.flatMap_cons, ← ih (by simpa using hq) h]
      have e1 : (q + 1) * k + j = (enc y).length + (q * k + j) := by rw [hk, Nat.succ_mul]; omega
      rw [e1, List.take_length_add_append, Nat.add_assoc, List.drop_length_add_append]
      simp
theorem x_rst {t g p k' : Nat} (i q j : Nat) (z : α) (x' : α) (us : List Value) (hA : A = some ⟨g, 0, none⟩) [hsz : Sz P t k'] (h : RK K C n D H E M (R.set i (LR A m c T k enc (L.set q x')))) (hx : ev E x = some (true, .pointer (some ⟨g, p, none⟩)) := by rfl) (hy : ev E y = some (true, v) := by rfl) (hl : us.length = k' := by rfl) (hv : v.cells = us.toArray := by rfl) (h1 : us.all (·.oneCell') = true := by rfl) (hi : R[i]? = some (LR A m c T k enc L) := by rfl) (hj : Nat.ble (j + us.length) k = true := by rfl) (hq : q < L.length := by omega) (hx' : (enc (L.getD q z)).take j ++ us ++ (enc (L.getD q z)).drop (j + us.length) = enc x' := by rfl) (hp : p = q * k + j := by omega) (hm : m = L.length := by first | rfl | (simp; done)) (hk : ∀ x, (enc x).length = k := by exact fun _ => rfl) :
    RK (SX P ops Q ⟨none, .store t x y, ty, pos, af, none⟩ K) C n D H E M R := fun a w s => by
  have hr := s.rows _ (List.mem_of_getElem? hi)
  obtain ⟨g', cur, e1', h2, h3, h4, h5, h6, h7⟩ := row_some hr (by omega)
  have hg : g' = g := by rw [hA] at e1'; injection e1' with e1'; injection e1' with e1'; exact e1'.symm
  subst hg
  change cur.toList.take (m * k) = L.flatMap enc at h7
  subst hl
  change cur.size = c * k at h6
  have hj' := Nat.le_of_ble_eq_true hj
  have hcl : (q + 1) * k ≤ m * k := Nat.mul_le_mul_right _ (by omega)
  have hcl2 : m * k ≤ c * k := Nat.mul_le_mul_right _ h4
  have hsm : (q + 1) * k = q * k + k := Nat.succ_mul _ _
  have hst := run_storeCells_at P g' p T us 0 cur w h3 (by rw [h6]; omega) (fun u hu => List.all_eq_true.1 h1 u hu)
  have hrun : (Instr.storeAt t (.pointer (some ⟨g', p, none⟩)) v).run P w = .ok () (w.setRow g' (cur.toList.take p ++ us ++ cur.toList.drop (p + us.length)).toArray) := by
    simp only [Instr.storeAt, Instr.sureAddr, storeVar, Sem.run_bind, Sem.run_pure, Result.andThen_ok, hsz.run w, hv, List.size_toArray, ne_eq, not_true_eq_false, if_false]
    rw [hst]
    simp only [Nat.add_zero]
  unfold SX
  rw [if_pos (by simp [Region.wanted])]
  unfold Oper.wp
  simp only [execOp, s.fits.ev (e1 (b := true) hx) rfl, s.fits.ev (e1 (b := true) hy) rfl, Sem.run_bind, hrun, Result.andThen_ok, Sem.run_pure]
  show K (a.put none undef) _
  have hb : (LR A m c T k enc L).v.ownBlock = some g' := by rw [hA]; rfl
  have hheap : (w.setRow g' (cur.toList.take p ++ us ++ cur.toList.drop (p + us.length)).toArray).heap[g']? = some (.cells (cur.toList.take p ++ us ++ cur.toList.drop (p + us.length)).toArray T (0, 0)) := by
    simp only [World.setRow, Array.getElem?_modify, if_true]
    rw [h3]; rfl
  refine h _ _ (s.row hi (r' := LR A m c T k enc (L.set q x')) ?_ ?_ (.inl rfl))
  · rw [hb]
    refine ⟨rfl, rfl, rfl, by simp [World.setRow], fun k' _ hk' => ?_⟩
    simp only [World.setRow, Array.getElem?_modify]
    rw [if_neg (fun e => hk' (by rw [e]))]
  · refine ⟨?_, .inr ⟨g', c, (cur.toList.take p ++ us ++ cur.toList.drop (p + us.length)).toArray, by rw [hA], h2, hheap, h4, h5, ?_, ?_⟩⟩
    · show ((L.set q x').flatMap enc).length = m * k
      rw [flat_length enc k hk, List.length_set, hm]
    · simp [h6]; omega
    · show List.take (m * k) (cur.toList.take p ++ us ++ cur.toList.drop (p + us.length)) = (L.set q x').flatMap enc
      rw [← flat_set enc k hk L z x' us hq hj' hx', ← h7, hp]
      rw [List.take_append, List.take_append, List.length_append, List.length_take, Array.length_toList, h6]
      rw [show min (q * k + j) (c * k) = q * k + j by omega]
      rw [List.take_take, show min (m * k) (q * k + j) = q * k + j by omega, List.take_take, show min (q * k + j) (m * k) = q * k + j by omega]
      rw [List.take_of_length_le (l := us) (by omega), List.drop_take]
end
theorem grow_at {α : Type} {A : Option Addr} {g c k : Nat} {enc : α → List Value} {L : List α} (h : GRow H A c enc k L) (hA : A = some ⟨g, 0, none⟩) (q : Nat) (z : α) (hq : q < L.length) : GAt H g (q * k) (enc (L.getD q z)) := by
  obtain ⟨b, off, arr, T, fr, e, h2, h3⟩ := h.2.2 (by omega)
  rw [hA] at e
  injection e with e; injection e with e1 e2
  subst e1; subst e2
  refine ⟨arr, T, fr, h2, fun j u hu => ?_⟩
  have := h3 q (L.getD q z) (by simp [List.getD_eq_getElem?_getD, List.getElem?_eq_getElem hq]) j u hu
  rwa [Nat.zero_add] at this
theorem c_drawl {α : Type} {A : Option Addr} {m c T k : Nat} {enc : α → List Value} {L : List α} {ii : Nat} (L0 : List (Nat × Nat × Obj)) (i : Nat) {l : List Oper} [hmx : Mixed P] (h : ∀ H', H.Le H' → GRow H' A c enc k L → (∀ (H₁ : Gh) (R₁ : List Rw) (j : Nat), H.Le H₁ → R₁[j]? = some (LR A m c T k enc L) → Tells H' H₁ R₁) → RK (wpG P l.toArray Q L0 H' l.length (Array.replicate l.length false)) C n D H E M R) (hi : R[i]? = some (LR A m c T k enc L) := by rfl) (hm : m = L.length := by first | rfl | (simp; done)) (hk : ∀ x, (enc x).length = k := by exact fun _ => rfl) : RK ((Code.region ii l.toArray true).wp P Q) C n D H E M R := fun a w s => by
  have hr := s.rows _ (List.mem_of_getElem? hi)
  by_cases h0 : m = 0
  · exact c_draw L0 H (h H (Gh.Le.refl _) (row_zero hm hr h0 H) (fun H₁ R₁ j h1 _ => te h1)) a w s
  · obtain ⟨g, cur, hA, h2, h3, h4, h5, h6, h7⟩ := row_some hr (by omega)
    have hb : (LR A m c T k enc L).v.ownBlock = some g := by rw [hA]; rfl
    have hg0 : H g = none := s.rgh _ (List.mem_of_getElem? hi) g hb
    refine c_draw L0 (H.add g (.cells (L.flatMap enc).toArray T (0, 0))) (h _ (Gh.le_add hg0 _) ?_ ?_) a w s
    · refine ⟨by omega, by simp only [maxLen] at h5; omega, fun _ => ⟨g, 0, _, T, (0, 0), hA, Gh.add_same _ _ _, fun q x hx j u hu => ?_⟩⟩
      have hq : q < L.length := (List.getElem?_eq_some_iff.1 hx).1
      have hj : j < k := by rw [← hk x]; exact (List.getElem?_eq_some_iff.1 hu).1
      rw [Nat.zero_add]
      have := flat_at enc k hk L x hq hj
      rw [show L.getD q x = x by simp [List.getD_eq_getElem?_getD, hx]] at this
      simpa [this] using hu
    · intro H₁ R₁ j h1 hj C' n' D' E' M' a' w' s'
      intro b u hu
      unfold Gh.add at hu
      split at hu
      · rename_i e
        subst e
        injection hu with hu
        subst hu
        obtain ⟨g', cur', hA', _, h3', _, _, _, h7'⟩ := row_some (s'.rows _ (List.mem_of_getElem? hj)) (by omega)
        have hg : g' = b := by rw [hA] at hA'; injection hA' with e; injection e with e; exact e.symm
        subst hg
        refine ⟨_, h3', .inr ⟨_, _, _, _, rfl, rfl, fun j u hu => ?_⟩⟩
        change cur'.toList.take (m * k) = L.flatMap enc at h7'
        have h8 : (L.flatMap enc)[j]? = some u := by simpa using hu
        rw [← h7', List.getElem?_take] at h8
        split at h8
        · simpa using h8
        · cases h8
      · exact s'.gin.le h1 b u hu
theorem k_less {H' : Gh} (hle : H.Le H') (h0 : C.H0.Le H) (h : RK K C n D H E M R) : RK K C n D H' E M R := fun a w s => h a w
  { s with
    gin := s.gin.le hle
    dis := fun q hq => by
      cases e : H q.1 with
      | none => rfl
      | some o => have := hle _ _ e; rw [s.dis q hq] at this; cases this
    gle := h0
    gnew := fun b hb => s.gnew b (fun e => hb (by
      cases e' : H b with
      | none => rfl
      | some o => have := hle _ _ e'; rw [e] at this; cases this))
    rgh := fun r hr g hg => by
      cases e : H g with
      | none => rfl
      | some o => have := hle _ _ e; rw [s.rgh r hr g hg] at this; cases this }
theorem p_eqnil {t e : Nat} {t' : TypeId} {x : Operand} {A : Option Addr} {m c : Nat} {ty : TypeId} {pos : String} {af : Array Edge} {gd : Option (Nat × Bool)} [ht : Sl P t e] (hg : Gd ops E gd b) (hx : Ev E b x (.slice A m c)) : PV P ops n E M H ⟨some d, .binOp .eql t x (.const (.slice none 0 0)) t', ty, pos, af, gd⟩ d b (.bool A.isNone) :=
  ⟨rfl, fun _ hf => hg.want rfl hf, fun hb a w hf _ _ => by
    have e1 : (binOp .eql t (.slice A m c) (.slice none 0 0)).run P w = .ok (.bool A.isNone) w := by
      have e2 : (Op.equal t (.slice A m c) (.slice none 0 0)).run P w = .ok A.isNone w := by
        unfold Op.equal
        rw [show Op.maxDepth = (Op.maxDepth - 1) + 1 from rfl]
        cases A <;> simp [Op.equalIn, run_underlying ht.und]
      show ((do pure (.bool (← Op.equal t (.slice A m c) (.slice none 0 0)))) : Sem Value).run P w = _
      simp only [Sem.run_bind, e2, Result.andThen_ok, Sem.run_pure]
    have e3 : (eqGuard .eql t x (.const (.slice none 0 0)) (.slice A m c) (.slice none 0 0)).run P w = .ok () w := rfl
    have ec : a.eval (.const (.slice none 0 0)) = .slice none 0 0 := rfl
    simp only [execOp, hf.ev hx hb, ec, e3, Sem.run_bind, Sem.run_pure, e1, Result.andThen_ok]⟩
theorem k_m2r {α : Type} {g m c T k : Nat} {cs : List Value} {enc : α → List Value} (q : Nat) (L : List α) (_ : C.w0.heap.size ≤ g) (h : RK K C n D H E (M.eraseIdx q) (LR (some ⟨g, 0, none⟩) m c T k enc L :: R)) (hq : M[q]? = some (g, .cells cs.toArray T (0, 0)) := by rfl) (hl : cs.length = c * k := by rfl) (ht : cs.take (m * k) = L.flatMap enc := by rfl) (hmc : Nat.ble m c = true := by rfl) (hc : c ≤ maxLen := by decide) : RK K C n D H E M R := fun a w s => by
  have hmem : (g, Obj.cells cs.toArray T (0, 0)) ∈ M := List.mem_of_getElem? hq
  have sub_ := List.eraseIdx_sublist M q
  have s' := s.forget sub_ (List.Sublist.refl R)
  have hmc' := Nat.le_of_ble_eq_true hmc
  have hlen : (L.flatMap enc).length = m * k := by
    rw [← ht, List.length_take, hl]
    have := Nat.mul_le_mul_right k hmc'
    omega
  have ne_ : ∀ p ∈ M.eraseIdx q, p.1 ≠ g := by
    intro p hp e
    obtain ⟨j, hj, hne, rfl⟩ := List.mem_eraseIdx_iff_getElem.1 hp
    obtain ⟨i1, e1⟩ := List.getElem?_eq_some_iff.1 hq
    have h1 : (M.map (·.1))[q]'(by simpa using i1) = (M.map (·.1))[j]'(by simpa using hj) := by
      rw [List.getElem_map, List.getElem_map, e1]; exact e.symm
    exact hne ((List.getElem_inj s.nodup).1 h1).symm
  exact h a w { s' with
    rows := fun r hr => by
      rcases List.mem_cons.1 hr with rfl | hr
      · exact ⟨hlen, .inr ⟨g, c, cs.toArray, rfl, Nat.zero_le _, s.mem _ hmem, hmc', hc, by simpa using hl, by simpa using ht⟩⟩
      · exact s.rows r hr
    rown := fun r hr g' hg' => by
      rcases List.mem_cons.1 hr with rfl | hr
      · have : g = g' := by simpa [Value.ownBlock] using hg'
        subst this; exact s.own _ hmem
      · exact s.rown r hr g' hg'
    rgh := fun r hr g' hg' => by
      rcases List.mem_cons.1 hr with rfl | hr
      · have : g = g' := by simpa [Value.ownBlock] using hg'
        subst this; exact s.dis _ hmem
      · exact s.rgh r hr g' hg'
    rmem := fun r hr p hp e => by
      rcases List.mem_cons.1 hr with rfl | hr
      · have : g = p.1 := by simpa [Value.ownBlock] using e
        exact ne_ p hp this.symm
      · exact s'.rmem r hr p hp e
    rnod := List.pairwise_cons.2 ⟨fun r hr g' hg' hr' => by
      have : g = g' := by simpa [Value.ownBlock] using hg'
      subst this
      exact s.rmem r hr _ hmem hr', s.rnod⟩ }
theorem x_mk {α : Type} {t e k by_ : Nat} {z : Value} {x y : Operand} {kl kc : IntKind} {ty : TypeId} {pos : String} {af : Array Edge} [he : El P t e k by_ z] (enc : α → List Value) (z0 : α) (N : Nat) (hz : z.cells = (enc z0).toArray) (h : ∀ A, RK K C n D H ((d, true, .slice A N N) :: E) M (LR A N N e k enc (List.replicate N z0) :: R)) (hx : ev E x = some (true, .int kl N)) (hy : ev E y = some (true, .int kc N)) (hb : by_ * N ≤ 281474976710656 := by omega) (hN : N ≤ 281474976710656 := by omega) (hk : ∀ x, (enc x).length = k := by exact fun _ => rfl) (hn : Nat.blt d n = true := by rfl) : RK (SX P ops Q ⟨some d, .makeSlice t x y, ty, pos, af, none⟩ K) C n D H E M R := fun a w s => by
  obtain ⟨ie, hi1, hi2, hi3, hi4⟩ := he.info
  obtain ⟨w', h1, h2, h3⟩ := run_make_full (P := P) w w.heap.size t e ie z k he.und hi1 hi2 hi3 kl kc N (by rw [hi4]; exact hb) (by simp only [maxLen]; omega) (Nat.le_refl _)
  have hcells : (madeCells z.cells (N * k)).toList = (List.replicate N z0).flatMap enc := by
    have hk0 := he.pos
    apply List.ext_getElem?
    intro i
    rw [hz]
    by_cases hi : i < N * k
    · have e3 : i / k * k + i % k = i := by rw [Nat.mul_comm]; exact Nat.div_add_mod i k
      have e4 : i / k < N := Nat.div_lt_of_lt_mul (by rw [Nat.mul_comm]; exact hi)
      have e5 : i % k < k := Nat.mod_lt _ hk0
      have e6 := flat_at enc k hk (List.replicate N z0) z0 (i := i / k) (j := i % k) (by simpa using e4) e5
      rw [e3] at e6
      rw [e6]
      have e7 : (List.replicate N z0).getD (i / k) z0 = z0 := by
        rw [List.getD_eq_getElem?_getD, List.getElem?_replicate, if_pos e4]; rfl
      rw [e7]
      simp only [madeCells, Array.toList_map, Array.toList_range, List.getElem?_map, List.getElem?_range hi, Option.map_some, List.size_toArray, hk]
      rw [List.getElem?_eq_getElem (by rw [hk]; exact e5)]
      simp [hk, e5]
    · rw [List.getElem?_eq_none (l := (madeCells (enc z0).toArray (N * k)).toList) (by simp [madeCells]; omega), List.getElem?_eq_none (by rw [flat_length enc k hk]; simpa using hi)]
  unfold SX
  rw [if_pos (by simp [Region.wanted])]
  unfold Oper.wp
  have e1' : (execOp a.eval ⟨some d, .makeSlice t x y, ty, pos, af, none⟩).run P w = .ok (.value (.slice (some ⟨w.heap.size, 0, none⟩) N N)) w' := by
    simp only [execOp, s.fits.ev (e1 (b := true) hx) rfl, s.fits.ev (e1 (b := true) hy) rfl, Sem.run_bind, h1, Result.andThen_ok, Sem.run_pure]
  rw [e1']
  show K (a.put (some d) _) w'
  rw [hcells] at h2
  exact h _ _ _ ((s.newrow (r := LR (some ⟨w.heap.size, 0, none⟩) N N e k enc (List.replicate N z0)) ⟨h3.os, h3.tape, h3.output, h3.size, fun b hb _ => h3.block b hb (by simp), run_drawn _ _ h1⟩ h2).put hn rfl)
theorem own_new {w : World} {b : Nat} {r : Rw} (h : w.ownsRow 0 r.T r.k r.v r.m r.cs) (hn : ∀ g, r.v.ownBlock = some g → b ≤ g ∨ g ∈ ([] : List Nat)) : w.ownsRow b r.T r.k r.v r.m r.cs := by
  refine ⟨h.1, ?_⟩
  rcases h.2 with h1 | ⟨g, cap, cur, h1, _, h3⟩
  · exact .inl h1
  · refine .inr ⟨g, cap, cur, h1, ?_, h3⟩
    rcases hn g (by rw [h1]; simp [Value.ownBlock]) with h | h
    · exact h
    · cases h
def PostW {α : Type} (w0 : World) (T k : Nat) (enc : α → List Value) (m : Nat) (L : List α) (F : Option Addr → Nat → Value) : Ending → World → Prop := fun e w' => ∃ A c, e = .returned (F A c) ∧ Kept [] w0 w' ∧ w'.ownsRow w0.heap.size T k (.slice A m c) m (L.flatMap enc)
section
variable {α : Type} {T k m : Nat} {enc : α → List Value} {L : List α} {F : Option Addr → Nat → Value}
theorem cw_of {f : FuncId} {fn : Func} {c : Code} {args : List Value} (hf : P.funcs[f]? = some fn) (hb : fn.body = some c) (hn : fn.ntmps = n) (ha : Nat.ble args.length n = true) (h : ∀ w0, H.In w0 → RK (c.wp P (bodyPost P fn (PostW w0 T k enc m L F))) ⟨w0, [], H⟩ n [] H (envOf 0 args) [] []) : Cw P f args H T k enc m L F := fun w hw => by
  refine calls_of_wp hf hb ?_
  rw [hn]
  exact h w hw _ w (start w [] H hw n args (Nat.le_of_ble_eq_true ha) (by simp) (by simp) (by simp) (by simp))
theorem x_retw {A : Option Addr} {c : Nat} {fn : Func} {rs : List ResultVar} {vs : List Value} {w0 : World} {H0 : Gh} (i : Nat) (hr : fn.results = rs.toArray) (h : RVs P E M rs vs) (hi : R[i]? = some (LR A m c T k enc L) := by rfl)  (hF : oneOf vs = F A c := by rfl) : RK (bodyPost P fn (PostW w0 T k enc m L F) .ret) ⟨w0, [], H0⟩ n [] H E M R := fun a w s =>
  ⟨s.defs, _, results_run hr h s, A, c, by rw [hF], s.kept, own_new (s.rows _ (List.mem_of_getElem? hi)) (s.rown _ (List.mem_of_getElem? hi))⟩
end
end Go.Proofs.YtoakoffdjeleoaaGreat
end
section
namespace Go.Proofs.YtoakoffdjeleoaaGreat
open Go.RowKit Go.Shelf
variable {P : Program} {ops : Array Oper} {Q : Exit → Act → World → Prop} {K : Act → World → Prop} {C : Cx} {n : Nat} {D : List Deferred} {H : Gh} {E : Env} {M : List (Nat × Obj)} {R : List Rw} {a : Act} {w : World} {l : List Oper} {o : Oper} {d : Nat} {b : Bool} {v : Value}
structure Ow (w : World) (H : Gh) (M : List (Nat × Obj)) (R : List Rw) : Prop where
  mem : ∀ q ∈ M, w.heap[q.1]? = some q.2
  nodup : (M.map (·.1)).Nodup
  dis : ∀ q ∈ M, H q.1 = none
  rows : ∀ r ∈ R, w.ownsRow 0 r.T r.k r.v r.m r.cs
  rgh : ∀ r ∈ R, ∀ g, r.v.ownBlock = some g → H g = none
  rmem : ∀ r ∈ R, ∀ q ∈ M, r.apart q.1
  rnod : R.Pairwise fun r s => ∀ g, r.v.ownBlock = some g → s.apart g
theorem St.ow (s : St C n D H E M R a w) : Ow w H M R := ⟨s.mem, s.nodup, s.dis, s.rows, s.rgh, s.rmem, s.rnod⟩
def foot (M : List (Nat × Obj)) (R : List Rw) : List Nat := M.map (·.1) ++ R.filterMap (·.v.ownBlock)
theorem mem_foot {M : List (Nat × Obj)} {R : List Rw} {b : Nat} : b ∈ foot M R ↔ (∃ q ∈ M, q.1 = b) ∨ ∃ r ∈ R, r.v.ownBlock = some b := by
  simp [foot]
def PostC {β : Type} (w : World) (H : Gh) (S : List Nat) (v : β → Value) (M' : β → List (Nat × Obj)) (R' : β → List Rw) (F : Gh → β → Prop) : Ending → World → Prop := fun e w' =>
  ∃ y H', e = .returned (v y) ∧ Kept S w w' ∧ H.Le H' ∧ H.NewS H' w.heap.size S ∧ H'.In w' ∧ Ow w' H' (M' y) (R' y) ∧ (∀ b ∈ foot (M' y) (R' y), w.heap.size ≤ b ∨ b ∈ S) ∧ F H' y
def Cc {β : Type} (P : Program) (f : FuncId) (zs : List Value) (H : Gh) (M : List (Nat × Obj)) (R : List Rw) (v : β → Value) (M' : β → List (Nat × Obj)) (R' : β → List Rw) (F : Gh → β → Prop) : Prop :=
  ∀ w, H.In w → Ow w H M R → Calls P f zs.toArray w (PostC w H (foot M R) v M' R' F)
theorem startc (w0 : World) (H : Gh) (hw : H.In w0) (n : Nat) (args : List Value) (ha : args.length ≤ n) (h : Ow w0 H M R) :
    St ⟨w0, foot M R, H⟩ n [] H (envOf 0 args) M R { tmps := args.toArray ++ Array.replicate (n - args.toArray.size) undef, defers := [] } w0 :=
  { start w0 (foot M R) H hw n args ha (M := M) h.mem (fun q hq => mem_foot.2 (.inl ⟨q, hq, rfl⟩)) h.nodup h.dis with
    rows := h.rows, rown := fun r hr g hg => .inr (mem_foot.2 (.inr ⟨r, hr, hg⟩)), rgh := h.rgh, rmem := h.rmem, rnod := h.rnod }
section
variable {β : Type} {vf : β → Value} {M' : β → List (Nat × Obj)} {R' : β → List Rw} {F : Gh → β → Prop}
theorem cc_of {f : FuncId} {fn : Func} {c : Code} {args : List Value} (hf : P.funcs[f]? = some fn) (hb : fn.body = some c) (hn : fn.ntmps = n) (ha : Nat.ble args.length n = true) (h : ∀ w0, H.In w0 → RK (c.wp P (bodyPost P fn (PostC w0 H (foot M R) vf M' R' F))) ⟨w0, foot M R, H⟩ n [] H (envOf 0 args) M R) : Cc P f args H M R vf M' R' F := fun w hw ho => by
  refine calls_of_wp hf hb ?_
  rw [hn]
  exact h w hw _ w (startc w H hw n args (Nat.le_of_ble_eq_true ha) ho)
theorem St.postc (s : St C n D H E M R a w) (y : β) (hM : M' y = M) (hR : R' y = R) (hF : F H y) (e : Ending) (he : e = .returned (vf y)) : PostC C.w0 C.H0 C.S vf M' R' F e w := by
  subst hM; subst hR
  refine ⟨y, H, he, s.kept, s.gle, s.gnew, s.gin, s.ow, fun b hb => ?_, hF⟩
  rcases mem_foot.1 hb with ⟨q, hq, rfl⟩ | ⟨r, hr, hg⟩
  · exact s.own q hq
  · exact s.rown r hr b hg
theorem x_retc {fn : Func} {rs : List ResultVar} {vs : List Value} {w0 : World} {H0 : Gh} {S : List Nat} (y : β) (hr : fn.results = rs.toArray) (h : RVs P E M rs vs) (hF : F H y) (hv : oneOf vs = vf y := by rfl) (hM : M' y = M := by rfl) (hR : R' y = R := by rfl) : RK (bodyPost P fn (PostC w0 H0 S vf M' R' F) .ret) ⟨w0, S, H0⟩ n [] H E M R := fun _ _ s =>
  ⟨s.defs, _, results_run hr h s, s.postc y hM hR hF _ (by rw [hv])⟩
theorem x_fallc {fn : Func} {rs : List ResultVar} {vs : List Value} {w0 : World} {H0 : Gh} {S : List Nat} (y : β) (hr : fn.results = rs.toArray) (h : RVs P E M rs vs) (hF : F H y) (hv : oneOf vs = vf y := by rfl) (hM : M' y = M := by rfl) (hR : R' y = R := by rfl) : RK (bodyPost P fn (PostC w0 H0 S vf M' R' F) .normal) ⟨w0, S, H0⟩ n [] H E M R := fun _ _ s =>
  ⟨s.defs, _, results_run hr h s, s.postc y hM hR hF _ (by rw [hv])⟩
theorem St.callc {M1 M2 : List (Nat × Obj)} {R1 R2 : List Rw} {w' : World} {H' : Gh} (s : St C n D H E (M1 ++ M2) (R1 ++ R2) a w) {N : List (Nat × Obj)} {T : List Rw} (hk : Kept (foot M1 R1) w w') (hle : H.Le H') (hnew : H.NewS H' w.heap.size (foot M1 R1)) (hin : H'.In w') (ho : Ow w' H' N T) (hf : ∀ b ∈ foot N T, w.heap.size ≤ b ∨ b ∈ foot M1 R1) : St C n D H' E (N ++ M2) (T ++ R2) a w' := by
  have fown : ∀ b ∈ foot M1 R1, C.w0.heap.size ≤ b ∨ b ∈ C.S := fun b hb => by
    rcases mem_foot.1 hb with ⟨q, hq, rfl⟩ | ⟨r, hr, hg⟩
    · exact s.own q (List.mem_append_left _ hq)
    · exact s.rown r (List.mem_append_left _ hr) b hg
  have down : ∀ b ∈ foot N T, C.w0.heap.size ≤ b ∨ b ∈ C.S := fun b hb => by
    rcases hf b hb with h | h
    · exact .inl (Nat.le_trans s.kept.size h)
    · exact fown b h
  have nd := s.nodup
  rw [List.map_append, List.nodup_append] at nd
  have m2 : ∀ q ∈ M2, q.1 ∉ foot M1 R1 := fun q hq hb => by
    rcases mem_foot.1 hb with ⟨p, hp, e⟩ | ⟨r, hr, hg⟩
    · exact nd.2.2 p.1 (List.mem_map.2 ⟨p, hp, rfl⟩) q.1 (List.mem_map.2 ⟨q, hq, rfl⟩) e
    · exact s.rmem r (List.mem_append_left _ hr) q (List.mem_append_right _ hq) hg
  have rn := List.pairwise_append.1 s.rnod
  have r2 : ∀ r ∈ R2, ∀ g, r.v.ownBlock = some g → g ∉ foot M1 R1 := fun r hr g hg hb => by
    rcases mem_foot.1 hb with ⟨p, hp, e⟩ | ⟨t, ht, hg'⟩
    · exact s.rmem r (List.mem_append_right _ hr) p (List.mem_append_left _ hp) (by rw [e]; exact hg)
    · exact rn.2.2 t ht r hr g hg' hg
  have l2 : ∀ q ∈ M2, q.1 < w.heap.size := fun q hq => s.lt (List.mem_append_right _ hq)
  have rl2 : ∀ r ∈ R2, ∀ g, r.v.ownBlock = some g → g < w.heap.size := fun r hr g hg => (row_lt (s.rows r (List.mem_append_right _ hr)) hg).2
  have nn : ∀ b, b < w.heap.size → b ∉ foot M1 R1 → b ∉ foot N T := fun b hb h h' => by
    rcases hf b h' with h1 | h1
    · omega
    · exact h h1
  have hn0 : ∀ b, b < w.heap.size → b ∉ foot M1 R1 → H b = none → H' b = none := fun b hb h h0 => by
    cases e : H' b with
    | none => rfl
    | some o =>
      rcases hnew b (by rw [e]; simp) with h1 | h1 | h1
      · exact absurd h0 h1
      · omega
      · exact absurd h1 h
  refine ⟨s.fits, s.defs, ⟨hk.os.trans s.kept.os, hk.tape.trans s.kept.tape, hk.output.trans s.kept.output, Nat.le_trans s.kept.size hk.size, fun b hb hs => ?_, Nat.le_trans s.kept.drawn hk.drawn⟩, fun q hq => ?_, fun q hq => ?_, ?_, hin, fun q hq => ?_, s.gle.trans hle, fun b hb => ?_, fun r hr => ?_, fun r hr g hg => ?_, fun r hr g hg => ?_, fun r hr q hq => ?_, ?_⟩
  · rw [hk.block b (Nat.lt_of_lt_of_le hb s.kept.size) (fun h => by
      rcases fown b h with h1 | h1
      · omega
      · exact hs h1)]
    exact s.kept.block b hb hs
  · rcases List.mem_append.1 hq with hq | hq
    · exact ho.mem q hq
    · rw [hk.block _ (l2 q hq) (m2 q hq)]; exact s.mem q (List.mem_append_right _ hq)
  · rcases List.mem_append.1 hq with hq | hq
    · exact down _ (mem_foot.2 (.inl ⟨q, hq, rfl⟩))
    · exact s.own q (List.mem_append_right _ hq)
  · rw [List.map_append, List.nodup_append]
    refine ⟨ho.nodup, nd.2.1, fun x hx y hy e => ?_⟩
    obtain ⟨q, hq, rfl⟩ := List.mem_map.1 hx
    obtain ⟨p, hp, rfl⟩ := List.mem_map.1 hy
    exact nn p.1 (l2 p hp) (m2 p hp) (mem_foot.2 (.inl ⟨q, hq, e⟩))
  · rcases List.mem_append.1 hq with hq | hq
    · exact ho.dis q hq
    · exact hn0 _ (l2 q hq) (m2 q hq) (s.dis q (List.mem_append_right _ hq))
  · rcases hnew b hb with h1 | h1 | h1
    · exact s.gnew b h1
    · exact .inr (.inl (Nat.le_trans s.kept.size h1))
    · exact .inr (fown b h1)
  · rcases List.mem_append.1 hr with hr | hr
    · exact ho.rows r hr
    · exact row_move (s.rows r (List.mem_append_right _ hr)) (fun g hg => hk.block g (rl2 r hr g hg) (r2 r hr g hg))
  · rcases List.mem_append.1 hr with hr | hr
    · exact down _ (mem_foot.2 (.inr ⟨r, hr, hg⟩))
    · exact s.rown r (List.mem_append_right _ hr) g hg
  · rcases List.mem_append.1 hr with hr | hr
    · exact ho.rgh r hr g hg
    · exact hn0 g (rl2 r hr g hg) (r2 r hr g hg) (s.rgh r (List.mem_append_right _ hr) g hg)
  · rcases List.mem_append.1 hr with hr | hr
    · rcases List.mem_append.1 hq with hq | hq
      · exact ho.rmem r hr q hq
      · exact fun e => nn q.1 (l2 q hq) (m2 q hq) (mem_foot.2 (.inr ⟨r, hr, e⟩))
    · rcases List.mem_append.1 hq with hq | hq
      · exact fun e => nn q.1 (rl2 r hr _ e) (r2 r hr _ e) (mem_foot.2 (.inl ⟨q, hq, rfl⟩))
      · exact s.rmem r (List.mem_append_right _ hr) q (List.mem_append_right _ hq)
  · refine List.pairwise_append.2 ⟨ho.rnod, rn.2.1, fun r hr t ht g hg hg' => ?_⟩
    exact nn g (rl2 t ht g hg') (r2 t ht g hg') (mem_foot.2 (.inr ⟨r, hr, hg⟩))
section
variable {f : Nat} {xs : List Operand} {at_ : Array TypeId} {vs : List Value} {ty : TypeId} {pos : String} {af : Array Edge} {dst : Option Nat}
def putE (dst : Option Nat) (v : Value) (E : Env) : Env := match dst with
  | none => E
  | some d => (d, true, v) :: E
def okD (n : Nat) : Option Nat → Bool
  | none => true
  | some d => Nat.blt d n
theorem St.putE (s : St C n D H E M R a w) (h : okD n dst = true) : St C n D H (putE dst v E) M R (a.put dst v) w := by
  cases dst with
  | none => exact s
  | some d => exact s.put h rfl
theorem x_callc {M1 M2 : List (Nat × Obj)} {R1 R2 : List Rw} [hen : En P f] (hc : Cc P f vs H M1 R1 vf M' R' F) (k : ∀ H' y, H.Le H' → F H' y → RK K C n D H' (putE dst (vf y) E) (M' y ++ M2) (R' y ++ R2)) (hx : Evl E true xs vs := by exact evl_of rfl) (hM : M = M1 ++ M2 := by rfl) (hR : R = R1 ++ R2 := by rfl) (hn : okD n dst = true := by rfl) : RK (SX P ops Q ⟨dst, .call { callee := .value (.func f), args := xs.toArray, argTypes := at_ }, ty, pos, af, none⟩ K) C n D H E M R := fun a w s => by
  subst hM; subst hR
  unfold SX
  rw [if_pos (by simp [Region.wanted])]
  unfold Oper.wp
  rw [run_call hen.enters (s.fits.evl rfl hx) w, Oper.upon_enter]
  have so := s.ow
  have so' : Ow w H M1 R1 := ⟨fun q hq => so.mem q (List.mem_append_left _ hq), by have := so.nodup; rw [List.map_append, List.nodup_append] at this; exact this.1, fun q hq => so.dis q (List.mem_append_left _ hq), fun r hr => so.rows r (List.mem_append_left _ hr), fun r hr => so.rgh r (List.mem_append_left _ hr), fun r hr q hq => so.rmem r (List.mem_append_left _ hr) q (List.mem_append_left _ hq), (List.pairwise_append.1 so.rnod).1⟩
  refine (hc w s.gin so').mono fun e w' ⟨y, H', h1, h2, h3, h4, h5, h6, h7, h8⟩ => ?_
  subst h1
  exact k H' y h3 h8 _ _ ((s.callc h2 h3 h4 h5 h6 h7).putE hn)
theorem x_callfc {M1 M2 : List (Nat × Obj)} {R1 R2 : List Rw} {x : Operand} {us ws zs : List Value} [hen : En P f] (hc : Cc P f zs H M1 R1 vf M' R' F) (hx : ev E x = some (true, .func (.func f) us.toArray ws.toArray)) (k : ∀ H' y, H.Le H' → F H' y → RK K C n D H' (putE dst (vf y) E) (M' y ++ M2) (R' y ++ R2)) (hxs : Evl E true xs vs := by exact evl_of rfl) (has : us ++ vs ++ ws = zs := by rfl) (hM : M = M1 ++ M2 := by rfl) (hR : R = R1 ++ R2 := by rfl) (hn : okD n dst = true := by rfl) : RK (SX P ops Q ⟨dst, .call { callee := .value x, args := xs.toArray, argTypes := at_ }, ty, pos, af, none⟩ K) C n D H E M R := fun a w s => by
  subst hM; subst hR
  unfold SX
  rw [if_pos (by simp [Region.wanted])]
  unfold Oper.wp
  rw [run_callf hen.enters (s.fits.ev (e1 (b := true) hx) rfl) (s.fits.evl rfl hxs) w, has, Oper.upon_enter]
  have so := s.ow
  have so' : Ow w H M1 R1 := ⟨fun q hq => so.mem q (List.mem_append_left _ hq), by have := so.nodup; rw [List.map_append, List.nodup_append] at this; exact this.1, fun q hq => so.dis q (List.mem_append_left _ hq), fun r hr => so.rows r (List.mem_append_left _ hr), fun r hr => so.rgh r (List.mem_append_left _ hr), fun r hr q hq => so.rmem r (List.mem_append_left _ hr) q (List.mem_append_left _ hq), (List.pairwise_append.1 so.rnod).1⟩
  refine (hc w s.gin so').mono fun e w' ⟨y, H', h1, h2, h3, h4, h5, h6, h7, h8⟩ => ?_
  subst h1
  exact k H' y h3 h8 _ _ ((s.callc h2 h3 h4 h5 h6 h7).putE hn)
end
end
theorem St.perm (s : St C n D H E M R a w) {N : List (Nat × Obj)} {T : List Rw} (hM : N.Perm M) (hR : T.Perm R) : St C n D H E N T a w :=
  ⟨s.fits, s.defs, s.kept, fun q hq => s.mem q (hM.mem_iff.1 hq), fun q hq => s.own q (hM.mem_iff.1 hq), (hM.map _).nodup_iff.2 s.nodup, s.gin, fun q hq => s.dis q (hM.mem_iff.1 hq), s.gle, s.gnew, fun r hr => s.rows r (hR.mem_iff.1 hr), fun r hr => s.rown r (hR.mem_iff.1 hr), fun r hr => s.rgh r (hR.mem_iff.1 hr), fun r hr q hq => s.rmem r (hR.mem_iff.1 hr) q (hM.mem_iff.1 hq), hR.symm.pairwise s.rnod (fun {x y} h g hg hg' => h g hg' hg)⟩
theorem k_perm {N : List (Nat × Obj)} {T : List Rw} (hM : N.Perm M) (hR : T.Perm R) (h : RK K C n D H E N T) : RK K C n D H E M R := fun a w s => h a w (s.perm hM hR)
theorem front_perm {α : Type} : ∀ {L : List α} {i : Nat} {x : α}, L[i]? = some x → (x :: L.eraseIdx i).Perm L
  | [], _, _, h => by simp at h
  | y :: L, 0, x, h => by
    simp only [List.getElem?_cons_zero, Option.some.injEq] at h
    subst h
    exact .refl _
  | y :: L, i + 1, x, h => by
    simp only [List.getElem?_cons_succ] at h
    exact (List.Perm.swap y x _).trans ((front_perm h).cons y)
theorem k_mf {q : Nat × Obj} (i : Nat) (h : RK K C n D H E (q :: M.eraseIdx i) R) (hq : M[i]? = some q := by rfl) : RK K C n D H E M R := k_perm (front_perm hq) (.refl _) h
theorem k_rf {q : Rw} (i : Nat) (h : RK K C n D H E M (q :: R.eraseIdx i)) (hq : R[i]? = some q := by rfl) : RK K C n D H E M R := k_perm (.refl _) (front_perm hq) h
end Go.Proofs.YtoakoffdjeleoaaGreat
end
section
namespace Go.Proofs.YtoakoffdjeleoaaGreat
open Go.RowKit Go.Shelf
variable {P : Program} {ops : Array Oper} {Q : Exit → Act → World → Prop} {K : Act → World → Prop} {C : Cx} {n : Nat} {D : List Deferred} {H : Gh} {E : Env} {M : List (Nat × Obj)} {R : List Rw} {a : Act} {w : World} {l : List Oper} {o : Oper} {d : Nat} {b : Bool} {v : Value}
abbrev FR (r : Option Nat) : Fence := { Fence.wide with round := r }
theorem callsR {r : Option Nat} {m : Nat} {f : FuncId} {args : Array Value} {w : World} {R : Ending → World → Prop} : CallsIn (FR r) m P f args w R ↔ Calls P f args w R := callsIn_wide (n := m)
class NoOut (Q : Exit → Act → World → Prop) : Prop where
  no : ∀ a w, ¬ Q .outgrown a w
instance {N : Act → World → Prop} [h : NoOut Q] : NoOut (Exit.then N Q) := ⟨fun a w k => h.no a w k⟩
instance {i : Nat} [h : NoOut Q] : NoOut (Exit.inBlock i Q) := ⟨fun a w k => h.no a w k⟩
theorem op_in {r : Option Nat} {m : Nat} (hd : ∀ c, o.op ≠ .defer c) (h : o.wp P a w K Q) : o.wpIn (FR r) m P a w K Q := by
  refine ⟨fun _ _ => trivial, ?_⟩
  rw [Oper.semAt_eq _ _ _ hd]
  unfold Oper.wp at h
  generalize (execOp a.eval o).run P w = res at h
  cases res with
  | ok x w' =>
    cases x <;> simp only [Oper.upon, Oper.uponIn] at h ⊢ <;>
      first
        | exact h
        | exact ⟨fun h => (by cases h), callsR.2 h⟩
        | (refine ⟨fun h => (by cases h), fun c cs _ => ?_⟩
           obtain ⟨v, w'', h1, h2⟩ := h c cs
           exact ⟨v, w'', h1, (StepsIn.of_steps h2).mono fun m _ => fenced_wide P m⟩)
        | exact h.elim
  | halt x w' => cases x <;> simp only [Oper.upon, Oper.uponIn] at h ⊢ <;> exact h
section
variable {r : Option Nat} {m : Nat} {x y : Code}
theorem m_seq (h : RK (x.wpIn (FR r) m P (Exit.then (y.wpIn (FR r) m P Q) Q)) C n D H E M R) : RK ((Code.seq x y).wpIn (FR r) m P Q) C n D H E M R := fun a w s => wpIn_seq (h a w s)
theorem m_skip (h : RK (Q .normal) C n D H E M R) : RK (Code.skip.wpIn (FR r) m P Q) C n D H E M R := fun a w s => wpIn_skip (h a w s)
theorem m_block {i : Nat} {c : Code} (h : RK (c.wpIn (FR r) m P (Exit.inBlock i Q)) C n D H E M R) : RK ((Code.block i c).wpIn (FR r) m P Q) C n D H E M R := fun a w s => wpIn_block (h a w s)
theorem m_region {i : Nat} {l : List Oper} (h : RK (wpListIn (FR r) m P l.toArray Q l) C n D H E M R) : RK ((Code.region i l.toArray false).wpIn (FR r) m P Q) C n D H E M R := fun a w s => wpIn_region_lit (h a w s)
theorem m_if {x : Operand} {c d : Code} {b : Bool} (hx : ev E x = some (true, .bool b)) (ht : b = true → RK (c.wpIn (FR r) m P Q) C n D H E M R) (hf : b = false → RK (d.wpIn (FR r) m P Q) C n D H E M R) : RK ((Code.cond x c d).wpIn (FR r) m P Q) C n D H E M R :=
  fun a w s => wpIn_cond_split (s.fits.ev (e1 hx) rfl) (fun h => ht h a w s) (fun h => hf h a w s)
theorem x_nx {N : Act → World → Prop} (h : RK N C n D H E M R) : RK (Exit.then N Q .normal) C n D H E M R := h
theorem ml_end (h : RK (Q .normal) C n D H E M R) : RK (wpListIn (FR r) m P ops Q []) C n D H E M R := fun a w s => h a w s
theorem ml_x (h : RK (SX P ops Q o (wpListIn (FR r) m P ops Q l)) C n D H E M R) (hd : ∀ c, o.op ≠ .defer c := by exact fun _ h => by cases h) : RK (wpListIn (FR r) m P ops Q (o :: l)) C n D H E M R := fun a w s => by
  have := h a w s
  unfold SX at this
  unfold wpListIn
  split
  · rename_i hw; rw [if_pos hw] at this; exact op_in hd this
  · rename_i hw; rw [if_neg hw] at this; exact ⟨fun _ _ => trivial, this⟩
theorem ml_v (h : PV P ops n E M H o d b v) (k : RK (wpListIn (FR r) m P ops Q l) C n D H ((d, b, v) :: E) M R) (hn : Nat.blt d n = true := by rfl) (hd : ∀ c, o.op ≠ .defer c := by exact fun _ h => by cases h) : RK (wpListIn (FR r) m P ops Q (o :: l)) C n D H E M R := ml_x (x_pv h k hn) hd
def noDefer (ops : Array Oper) : Bool := ops.all fun o => match o.op with
  | .defer _ => false
  | _ => true
theorem noDefer_spec (h : noDefer ops = true) : ∀ (j : Nat) (o : Oper), ops[j]? = some o → ∀ c, o.op ≠ Op.defer c := fun j o hj c e => by
  have h1 := Array.all_eq_true_iff_forall_mem.1 h o (Array.mem_of_getElem? hj)
  rw [e] at h1
  cases h1
theorem wpOp_in {i : Nat} {K : Act → World → Prop} [hq : NoOut Q] (hd : noDefer ops = true) {a : Act} {w : World} (h : wpOp P ops Q i K a w) : wpOpIn (FR r) m P ops Q i K a w := by
  unfold wpOp at h
  unfold wpOpIn
  cases ho : ops[i]? with
  | none => simpa [ho] using h
  | some o =>
    simp only [ho] at h ⊢
    split
    · rename_i hw
      rw [if_pos hw] at h
      rcases h with h | ⟨_, a', w', h⟩
      · exact op_in (noDefer_spec hd i o ho) h
      · exact absurd h (hq.no _ _)
    · rename_i hw
      rw [if_neg hw] at h
      exact ⟨fun _ _ => trivial, h⟩
theorem wpAny_in [hq : NoOut Q] (hd : noDefer ops = true) : ∀ (fuel : Nat) (listed : Array Bool) (a : Act) (w : World), wpAny P .any ops Q fuel listed a w → wpAnyIn (FR r) m P .any ops Q fuel listed a w
  | 0, _, _, _, h => h
  | fuel + 1, _, _, _, h => ⟨h.1, fun i hi => wpOpIn_mono (fun a w h => wpAny_in hd fuel _ a w h) (wpOp_in hd (h.2 i hi))⟩
theorem m_draw {i : Nat} (L : List (Nat × Nat × Obj)) (H0 : Gh) {l : List Oper} [hm : Mixed P] [hq : NoOut Q] (h : RK (wpG P l.toArray Q L H0 l.length (Array.replicate l.length false)) C n D H E M R) (hd : noDefer l.toArray = true := by kernel_rfl) : RK ((Code.region i l.toArray true).wpIn (FR r) m P Q) C n D H E M R := fun a w s => by
  refine wpIn_region_any hm.follows (wpAny_in hd _ _ _ _ (wpAny_of_G (L := L) (H0 := H0) _ _ _ _ ?_))
  have := h a w.drew s.drew
  simpa using this
end
def rdPost (P : Program) (l : Nat) (R : Ending → World → Prop) : Exit → Act → World → Prop
  | .normal, _, w => ∃ v w', (Instr.endRound l none).run P w = .ok v w' ∧ R (.returned v) w'
  | .panic c, a, w => a.defers = [] ∧ R (.panicked c) w
  | _, _, _ => False
instance {l : Nat} {R : Ending → World → Prop} : NoOut (rdPost P l R) := ⟨fun _ _ h => h⟩
instance {l : Nat} {R : Ending → World → Prop} : PF (rdPost P l R) := ⟨fun c a d v w k => by
  obtain ⟨k1, k2⟩ := k
  exact ⟨by cases d <;> simpa [Act.put] using k1, k2⟩⟩
def begins (P : Program) (l : Nat) (body : Code) (R : Ending → World → Prop) : Act → World → Prop := fun a w => ∃ w', (Instr.beginRound l).run P w = .ok () w' ∧ body.wpIn (FR (some l)) 0 P (rdPost P l R) a w'
def NoX : Exit → Act → World → Prop := fun _ _ _ => False
instance : NoOut NoX := ⟨fun _ _ h => h⟩
instance : PF NoX := ⟨fun _ _ _ _ _ h => h⟩
theorem round_of {l : Nat} {f : FuncId} {tmps : Array Value} {assign body : Code} {w : World} {R : Ending → World → Prop} (hf : (∃ x, P.funcs[f]? = some x) ∨ ∀ c w, ¬ R (.panicked c) w)
    (h : assign.wpIn (FR (some l)) 0 P (Exit.then (begins P l body R) NoX) { tmps := tmps, defers := [] } w) : RoundIn Fence.wide 0 P l f tmps assign body w R := by
  refine ⟨trivial, fun c cs hr => ?_⟩
  let b : Frame := { (default : Frame) with fn := f, kind := .normal, roundOf := some l }
  have hb0 : Frame.round l f tmps assign body .normal = b.atR { tmps := tmps, defers := [] } [.code assign, .beginRound, .code body] := by
    simp [Frame.round, Frame.atR, b]
  obtain ⟨e, a₁, w₁, hq, harr⟩ := h b [.beginRound, .code body] (c :: cs) rfl trivial (room_wide _)
  rw [← hb0] at harr
  have one : ∀ {m m' : Machine}, step P m = .next m' → StepsIn (Machine.fenced P Fence.wide) P m m' := fun h => .one (fenced_wide P _) h
  cases e with
  | normal =>
    obtain ⟨w₂, hbr, hbody⟩ := hq
    have s1 := one (stepR_beginRound (P := P) (b := b) (a := a₁) (k := [.code body]) (cs := c :: cs) rfl hbr)
    obtain ⟨e₂, a₂, w₃, hq₂, harr₂⟩ := hbody b [] (c :: cs) rfl trivial (room_wide _)
    cases e₂ with
    | normal =>
      obtain ⟨v, w₄, hend, hR⟩ := hq₂
      exact ⟨.returned v, w₄, hR, (StepsIn.trans harr s1).trans (StepsIn.trans harr₂ (one (stepR_round_end rfl rfl hend)))⟩
    | panic ch =>
      obtain ⟨hd, hR⟩ := hq₂
      obtain ⟨todo, hs⟩ := harr₂
      rcases hf with ⟨x, hx⟩ | hf
      · refine ⟨.panicked ch, w₃, hR, (StepsIn.trans harr s1).trans (StepsIn.trans hs (one ?_))⟩
        exact step_leave_panicked ⟨rfl, hd, x, hx⟩
      · exact absurd hR (hf _ _)
    | ret => exact hq₂.elim
    | exit id => exact hq₂.elim
    | goto t => exact hq₂.elim
    | outgrown => exact hq₂.elim
  | exit id => exact hq.elim
  | goto t => exact hq.elim
  | ret => exact hq.elim
  | panic chain => exact hq.elim
  | outgrown => exact hq.elim
def Iter {α : Type} (P : Program) (f : FuncId) (args : Value → List Value) (H : Gh) (xs : List α) (Hd : World → α → Value → World → Prop) : Prop :=
  ∀ (l : Nat) (J : List α → World → Prop) (Jp : List PanicEntry → World → Prop) (w : World), (∀ pre u, J pre u → H.In u) → (∀ pre u u', J pre u → Kept [] u u' → J pre u') →
    (∀ pre x v u0 u, (pre ++ [x]) <+: xs → J pre u0 → Kept [] u0 u → Hd u0 x v u → YieldAt Fence.wide 0 P l #[v] u fun e u' => (e = .returned (.bool true) ∧ J (pre ++ [x]) u') ∨ ∃ c, e = .panicked c ∧ Jp c u') →
    J [] w → Calls P f (args (.func (.yield l) #[] #[])).toArray w fun e w' => (∃ v, e = .returned v ∧ J xs w') ∨ ∃ c, e = .panicked c ∧ Jp c w'
def wpB (G : FuncId → Prop) (P : Program) (c : Code) (Q : Exit → Act → World → Prop) (a : Act) (w : World) : Prop :=
  ∀ (b : Frame) (k : List Item) (cs : List Frame), G b.fn → b.roundOf = none → ∃ e a' w', Q e a' w' ∧ ArrivesIn (Machine.fenced P Fence.wide) P (lone (b.atR a (.code c :: k)) cs w) b k cs e a' w'
theorem wpB_of {G : FuncId → Prop} {c : Code} (h : c.wp P Q a w) : wpB G P c Q a w := fun b k cs _ hr => (wpIn_wide (n := 0)).2 h b k cs hr trivial (room_wide _)
theorem wp_of_B {c : Code} (h : wpB (fun _ => True) P c Q a w) : c.wp P Q a w := (wpIn_wide (n := 0)).1 fun b k cs hr _ _ => h b k cs trivial hr
theorem wpB_seq {G : FuncId → Prop} {x y : Code} (h : wpB G P x (Exit.then (wpB G P y Q) Q) a w) : wpB G P (Code.seq x y) Q a w := by
  intro b k cs hg hro
  have one : ∀ {m m' : Machine}, step P m = .next m' → StepsIn (Machine.fenced P Fence.wide) P m m' := fun h => .one (fenced_wide P _) h
  obtain ⟨e, a₁, w₁, hq, harr⟩ := h b (.code y :: k) cs hg hro
  cases e with
  | normal =>
    obtain ⟨e₂, a₂, w₂, hq₂, harr₂⟩ := hq b k cs hg hro
    exact ⟨e₂, a₂, w₂, hq₂, .of_steps ((one stepR_seq).trans harr) harr₂⟩
  | exit id => exact ⟨_, a₁, w₁, hq, .of_steps (one stepR_seq) (.pass (x := .code y) rfl (fun _ _ => .inl (by simp)) harr)⟩
  | goto l => exact ⟨_, a₁, w₁, hq, .of_steps (one stepR_seq) (.pass (x := .code y) rfl (fun _ _ => .inl (by simp)) harr)⟩
  | ret => exact ⟨_, a₁, w₁, hq, .of_steps (one stepR_seq) (.pass (x := .code y) rfl (fun _ _ => .inl (by simp)) harr)⟩
  | panic ch => exact ⟨_, a₁, w₁, hq, .of_steps (one stepR_seq) (.pass (x := .code y) rfl (fun _ _ => .inl (by simp)) harr)⟩
  | outgrown => exact ⟨_, a₁, w₁, hq, .of_steps (one stepR_seq) (.pass (x := .code y) rfl (fun _ _ => .inl (by simp)) harr)⟩
theorem b_seq {G : FuncId → Prop} {x y : Code} (h : RK (wpB G P x (Exit.then (wpB G P y Q) Q)) C n D H E M R) : RK (wpB G P (Code.seq x y) Q) C n D H E M R := fun a w s => wpB_seq (h a w s)
theorem b_of {G : FuncId → Prop} {c : Code} (h : RK (c.wp P Q) C n D H E M R) : RK (wpB G P c Q) C n D H E M R := fun a w s => wpB_of (h a w s)
theorem c_ofB {c : Code} (h : RK (wpB (fun _ => True) P c Q) C n D H E M R) : RK (c.wp P Q) C n D H E M R := fun a w s => wp_of_B (h a w s)
abbrev markD (dk : Nat) : Deferred := { target := .collected dk, args := #[] }
abbrev tail2 (l dk : Nat) (rc : Loop) : List (Nat × Obj) := [(l, .loop rc), (dk, .deferred (some []))]
def Rr {α ι : Type} (C : Cx) (n : Nat) (D : List Deferred) (H : Gh) (E : Env) (Hi : ι → Gh) (Mi : ι → List (Nat × Obj)) (Ri : ι → List Rw) (I : List α → ι → Prop) (Pc : List PanicEntry → Prop) (l dk : Nat) (rc : Loop) (a : Act) (pre : List α) (e : Ending) (u : World) : Prop :=
  (e = .returned (.bool true) ∧ ∃ j, I pre j ∧ St C n D (Hi j) E (Mi j ++ tail2 l dk rc) (Ri j) a u) ∨ ∃ c, e = .panicked c ∧ Pc c ∧ Kept C.S C.w0 u ∧ H.In u ∧ u.heap[dk]? = some (.deferred (some []))
def PanOk (Q : Exit → Act → World → Prop) (C : Cx) (D : List Deferred) (H : Gh) (ch : List PanicEntry) : Prop :=
  ∀ dk u a', a'.defers = markD dk :: D → Kept C.S C.w0 u → H.In u → C.w0.heap.size ≤ dk → u.heap[dk]? = some (.deferred (some [])) → Q (.panic ch) a' u
theorem St.loopobj (s : St C n D H E M R a w) {i l : Nat} {o o' : Obj} (hi : M[i]? = some (l, o)) : St C n D H E (M.set i (l, o')) R a (w.putObj l o') := by
  have hg := s.mem _ (List.mem_of_getElem? hi)
  have hl : l < w.heap.size := (Array.getElem?_eq_some_iff.1 hg).1
  exact s.write hi rfl rfl rfl (by simp) (World.putObj_heap_same hl) (fun k hk => World.putObj_heap_other hk)
theorem set_tail {M : List (Nat × Obj)} {l dk : Nat} {o o' q : Obj} : (M ++ [(l, o), (dk, q)]).set M.length (l, o') = M ++ [(l, o'), (dk, q)] := by
  simp
theorem get_tail {M : List (Nat × Obj)} {l dk : Nat} {o q : Obj} : (M ++ [(l, o), (dk, q)])[M.length]? = some (l, o) := by simp
theorem x_begin {l dk : Nat} {rc : Loop} {body : Code} {Rq : Ending → World → Prop} {Nx : Exit → Act → World → Prop} (h : RK (body.wpIn (FR (some l)) 0 P (rdPost P l Rq)) C n D H E (M ++ tail2 l dk { rc with state := .busy }) R) (hrc : rc.state = .ready) : RK (Exit.then (begins P l body Rq) Nx .normal) C n D H E (M ++ tail2 l dk rc) R := fun a w s => by
  have hl := s.mem _ (List.mem_of_getElem? (get_tail (M := M)))
  refine ⟨_, run_beginRound hl hrc, h a _ ?_⟩
  have := s.loopobj (o' := .loop { rc with state := .busy }) (get_tail (M := M))
  rwa [set_tail] at this
theorem x_rend {α ι : Type} {Hi : ι → Gh} {Mi : ι → List (Nat × Obj)} {Ri : ι → List Rw} {I : List α → ι → Prop} {Pc : List PanicEntry → Prop} {l dk : Nat} {rc : Loop} {a0 : Act} {pre : List α} {D0 : List Deferred} {H0 : Gh} {E0 : Env} (j : ι) (hI : I pre j) (hf : Fits n E0 a0) (hd : a0.defers = D0) (h1 : rc.state = .ready) (h2 : rc.pending = none) (hH : Hi j = H := by rfl) (hM : Mi j ++ tail2 l dk { rc with state := .busy } = M := by rfl) (hR : Ri j = R := by rfl) :
    RK (rdPost P l (Rr C n D0 H0 E0 Hi Mi Ri I Pc l dk rc a0 pre) .normal) C n [] H E M R := fun a w s => by
  subst hH; subst hM; subst hR
  cases rc with
  | mk st pd f' tm ps asg bd df =>
  simp only at h1 h2
  subst h1; subst h2
  have hl := s.mem _ (List.mem_of_getElem? (get_tail (M := Mi j)))
  have s' := s.loopobj (o' := .loop { state := .ready, pending := none, fn := f', tmps := tm, params := ps, assign := asg, body := bd, defers := df }) (get_tail (M := Mi j))
  rw [set_tail] at s'
  exact ⟨_, _, run_endRound none hl, .inl ⟨rfl, j, hI, { s' with fits := hf, defs := hd }⟩⟩
theorem x_rpan {α ι : Type} {Hi : ι → Gh} {Mi : ι → List (Nat × Obj)} {Ri : ι → List Rw} {I : List α → ι → Prop} {Pc : List PanicEntry → Prop} {l dk : Nat} {rc : Loop} {a0 : Act} {pre : List α} {D0 : List Deferred} {H0 : Gh} {E0 : Env} {ch : List PanicEntry} (hp : Pc ch) (hle : H0.Le H) (hM : (dk, Obj.deferred (some [])) ∈ M) :
    RK (rdPost P l (Rr C n D0 H0 E0 Hi Mi Ri I Pc l dk rc a0 pre) (.panic ch)) C n [] H E M R := fun _ _ s =>
  ⟨s.defs, .inr ⟨ch, rfl, hp, s.kept, s.gin.le hle, s.mem _ hM⟩⟩
theorem c_rangeB {α ι β : Type} {G : FuncId → Prop} {f : Nat} {us ws : List Value} {xs : List α} {Hd : World → α → Value → World → Prop} {p : Nat} {g : Operand} {assign body : Code}
    (Hi : ι → Gh) (Mi : ι → List (Nat × Obj)) (Ri : ι → List Rw) (I : List α → ι → Prop) (i0 : ι) (Pc : List PanicEntry → Prop) (vx : α → β → Value) (Rx : α → β → List Rw) [hen : En P f]
    (hg : ev E g = some (true, .func (.func f) us.toArray ws.toArray)) (hit : Iter P f (fun y => us ++ y :: ws) H xs Hd) (hI0 : I [] i0) (hH0 : Hi i0 = H) (hM0 : Mi i0 = M) (hR0 : Ri i0 = R) (hle : ∀ pre i, I pre i → H.Le (Hi i))
    (hand : ∀ i u0 u x v (N : List (Nat × Obj)) (a : Act), Hd u0 x v u → Kept [] u0 u → St C n D (Hi i) E N (Ri i) a u0 → ∃ y, v = vx x y ∧ St C n D (Hi i) E N (Rx x y ++ Ri i) a u)
    (hpan : ∀ fn, G fn → (∃ x, P.funcs[fn]? = some x) ∨ ∀ c, ¬ Pc c) (hp : Nat.blt p n = true)
    (round : ∀ l dk (rc : Loop) (a0 : Act) pre x y i, rc.state = .ready → rc.pending = none → Fits n E a0 → a0.defers = D → C.w0.heap.size ≤ dk → I pre i → (pre ++ [x]) <+: xs → RK (assign.wpIn (FR (some l)) 0 P (Exit.then (begins P l body (Rr C n D H E Hi Mi Ri I Pc l dk rc a0 (pre ++ [x]))) NoX)) C n [] (Hi i) ((p, true, vx x y) :: E) (Mi i ++ tail2 l dk rc) (Rx x y ++ Ri i))
    (done : ∀ l dk (rc : Loop) i, I xs i → C.w0.heap.size ≤ dk → RK (Q .normal) C n (markD dk :: D) (Hi i) E (Mi i ++ tail2 l dk rc) (Ri i))
    (pan : ∀ ch, Pc ch → PanOk Q C D H ch) : RK (wpB G P (Code.rangeFunc g #[p] assign body) Q) C n D H E M R := by
  intro a w s b k cs hgb hro
  subst hH0; subst hM0; subst hR0
  generalize hrc : ({ state := .ready, pending := none, fn := b.fn, tmps := a.tmps, params := #[p], assign := assign, body := body, defers := w.heap.size } : Loop) = rc
  have he := run_enterLoop_outer (P := P) (w := w) b.fn a.tmps #[p] assign body
  rw [hrc] at he
  have hrc1 : rc.state = .ready := by rw [← hrc]
  have hrc2 : rc.pending = none := by rw [← hrc]
  have s1 : St C n D (Hi i0) E ((w.heap.size + 1, Obj.loop rc) :: (w.heap.size, .deferred (some [])) :: Mi i0) (Ri i0) a ((w.alloc (.deferred (some []))).alloc (.loop rc)) := by
    have h1 := (s.alloc (.deferred (some []))).alloc (.loop rc)
    rw [World.size_alloc] at h1
    exact h1
  have s2 : St C n D (Hi i0) E (Mi i0 ++ tail2 (w.heap.size + 1) w.heap.size rc) (Ri i0) a ((w.alloc (.deferred (some []))).alloc (.loop rc)) := s1.perm (List.perm_append_comm) (.refl _)
  generalize hw1 : (w.alloc (.deferred (some []))).alloc (.loop rc) = w1 at s2 he
  have hdk : C.w0.heap.size ≤ w.heap.size := s.kept.size
  generalize w.heap.size + 1 = l at s2 he
  generalize w.heap.size = dk at s2 he hdk
  have hgv : a.eval g = .func (.func f) us.toArray ws.toArray := s.fits.ev (e1 (b := true) hg) rfl
  have hres : (resolve a.eval (rangeCall g l) 0).run P w1 = .ok { target := .fn (.func f) ws.toArray, args := us.toArray ++ #[.func (.yield l) #[] #[]] } w1 := by
    simp only [resolve, hgv, Deferred.ofValue, Sem.run_pure, List.map_toArray, List.map_cons, List.map_nil]
    rfl
  have hinv : (invoke (.fn (.func f) ws.toArray) (us.toArray ++ #[.func (.yield l) #[] #[]])).run P w1 = .ok (.enter f (us ++ (.func (.yield l) #[] #[]) :: ws).toArray) w1 := by
    have e2 : us.toArray ++ #[.func (.yield l) #[] #[]] ++ ws.toArray = (us ++ (.func (.yield l) #[] #[]) :: ws).toArray := by simp
    simp only [invoke, e2]
    exact hen.enters _ w1
  have one : ∀ {m m' : Machine}, step P m = .next m' → StepsIn (Machine.fenced P Fence.wide) P m m' := fun h => .one (fenced_wide P _) h
  have henter := stepR_rangeFunc (P := P) (b := b) (a := a) (k := k) (cs := cs) (w := w) (w₁ := w1) (by rw [hro]; exact he) hres hinv
  have hcall := hit l (fun pre u => ∃ j, I pre j ∧ St C n D (Hi j) E (Mi j ++ tail2 l dk rc) (Ri j) a u) (fun c u => Pc c ∧ Kept C.S C.w0 u ∧ (Hi i0).In u ∧ u.heap[dk]? = some (.deferred (some []))) w1
    (fun pre u ⟨j, hj, hs⟩ => hs.gin.le (hle _ j hj)) (fun pre u u' ⟨j, hj, hs⟩ hk => ⟨j, hj, hs.call hk (Gh.Le.refl _) (hk.gin hs.gin) (Gh.New.refl _ _)⟩)
    (fun pre x v u0 u hpre ⟨j, hj, hs⟩ hk hh => by
      obtain ⟨y, rfl, hs'⟩ := hand j u0 u x v _ a hh hk hs
      refine ⟨b.fn, a.tmps.setIfInBounds p (vx x y), assign, body, ?_, ?_⟩
      · have hl := hs'.mem _ (List.mem_of_getElem? (get_tail (M := Mi j)))
        have h1 := run_yield (P := P) (args := #[vx x y]) hl (by rw [← hrc]; rfl)
        rw [h1, ← hrc]
        simp
      · have hs2 : St C n [] (Hi j) ((p, true, vx x y) :: E) (Mi j ++ tail2 l dk rc) (Rx x y ++ Ri j) { tmps := a.tmps.setIfInBounds p (vx x y), defers := [] } u := by
          have h1 := hs'.put (d := p) (b := true) (v := vx x y) (u := vx x y) hp rfl
          exact { h1 with fits := ⟨h1.fits.size, h1.fits.get⟩, defs := rfl }
        have hr := round_of (P := P) (l := l) (f := b.fn) (tmps := a.tmps.setIfInBounds p (vx x y)) (assign := assign) (body := body) (w := u) (R := Rr C n D (Hi i0) E Hi Mi Ri I Pc l dk rc a (pre ++ [x]))
          (by
            rcases hpan b.fn hgb with h | h
            · exact .inl h
            · refine .inr fun c w hc => ?_
              rcases hc with ⟨e, _⟩ | ⟨c', e, hc', _⟩
              · cases e
              · exact h _ hc')
          (round l dk rc a pre x y j hrc1 hrc2 s.fits s.defs hdk hj hpre _ u hs2)
        refine hr.mono fun e u' he => ?_
        rcases he with ⟨e1, j', hj', hs''⟩ | ⟨c, e1, h1, h2, h3, h4⟩
        · exact .inl ⟨e1, j', hj', hs''⟩
        · exact .inr ⟨c, e1, h1, h2, h3, h4⟩)
    ⟨i0, hI0, s2⟩
  obtain ⟨e, w₃, fr, hR, hsteps, hfn, hleave⟩ := hcall (b.atR { a with defers := markD dk :: a.defers } (.inRangeFunc l :: k) :: cs)
  have hs0 := (one henter).trans ((StepsIn.of_steps (P := P) (m := lone (Frame.enter P f (us ++ (.func (.yield l) #[] #[]) :: ws).toArray .normal) (b.atR { a with defers := markD dk :: a.defers } (.inRangeFunc l :: k) :: cs) w1) (m₁ := lone fr (b.atR { a with defers := markD dk :: a.defers } (.inRangeFunc l :: k) :: cs) w₃) (by
    rcases hR with ⟨v, he, _⟩ | ⟨c, he, _⟩
    · subst he; exact hsteps
    · subst he; exact hsteps)).mono fun m _ => fenced_wide P m)
  rcases hR with ⟨v, rfl, j, hj, hs⟩ | ⟨c, rfl, h1, h2, h3, h4⟩
  · have hl := hs.mem _ (List.mem_of_getElem? (get_tail (M := Mi j)))
    have hend : (Instr.endLoop l).run P w₃ = .ok none (w₃.putObj l (.loop { rc with state := .exhausted })) := by
      have h := run_endLoop (P := P) hl (by rw [hrc1]; simp)
      simpa [hrc2] using h
    have hs3 := hs.loopobj (o' := .loop { rc with state := .exhausted }) (get_tail (M := Mi j))
    rw [set_tail] at hs3
    refine ⟨.normal, { a with defers := markD dk :: a.defers }, _, done l dk { rc with state := .exhausted } j hj hdk _ _ { hs3 with fits := ⟨hs3.fits.size, hs3.fits.get⟩, defs := by show markD dk :: a.defers = _; rw [s.defs] }, ?_⟩
    refine hs0.trans ((one ?_).trans (one (stepR_endRangeFunc hend)))
    rw [← finish_atR_inRangeFunc l v]
    exact step_leave_returned hleave
  · refine ⟨.panic c, { a with defers := markD dk :: a.defers }, w₃, pan c h1 dk w₃ _ (by show markD dk :: a.defers = _; rw [s.defs]) h2 h3 hdk h4, .inRangeFunc l :: k, hs0.trans (one ?_)⟩
    rw [← Frame.raise_atR]
    exact step_leave_panicked hleave
end Go.Proofs.YtoakoffdjeleoaaGreat
end
section
namespace Go.Proofs.YtoakoffdjeleoaaGreat
open Go.RowKit Go.Shelf
variable {P : Program} {ops : Array Oper} {Q : Exit → Act → World → Prop} {K : Act → World → Prop} {C : Cx} {n : Nat} {D : List Deferred} {H : Gh} {E : Env} {M : List (Nat × Obj)} {R : List Rw} {a : Act} {w : World} {l : List Oper} {o : Oper} {d : Nat} {b : Bool} {v : Value}
def PostG (w : World) (H : Gh) (Rs : Gh → Value → Prop) (Pc : List PanicEntry → Prop) : Ending → World → Prop := fun e w' =>
  Kept [] w w' ∧ ((∃ v H', e = .returned v ∧ H.Le H' ∧ H'.In w' ∧ H.New H' w.heap.size ∧ Rs H' v) ∨ ∃ ch, e = .panicked ch ∧ Pc ch)
def Cg (P : Program) (f : FuncId) (args : List Value) (H : Gh) (Rs : Gh → Value → Prop) (Pc : List PanicEntry → Prop) : Prop := ∀ w, H.In w → Calls P f args.toArray w (PostG w H Rs Pc)
instance {fn : Func} {w0 : World} {H0 : Gh} {Rs : Gh → Value → Prop} : NoOut (bodyPost P fn (Post w0 H0 Rs)) := ⟨fun _ _ ⟨_, _, h, _⟩ => by cases h⟩
instance {fn : Func} {w0 : World} {H0 : Gh} {Rs : Gh → Value → Prop} {Pc : List PanicEntry → Prop} : NoOut (bodyPost P fn (PostG w0 H0 Rs Pc)) := ⟨fun _ _ ⟨_, h⟩ => by
  rcases h with ⟨_, _, h, _⟩ | ⟨_, h, _⟩ <;> cases h⟩
section
variable {Rs : Gh → Value → Prop} {Pc : List PanicEntry → Prop} {fn : Func} {w0 : World} {H0 : Gh}
theorem cg_of {f : FuncId} {c : Code} {args : List Value} (hf : P.funcs[f]? = some fn) (hb : fn.body = some c) (hn : fn.ntmps = n) (ha : Nat.ble args.length n = true) (h : ∀ w0, H.In w0 → RK (c.wp P (bodyPost P fn (PostG w0 H Rs Pc))) ⟨w0, [], H⟩ n [] H (envOf 0 args) [] []) : Cg P f args H Rs Pc := fun w hw => by
  refine calls_of_wp hf hb ?_
  rw [hn]
  exact h w hw _ w (start w [] H hw n args (Nat.le_of_ble_eq_true ha) (by simp) (by simp) (by simp) (by simp))
theorem St.postg (s : St C n D H E M R a w) (hS : C.S = []) (hR : Rs H v) : PostG C.w0 C.H0 Rs Pc (.returned v) w :=
  ⟨by have := s.kept; rwa [hS] at this, .inl ⟨v, H, rfl, s.gle, s.gin, by have := s.gnew; rw [hS] at this; exact this.new, hR⟩⟩
theorem x_retg {rs : List ResultVar} {vs : List Value} (hr : fn.results = rs.toArray) (h : RVs P E M rs vs) (hR : Rs H (oneOf vs)) : RK (bodyPost P fn (PostG w0 H0 Rs Pc) .ret) ⟨w0, [], H0⟩ n [] H E M R := fun _ _ s =>
  ⟨s.defs, _, results_run hr h s, s.postg rfl hR⟩
theorem x_pang {ch : List PanicEntry} (hp : Pc ch) : RK (bodyPost P fn (PostG w0 H0 Rs Pc) (.panic ch)) ⟨w0, [], H0⟩ n [] H E M R := fun _ _ s =>
  ⟨s.defs, s.kept, .inr ⟨ch, rfl, hp⟩⟩
end
section
variable {f : Nat} {xs : List Operand} {at_ : Array TypeId} {vs : List Value} {ty : TypeId} {pos : String} {af : Array Edge} {dst : Option Nat} {Rs : Gh → Value → Prop} {Pc : List PanicEntry → Prop}
theorem x_callg [hen : En P f] (hc : Cg P f vs H Rs Pc) (k : ∀ H' v, H.Le H' → Rs H' v → RK K C n D H' (putE dst v E) M R) (kp : ∀ ch, Pc ch → RK (Q (.panic ch)) C n D H E M R) (hx : Evl E true xs vs := by exact evl_of rfl) (hn : okD n dst = true := by rfl) : RK (SX P ops Q ⟨dst, .call { callee := .value (.func f), args := xs.toArray, argTypes := at_ }, ty, pos, af, none⟩ K) C n D H E M R := fun a w s => by
  unfold SX
  rw [if_pos (by simp [Region.wanted])]
  unfold Oper.wp
  rw [run_call hen.enters (s.fits.evl rfl hx) w, Oper.upon_enter]
  refine (hc w s.gin).mono fun e w' ⟨h0, h⟩ => ?_
  rcases h with ⟨v, H', h1, h2, h3, h4, h5⟩ | ⟨ch, h1, h2⟩
  · subst h1
    exact k H' v h2 h5 _ _ ((s.call h0 h2 h3 h4).putE hn)
  · subst h1
    exact kp ch h2 _ _ (s.call h0 (Gh.Le.refl _) (h0.gin s.gin) (Gh.New.refl _ _))
theorem x_panic {x : Operand} (hx : ev E x = some (true, v)) (hr : ∀ w, (Instr.panic v).run P w = .halt (.panic v) w) (k : RK (Q (.panic [{ v := v, recovered := false }])) C n D H E M R) : RK (SX P ops Q ⟨dst, .panic x, ty, pos, af, none⟩ K) C n D H E M R := fun a w s => by
  unfold SX
  rw [if_pos (by simp [Region.wanted])]
  unfold Oper.wp
  have e : (execOp a.eval ⟨dst, .panic x, ty, pos, af, none⟩).run P w = .halt (.panic v) w := by
    simp only [execOp, s.fits.ev (e1 (b := true) hx) rfl, Sem.run_bind, hr w]
    rfl
  rw [e]
  exact k a w s
theorem x_yield {m lp : Nat} {r : Option Nat} {x y : Operand} {u : Value} {Rq : Ending → World → Prop} (hx : ev E x = some (true, .func (.yield lp) #[] #[])) (hy : ev E y = some (true, u)) (hY : ∀ a w, St C n D H E M R a w → YieldAt Fence.wide 0 P lp #[u] w Rq) (k : ∀ a w e w', St C n D H E M R a w → Rq e w' → (∃ v, e = .returned v ∧ wpListIn (FR r) m P ops Q l (a.put dst v) w') ∨ ∃ c, e = .panicked c ∧ Q (.panic c) a w') : RK (wpListIn (FR r) m P ops Q (⟨dst, .call { callee := .value x, args := #[y], argTypes := at_ }, ty, pos, af, none⟩ :: l)) C n D H E M R := fun a w s => by
  unfold wpListIn
  rw [if_pos (by simp [Region.wanted])]
  refine ⟨fun _ _ => trivial, ?_⟩
  rw [Oper.semAt_eq _ _ _ (fun _ h => by cases h)]
  obtain ⟨fn, tmps, assign, body, hy1, hR⟩ := hY a w s
  have e : (execOp a.eval ⟨dst, .call { callee := .value x, args := #[y], argTypes := at_ }, ty, pos, af, none⟩).run P w = .ok (.round lp fn tmps assign body) w := by
    show ((do let d ← Deferred.ofValue (a.eval x) (#[y].map a.eval); invoke d.target d.args) : Sem Next).run P w = _
    rw [s.fits.ev (e1 (b := true) hx) rfl]
    simp only [Deferred.ofValue, Sem.run_bind, Sem.run_pure, Result.andThen_ok, List.map_toArray, List.map_cons, List.map_nil, s.fits.ev (e1 (b := true) hy) rfl]
    simpa [invoke] using hy1
  rw [e, Oper.uponIn_round]
  refine ⟨fun h => (by cases h), trivial, fun c cs _ => ?_⟩
  obtain ⟨e, w', h1, h2⟩ := hR.2 c cs (room_wide _)
  refine ⟨e, w', ?_, h2⟩
  rcases k a w e w' s h1 with ⟨v, rfl, h⟩ | ⟨c, rfl, h⟩
  · exact h
  · exact h
end
theorem calls_of_wpB {f : FuncId} {fn : Func} {c : Code} {args : Array Value} {w : World} {R : Ending → World → Prop}
    (hf : P.funcs[f]? = some fn) (hb : fn.body = some c)
    (h : wpB (· = f) P c (bodyPostM Fence.wide 0 P fn R) { tmps := args ++ Array.replicate (fn.ntmps - args.size) undef, defers := [] } w) : Calls P f args w R := by
  refine (callsIn_wide (n := 0)).1 ⟨trivial, fun cs hr => ?_⟩
  let b : Frame := { (default : Frame) with fn := f, kind := .normal, roundOf := none }
  have henter : Frame.enter P f args .normal =
      b.atR { tmps := args ++ Array.replicate (fn.ntmps - args.size) undef, defers := [] } [.code c] := by
    simp [Frame.enter, Frame.atR, hf, hb, b]
  obtain ⟨e, a', w', hq, harr⟩ := h b [] cs rfl rfl
  rw [← henter] at harr
  cases e with
  | normal =>
    obtain ⟨e', w'', fr', hR, hs, hfn, hl⟩ := leaves_stepsInM a'.defers .returning w' { b.atR a' [] with mode := .returning } cs rfl rfl rfl hf rfl trivial hr hq
    exact ⟨e', w'', fr', hR, ComesIn.of_steps (StepsIn.trans harr (.one (fenced_wide P _) (stepR_end rfl))) hs, hfn, hl⟩
  | ret =>
    obtain ⟨todo, hs₀⟩ := harr.1 rfl
    obtain ⟨e', w'', fr', hR, hs, hfn, hl⟩ := leaves_stepsInM a'.defers .returning w' { b.atR a' todo with mode := .returning } cs rfl rfl rfl hf rfl trivial hr hq
    exact ⟨e', w'', fr', hR, ComesIn.of_steps hs₀ hs, hfn, hl⟩
  | panic chain =>
    obtain ⟨todo, hs₀⟩ := harr
    obtain ⟨e', w'', fr', hR, hs, hfn, hl⟩ := leaves_stepsInM a'.defers (.panicking chain) w' { b.atR a' todo with mode := .panicking chain } cs rfl rfl rfl hf rfl trivial hr hq
    exact ⟨e', w'', fr', hR, ComesIn.of_steps hs₀ hs, hfn, hl⟩
  | exit id => exact hq.elim
  | goto l => exact hq.elim
  | outgrown => exact ⟨.outgrown, w', b, hq, harr.resolve_left (by simp [b]), rfl, trivial⟩
section
variable {fn : Func} {Rq : Ending → World → Prop} {dk : Nat}
theorem leave_mark {tmps : Array Value} {u : FrameMode} {w : World} (hu : u ≠ .run) (hd : w.heap[dk]? = some (.deferred (some []))) (h : LeavesInM Fence.wide 0 P fn tmps Rq [] u (w.putObj dk (.deferred none))) : LeavesInM Fence.wide 0 P fn tmps Rq [markD dk] u w :=
  ⟨hu, .inl ⟨dk, _, rfl, run_takeDeferred hd, h⟩⟩
theorem St.shut (s : St C n D H E M R a w) {i : Nat} (hi : M[i]? = some (dk, .deferred (some []))) : St C n D H E (M.set i (dk, .deferred none)) R a (w.putObj dk (.deferred none)) := by
  have hg := s.mem _ (List.mem_of_getElem? hi)
  have hl : dk < w.heap.size := (Array.getElem?_eq_some_iff.1 hg).1
  exact s.write hi rfl rfl rfl (by simp) (World.putObj_heap_same hl) (fun k hk => World.putObj_heap_other hk)
theorem pan_mark {w0 : World} {H0 : Gh} {Rs : Gh → Value → Prop} {Pc : List PanicEntry → Prop} {ch : List PanicEntry} (hp : Pc ch) : PanOk (bodyPostM Fence.wide 0 P fn (PostG w0 H0 Rs Pc)) ⟨w0, [], H0⟩ [] H ch := fun dk u a' hd hk _ h1 h2 => by
  show LeavesInM Fence.wide 0 P fn a'.tmps _ a'.defers (.panicking ch) u
  rw [hd]
  have hl : dk < u.heap.size := (Array.getElem?_eq_some_iff.1 h2).1
  refine leave_mark (by simp) h2 ⟨⟨hk.os, hk.tape, hk.output, by have := hk.size; simpa using this, fun b hb hs => ?_, hk.drawn⟩, .inr ⟨ch, rfl, hp⟩⟩
  rw [World.putObj_heap_other (by intro e; subst e; exact absurd hb (Nat.not_lt.2 h1))]
  exact hk.block b hb hs
end
end Go.Proofs.YtoakoffdjeleoaaGreat
end
section
namespace Go.Proofs.YtoakoffdjeleoaaGreat
open Go.RowKit Go.Shelf
variable {P : Program} {ops : Array Oper} {Q : Exit → Act → World → Prop} {K : Act → World → Prop} {C : Cx} {n : Nat} {D : List Deferred} {H : Gh} {E : Env} {M : List (Nat × Obj)} {R : List Rw} {a : Act} {w : World} {l : List Oper} {o : Oper} {d : Nat} {b : Bool} {v : Value}
abbrev KV (κ : Type) := List (κ × Value)
def ents {κ : Type} (mk : κ → Value) (i : Nat) : KV κ → List MapEntry
  | [] => []
  | p :: kv => { key := mk p.1, val := p.2, born := i } :: ents mk (i + 1) kv
def mapObj {κ : Type} (mk : κ → Value) (kv : KV κ) : Obj := .map (ents mk 0 kv).toArray kv.length
def kget {κ : Type} [DecidableEq κ] (kv : KV κ) (k : κ) : Option Value := (kv.find? fun p => decide (p.1 = k)).map (·.2)
def kset {κ : Type} [DecidableEq κ] : KV κ → κ → Value → KV κ
  | [], k, v => [(k, v)]
  | p :: kv, k, v => if p.1 = k then (k, v) :: kv else p :: kset kv k v
theorem kget_kset {κ : Type} [DecidableEq κ] (kv : KV κ) (k : κ) (v : Value) (j : κ) : kget (kset kv k v) j = if j = k then some v else kget kv j := by
  induction kv with
  | nil =>
    by_cases h : j = k
    · subst h; simp [kset, kget]
    · simp [kset, kget, h, Ne.symm h]
  | cons p kv ih =>
    unfold kset
    by_cases e : p.1 = k
    · rw [if_pos e]
      by_cases h : j = k
      · subst h; simp [kget]
      · simp only [kget, List.find?_cons, if_neg h]
        rw [show decide (k = j) = false by simpa using Ne.symm h, show decide (p.1 = j) = false by rw [e]; simpa using Ne.symm h]
    · rw [if_neg e]
      by_cases h : p.1 = j
      · have : j ≠ k := fun h' => e (h.trans h')
        simp [kget, h, this]
      · simp only [kget, List.find?_cons]
        rw [show decide (p.1 = j) = false by simpa using h]
        exact ih
class Kd (P : Program) (k : Nat) {κ : Type} [DecidableEq κ] (mk : κ → Value) : Prop where
  und : ∃ d, P.underlying k = some d ∧ ∀ a b, Instr.sameNow d (mk a) (mk b) = some (decide (a = b))
  chk : ∀ b a w, (Instr.checkKey b 10000 k (mk a)).run P w = .ok () w
  bits : ∀ a, Instr.sameBits 10000 (mk a) (mk a) = true
theorem kd_int {k : Nat} (h : P.underlying k = some (.int .i64)) : Kd P k (fun x : Int => Value.int .i64 x) :=
  ⟨⟨_, h, fun a b => by simp [Instr.sameNow, beq_dec]⟩, fun b a w => MapKept.run_checkKey (k := .int .i64 a) h (by simp [MapKept.IsKey]) b 9999, fun a => by simp [Instr.sameBits]⟩
theorem bytes_beq (a b : ByteArray) : (a == b) = decide (a = b) := by
  obtain ⟨a⟩ := a
  obtain ⟨b⟩ := b
  show (a == b) = _
  rw [Bool.eq_iff_iff]
  simp
theorem kd_str {k : Nat} (h : P.underlying k = some .string) : Kd P k (fun x : ByteArray => Value.string x) :=
  ⟨⟨_, h, fun a b => by
    simp [Instr.sameNow, bytes_beq]⟩, fun b a w => MapKept.run_checkKey (k := .string a) h (by simp [MapKept.IsKey]) b 9999, fun a => by simp [Instr.sameBits, bytes_beq]⟩
section
variable {κ : Type} [DecidableEq κ] {mk : κ → Value}
def kidx : KV κ → κ → Nat → Option (Nat × Value)
  | [], _, _ => none
  | p :: kv, k, i => if p.1 = k then some (i, p.2) else kidx kv k (i + 1)
theorem kidx_get (kv : KV κ) (k : κ) (i : Nat) : (kidx kv k i).map (·.2) = kget kv k := by
  induction kv generalizing i with
  | nil => rfl
  | cons p kv ih =>
    unfold kidx
    by_cases e : p.1 = k
    · rw [if_pos e]; simp [kget, e]
    · rw [if_neg e, ih]
      simp [kget, e]
theorem findNow_ents {dsc : TypeDesc} (hs : ∀ a b, Instr.sameNow dsc (mk a) (mk b) = some (decide (a = b))) (kv : KV κ) (k : κ) (i j : Nat) : Instr.findNow dsc (mk k) (ents mk j kv) i = some (kidx kv k i) := by
  induction kv generalizing i j with
  | nil => rfl
  | cons p kv ih =>
    unfold ents Instr.findNow kidx
    simp only [hs]
    by_cases e : p.1 = k
    · rw [if_pos e, show decide (k = p.1) = true by simpa using e.symm]
    · rw [if_neg e, show decide (k = p.1) = false by simpa using Ne.symm e]
      exact ih _ _
theorem run_findKey {k : Nat} [h : Kd P k mk] (kv : KV κ) (x : κ) (w : World) : (Instr.findKey k (mk x) (ents mk 0 kv)).run P w = .ok (kidx kv x 0) w := by
  obtain ⟨dsc, h1, h2⟩ := h.und
  simp only [Instr.findKey, run_underlying h1, Sem.run_bind, Result.andThen_ok, findNow_ents h2, Sem.run_pure]
class Mp (P : Program) (t : Nat) (k e : outParam Nat) : Prop where
  und : P.underlying t = some (.map k e)
theorem run_getObj {g : Nat} {es : Array MapEntry} {c : Nat} {w : World} (h : w.heap[g]? = some (.map es c)) : (getObj g).run P w = .ok (.map es c) w := by simp [getObj, Sem.run, h]
theorem run_setObj {g : Nat} {es : Array MapEntry} {c : Nat} {o' : Obj} {w : World} (h : w.heap[g]? = some (.map es c)) : (setObj g o').run P w = .ok () (w.putObj g o') := by simp [setObj, Sem.run, h, World.putObj]
theorem run_klookup {t k e g : Nat} [hm : Mp P t k e] [hk : Kd P k mk] {z : Value} [hz : Zv P e z] {kv : KV κ} {x : κ} {w : World} (h : w.heap[g]? = some (mapObj mk kv)) : (Instr.lookup t (.map (some g)) (mk x) false).run P w = .ok ((kget kv x).getD z) w := by
  have hf := run_findKey (P := P) (k := k) (mk := mk) kv x w
  have hg : (getObj g).run P w = .ok (.map (ents mk 0 kv).toArray kv.length) w := run_getObj h
  simp only [Instr.lookup, run_underlying hm.und, Sem.run_bind, Result.andThen_ok, hg, Sem.run_pure, hk.chk, hf]
  have := kidx_get kv x 0
  cases hi : kidx kv x 0 with
  | none =>
    rw [hi] at this
    have h0 : kget kv x = none := by rw [← this]; rfl
    simp [h0, hz.run]
  | some p =>
    rw [hi] at this
    have h0 : kget kv x = some p.2 := by rw [← this]; rfl
    simp [h0]
theorem ents_at (kv : KV κ) (i j : Nat) : (ents mk j kv)[i]? = (kv[i]?).map fun p => { key := mk p.1, val := p.2, born := j + i } := by
  induction kv generalizing i j with
  | nil => simp [ents]
  | cons p kv ih =>
    cases i with
    | zero => simp [ents]
    | succ i => simp only [ents, List.getElem?_cons_succ, ih]; congr 1; funext q; congr 1; omega
theorem kidx_some {kv : KV κ} {k : κ} {i j : Nat} {v : Value} (h : kidx kv k i = some (j, v)) (u : Value) : i ≤ j ∧ (kv[j - i]?).map (·.1) = some k ∧ kset kv k u = kv.set (j - i) (k, u) ∧ j - i < kv.length := by
  induction kv generalizing i with
  | nil => cases h
  | cons p kv ih =>
    unfold kidx at h
    by_cases e : p.1 = k
    · rw [if_pos e] at h
      injection h with h
      injection h with h1 h2
      subst h1
      simp [kset, e]
    · rw [if_neg e] at h
      obtain ⟨h1, h2, h3, h4⟩ := ih h
      have e1 : j - i = (j - (i + 1)) + 1 := by omega
      refine ⟨by omega, ?_, ?_, ?_⟩
      · rw [e1]; simpa using h2
      · rw [e1]; simp only [kset, if_neg e, List.set_cons_succ, h3]
      · simp only [List.length_cons]; omega
theorem kidx_none {kv : KV κ} {k : κ} {i : Nat} (h : kidx kv k i = none) (u : Value) : kset kv k u = kv ++ [(k, u)] := by
  induction kv generalizing i with
  | nil => rfl
  | cons p kv ih =>
    unfold kidx at h
    by_cases e : p.1 = k
    · rw [if_pos e] at h; cases h
    · rw [if_neg e] at h
      simp only [kset, if_neg e, ih h, List.cons_append]
theorem ents_snoc (kv : KV κ) (q : κ × Value) (j : Nat) : ents mk j (kv ++ [q]) = ents mk j kv ++ [{ key := mk q.1, val := q.2, born := j + kv.length }] := by
  induction kv generalizing j with
  | nil => simp [ents]
  | cons p kv ih => simp only [List.cons_append, ents, ih, List.length_cons]; rw [show j + 1 + kv.length = j + (kv.length + 1) by omega]
theorem run_kset {t k e g : Nat} [hm : Mp P t k e] [hk : Kd P k mk] {kv : KV κ} {x : κ} {u : Value} {w : World} (h : w.heap[g]? = some (mapObj mk kv)) : (Instr.mapUpdate t (.map (some g)) (mk x) u).run P w = .ok () (w.putObj g (mapObj mk (kset kv x u))) := by
  have hf := run_findKey (P := P) (k := k) (mk := mk) kv x w
  have hg : (getObj g).run P w = .ok (.map (ents mk 0 kv).toArray kv.length) w := run_getObj h
  simp only [Instr.mapUpdate, run_underlying hm.und, Sem.run_bind, Result.andThen_ok, hg, hk.chk, hf]
  cases hi : kidx kv x 0 with
  | none =>
    have e1 := kidx_none hi u
    simp only [run_setObj h, e1, mapObj, ents_snoc, List.push_toArray, Nat.zero_add, List.length_append, List.length_cons, List.length_nil]
  | some p =>
    obtain ⟨i, v0⟩ := p
    obtain ⟨_, h2, h3, h4⟩ := kidx_some hi u
    rw [Nat.sub_zero] at h2 h3 h4
    have hkey : ((((ents mk 0 kv).toArray[i]?).map (·.key)).getD (mk x)) = mk x := by
      simp only [List.getElem?_toArray, ents_at]
      cases hq : kv[i]? with
      | none => rfl
      | some q => rw [hq] at h2; simp at h2; simp [h2]
    have e2 : (ents mk 0 kv).toArray.modify i (fun e => { e with key := mk x, val := u }) = (ents mk 0 (kv.set i (x, u))).toArray := ?_
    · simp only [hkey, Instr.keyThatStays, hk.bits, if_true, Sem.run_bind, Sem.run_pure, Result.andThen_ok, run_setObj h, h3, mapObj, List.length_set, e2]
    apply Array.ext_getElem?
    intro j
    simp only [Array.getElem?_modify, List.getElem?_toArray, ents_at, List.getElem?_set]
    by_cases e : i = j
    · subst e
      simp [h4, List.getElem?_eq_getElem h4]
    · simp [e]
theorem x_mkmap {t ty : Nat} {pos : String} {af : Array Edge} (mk : κ → Value) (k : ∀ g, C.w0.heap.size ≤ g → RK K C n D H ((d, true, .map (some g)) :: E) ((g, mapObj mk []) :: M) R) (hn : Nat.blt d n = true := by rfl) : RK (SX P ops Q ⟨some d, .makeMap t none, ty, pos, af, none⟩ K) C n D H E M R :=
  x_new (f := fun g => .map (some g)) rfl rfl hn (fun a w s => rfl) k
section
variable {ty : TypeId} {pos : String} {af : Array Edge} {gd : Option (Nat × Bool)}
theorem p_klook {t k e g : Nat} {x y : Operand} (i : Nat) (kv : KV κ) (q : κ) [hm : Mp P t k e] [hk : Kd P k mk] {z : Value} [hz : Zv P e z] (hg : Gd ops E gd b) (hx : Ev E b x (.map (some g))) (hy : Ev E b y (mk q)) (hM : M[i]? = some (g, mapObj mk kv) := by rfl) : PV P ops n E M H ⟨some d, .lookup t x y false, ty, pos, af, gd⟩ d b ((kget kv q).getD z) :=
  ⟨rfl, fun _ hf => hg.want rfl hf, fun hb a w hf hM' _ => by
    have := run_klookup (P := P) (t := t) (x := q) (hM' _ (List.mem_of_getElem? hM))
    simp only [execOp, hf.ev hx hb, hf.ev hy hb, Sem.run_bind, this, Result.andThen_ok, Sem.run_pure]⟩
theorem p_gklook {t k e g : Nat} {x y : Operand} (kv : KV κ) (q : κ) [hm : Mp P t k e] [hk : Kd P k mk] {z : Value} [hz : Zv P e z] (hH : H g = some (mapObj mk kv)) (hg : Gd ops E gd b) (hx : Ev E b x (.map (some g))) (hy : Ev E b y (mk q)) : PV P ops n E M H ⟨some d, .lookup t x y false, ty, pos, af, gd⟩ d b ((kget kv q).getD z) :=
  ⟨rfl, fun _ hf => hg.want rfl hf, fun hb a w hf _ hw => by
    have hh : w.heap[g]? = some (mapObj mk kv) := by
      obtain ⟨o', h1, h2⟩ := hw g _ hH
      rcases h2 with rfl | ⟨_, _, _, _, h, _⟩
      · exact h1
      · cases h
    have := run_klookup (P := P) (t := t) (x := q) hh
    simp only [execOp, hf.ev hx hb, hf.ev hy hb, Sem.run_bind, this, Result.andThen_ok, Sem.run_pure]⟩
theorem x_kset {t k e g : Nat} {x y z : Operand} {dst : Option Nat} (i : Nat) (kv : KV κ) (q : κ) {u : Value} [hm : Mp P t k e] [hk : Kd P k mk] (h : RK K C n D H (putE dst undef E) (M.set i (g, mapObj mk (kset kv q u))) R) (hx : ev E x = some (true, .map (some g)) := by rfl) (hy : ev E y = some (true, mk q) := by rfl) (hz : ev E z = some (true, u) := by rfl) (hM : M[i]? = some (g, mapObj mk kv) := by rfl) (hn : okD n dst = true := by rfl) : RK (SX P ops Q ⟨dst, .mapUpdate t x y z, ty, pos, af, none⟩ K) C n D H E M R := fun a w s => by
  have hh := s.mem _ (List.mem_of_getElem? hM)
  have hl : g < w.heap.size := (Array.getElem?_eq_some_iff.1 hh).1
  have hr := run_kset (P := P) (t := t) (x := q) (u := u) hh
  unfold SX
  rw [if_pos (by simp [Region.wanted])]
  unfold Oper.wp
  simp only [execOp, s.fits.ev (e1 (b := true) hx) rfl, s.fits.ev (e1 (b := true) hy) rfl, s.fits.ev (e1 (b := true) hz) rfl, Sem.run_bind, hr, Result.andThen_ok, Sem.run_pure]
  show K (a.put dst undef) _
  exact h _ _ ((s.write (o' := mapObj mk (kset kv q u)) (w' := w.putObj g (mapObj mk (kset kv q u))) hM rfl rfl rfl (by simp) (World.putObj_heap_same hl) (fun k hk => World.putObj_heap_other hk)).putE hn)
theorem x_kins {t k e g : Nat} {x y z : Operand} {dst : Option Nat} (i : Nat) (kv : KV κ) (q : κ) {u : Value} [hm : Mp P t k e] [hk : Kd P k mk] (h : RK K C n D H (putE dst undef E) (M.set i (g, mapObj mk (kset kv q u))) R) (hx : ev E x = some (true, .map (some g)) := by rfl) (hy : ev E y = some (true, mk q) := by rfl) (hz : ev E z = some (true, u) := by rfl) (hM : M[i]? = some (g, mapObj mk kv) := by rfl) (hn : okD n dst = true := by rfl) : RK (SX P ops Q ⟨dst, .insert t x y z, ty, pos, af, none⟩ K) C n D H E M R := fun a w s => by
  have hh := s.mem _ (List.mem_of_getElem? hM)
  have hl : g < w.heap.size := (Array.getElem?_eq_some_iff.1 hh).1
  have hr := run_kset (P := P) (t := t) (x := q) (u := u) hh
  unfold SX
  rw [if_pos (by simp [Region.wanted])]
  unfold Oper.wp
  simp only [execOp, s.fits.ev (e1 (b := true) hx) rfl, s.fits.ev (e1 (b := true) hy) rfl, s.fits.ev (e1 (b := true) hz) rfl, Sem.run_bind, hr, Result.andThen_ok, Sem.run_pure]
  show K (a.put dst undef) _
  exact h _ _ ((s.write (o' := mapObj mk (kset kv q u)) (w' := w.putObj g (mapObj mk (kset kv q u))) hM rfl rfl rfl (by simp) (World.putObj_heap_same hl) (fun k hk => World.putObj_heap_other hk)).putE hn)
def MapIs {α : Type} (kv : KV κ) (z : Value) (e : α → Value) (f : κ → α) : Prop := ∀ x, (kget kv x).getD z = e (f x)
def upd {α : Type} (f : κ → α) (q : κ) (y : α) : κ → α := fun x => if x = q then y else f x
theorem mapIs_nil {α : Type} {z : Value} {e : α → Value} {y0 : α} (h : e y0 = z) : MapIs ([] : KV κ) z e (fun _ => y0) := fun x => h.symm
theorem mapIs_set {α : Type} {kv : KV κ} {z : Value} {e : α → Value} {f : κ → α} (h : MapIs kv z e f) (q : κ) (y : α) : MapIs (kset kv q (e y)) z e (upd f q y) := fun x => by
  rw [kget_kset]
  unfold upd
  by_cases hx : x = q
  · rw [if_pos hx, if_pos hx]; rfl
  · rw [if_neg hx, if_neg hx]; exact h x
theorem mapIs_to {α : Type} {kv : KV κ} {z : Value} {e : α → Value} {f g : κ → α} (h : MapIs kv z e f) (hg : ∀ x, f x = g x) : MapIs kv z e g := fun x => by rw [h x, hg x]
theorem upd_in (L : List κ) (q x : κ) : upd (fun x => decide (x ∈ L)) q true x = decide (x ∈ L ++ [q]) := by
  unfold upd
  by_cases h : x = q
  · simp [h]
  · simp [h]
section
variable {ty : TypeId} {pos : String} {af : Array Edge} {gd : Option (Nat × Bool)}
theorem p_klooks {t k e g : Nat} {x y : Operand} {u : Value} (i : Nat) (kv : KV κ) (q : κ) [hm : Mp P t k e] [hk : Kd P k mk] {z : Value} [hz : Zv P e z] (hu : (kget kv q).getD z = u) (hg : Gd ops E gd b) (hx : Ev E b x (.map (some g))) (hy : Ev E b y (mk q)) (hM : M[i]? = some (g, mapObj mk kv) := by rfl) : PV P ops n E M H ⟨some d, .lookup t x y false, ty, pos, af, gd⟩ d b u := hu ▸ p_klook i kv q hg hx hy hM
theorem p_gklooks {t k e g : Nat} {x y : Operand} {u : Value} (kv : KV κ) (q : κ) [hm : Mp P t k e] [hk : Kd P k mk] {z : Value} [hz : Zv P e z] (hu : (kget kv q).getD z = u) (hH : H g = some (mapObj mk kv)) (hg : Gd ops E gd b) (hx : Ev E b x (.map (some g))) (hy : Ev E b y (mk q)) : PV P ops n E M H ⟨some d, .lookup t x y false, ty, pos, af, gd⟩ d b u := hu ▸ p_gklook kv q hH hg hx hy
end
abbrev mkI : Int → Value := fun x => .int .i64 x
abbrev mkS : ByteArray → Value := fun x => .string x
end
end
end Go.Proofs.YtoakoffdjeleoaaGreat
end
section
namespace Go.Proofs.YtoakoffdjeleoaaGreat
open Go.RowKit Go.Shelf
def encN (x : Nat) : List Value := [.int .i64 (x : Int)]
structure Sv (α : Type) where
  A : Option Addr
  c : Nat
  l : List α
def encS {α : Type} (s : Sv α) : List Value := [.slice s.A s.l.length s.c]
abbrev svs {α : Type} (L : List (Sv α)) : List (List α) := L.map fun s => s.l
def zS {α : Type} : Sv α := ⟨none, 0, []⟩
def GSets {α : Type} (H : Gh) (enc : α → List Value) (k : Nat) (L : List (Sv α)) : Prop := ∀ s ∈ L, GRow H s.A s.c enc k s.l
variable {α : Type} {H H' : Gh} {enc : α → List Value} {k : Nat} {L : List (Sv α)}
theorem gs_nil : GSets H enc k [] := fun _ h => by cases h
theorem gs_le (h : GSets H enc k L) (hl : H.Le H') : GSets H' enc k L := fun s hs => (h s hs).le hl
theorem gs_snoc (h : GSets H enc k L) {s : Sv α} (hs : GRow H s.A s.c enc k s.l) : GSets H enc k (L ++ [s]) := fun t ht => by
  rcases List.mem_append.1 ht with h1 | h1
  · exact h t h1
  · rw [List.mem_singleton.1 h1]; exact hs
theorem gs_at (h : GSets H enc k L) (i : Nat) (z : Sv α) (hi : i < L.length) : GRow H (L.getD i z).A (L.getD i z).c enc k (L.getD i z).l := h _ (BS.mem_getD hi)
theorem grow_ints {A : Option Addr} {c : Nat} {l : List Nat} (h : GRow H A c encN 1 l) : GRow H A c encI 1 (l.map fun (x : Nat) => (x : Int)) :=
  ⟨by simpa using h.1, h.2.1, fun hp => by
    obtain ⟨b, off, arr, T, fr, h1, h2, h3⟩ := h.2.2 (by simpa using hp)
    refine ⟨b, off, arr, T, fr, h1, h2, fun i x hx j u hu => ?_⟩
    rw [List.getElem?_map] at hx
    cases hl : l[i]? with
    | none => rw [hl] at hx; cases hx
    | some y =>
      rw [hl] at hx
      simp only [Option.map_some, Option.some.injEq] at hx
      subst hx
      exact h3 i y hl j u hu⟩
end Go.Proofs.YtoakoffdjeleoaaGreat
end
section
namespace Go.Proofs.YtoakoffdjeleoaaGreat
open Go.RowKit Go.Shelf
variable {P : Program} {ops : Array Oper} {Q : Exit → Act → World → Prop} {K : Act → World → Prop} {C : Cx} {n : Nat} {D : List Deferred} {H : Gh} {E : Env} {M : List (Nat × Obj)} {R : List Rw} {a : Act} {w : World} {l : List Oper} {o : Oper} {d : Nat} {b : Bool} {v : Value}
theorem k_fm {g : Nat} {ob : Obj} (i : Nat) (h : ∀ H', H.Le H' → H' g = some ob → RK K C n D H' E (M.eraseIdx i) R) (hi : M[i]? = some (g, ob) := by rfl) : RK K C n D H E M R := fun a w s =>
  h (H.add g ob) (Gh.le_add (s.dis _ (List.mem_of_getElem? hi)) ob) (Gh.add_same H g ob) a w (s.freeze hi)
theorem gat_of {g : Nat} {cs : List Value} {T : TypeId} {fr : Nat × Nat} (h : H g = some (.cells cs.toArray T fr)) : GAt H g 0 cs := ⟨_, T, fr, h, fun j u hj => by rw [Nat.zero_add]; simpa using hj⟩
theorem St.anew (s : St C n D H E M R a w) : St ⟨w, [], H⟩ n D H E [] [] a w :=
  ⟨s.fits, s.defs, Kept.refl _ _, by simp, by simp, by simp, s.gin, by simp, Gh.Le.refl _, Gh.NewS.refl _ _ _, by simp, by simp, by simp, by simp, List.Pairwise.nil⟩
section
variable {w1 : World} {ι : Type} {Jw : ι → World → Prop}
theorem k_loopJ {c : Code} {I : ι → Prop} {μ : ι → Nat} (Ei : ι → Env) (i0 : ι) (hI : I i0) (hJ : Jw i0 w1) (stab : ∀ i u u', Jw i u → Kept [] u u' → Jw i u') (hE : sub (Ei i0) E)
    (round : ∀ i, I i → ∀ w2, Jw i w2 → RK (c.wp P (Exit.then (fun a' w' => ∃ j, I j ∧ μ j < μ i ∧ St ⟨w', [], H⟩ n [] H (Ei j) [] [] a' w' ∧ Jw j w') Q)) ⟨w2, [], H⟩ n [] H (Ei i) [] []) : RK ((Code.loop c).wp P Q) ⟨w1, [], H⟩ n [] H E M R := by
  intro a w s
  have hJ' := stab i0 w1 w hJ s.kept
  have s0 : St ⟨w, [], H⟩ n [] H (Ei i0) [] [] a w := { s.anew with fits := s.fits.sub hE }
  clear hJ s
  have key : ∀ m i, μ i = m → I i → ∀ a w, St ⟨w, [], H⟩ n [] H (Ei i) [] [] a w → Jw i w → ∀ (b : Frame) (k : List Item) (cs : List Frame),
      ∃ e a' w', Q e a' w' ∧ Arrives P (lone (b.at a (.code c :: .inLoop c :: k)) cs w) b k cs e a' w' := by
    intro m
    induction m using Nat.strongRecOn with
    | _ m ih =>
      intro i hm hi a w s hJ b k cs
      obtain ⟨e, a₁, w₁, hq, harr⟩ := round i hi w hJ a w s b (.inLoop c :: k) cs
      cases e with
      | normal =>
        obtain ⟨j, hj, hlt, hs, hJ₁⟩ := hq
        obtain ⟨e₂, a₂, w₂, hq₂, harr₂⟩ := ih (μ j) (hm ▸ hlt) j rfl hj a₁ w₁ hs hJ₁ b k cs
        exact ⟨e₂, a₂, w₂, hq₂, .of_steps (Steps.trans harr (.one step_inLoop)) harr₂⟩
      | exit id => exact ⟨_, a₁, w₁, hq, .pass (x := .inLoop c) rfl (fun _ _ => .inl (by simp)) harr⟩
      | goto l => exact ⟨_, a₁, w₁, hq, .pass (x := .inLoop c) rfl (fun _ _ => .inl (by simp)) harr⟩
      | ret => exact ⟨_, a₁, w₁, hq, .pass (x := .inLoop c) rfl (fun _ _ => .inl (by simp)) harr⟩
      | panic ch => exact ⟨_, a₁, w₁, hq, .pass (x := .inLoop c) rfl (fun _ _ => .inl (by simp)) harr⟩
      | outgrown => exact ⟨_, a₁, w₁, hq, .pass (x := .inLoop c) rfl (fun _ _ => .inl (by simp)) harr⟩
  intro b k cs
  obtain ⟨e, a', w', hq, harr⟩ := key _ i0 rfl hI a w s0 hJ' b k cs
  exact ⟨e, a', w', hq, .of_steps (.one step_loop) harr⟩
theorem x_roundJ {I : ι → Prop} {μ : ι → Nat} {Ei : ι → Env} {m : Nat} (j : ι) (hI : I j) (hμ : μ j < m) (hJ : Jw j w1) (stab : ∀ i u u', Jw i u → Kept [] u u' → Jw i u') (hE : sub (Ei j) E) :
    RK (Exit.then (fun a' w' => ∃ j, I j ∧ μ j < m ∧ St ⟨w', [], H⟩ n [] H (Ei j) [] [] a' w' ∧ Jw j w') Q .normal) ⟨w1, [], H⟩ n [] H E M R := fun a w s =>
  ⟨j, hI, hμ, { s.anew with fits := s.fits.sub hE }, stab j w1 w hJ s.kept⟩
end
section
variable {at_ : Array TypeId} {ty : TypeId} {pos : String} {af : Array Edge} {dst : Nat} {α : Type} {J : List α → World → Prop} {Jp : List PanicEntry → World → Prop} {w1 : World} {pre : List α} {x : α}
theorem c_regionY {i : Nat} {l : List Oper} (h : RK (wpListIn (FR none) 0 P l.toArray Q l) C n D H E M R) : RK ((Code.region i l.toArray false).wp P Q) C n D H E M R := fun a w s => (wpIn_wide (n := 0)).1 (wpIn_region_lit (h a w s))
theorem x_yieldJ {lp : Nat} {y z : Operand} {u : Value} {m : Nat} (hx : ev E z = some (true, .func (.yield lp) #[] #[])) (hy : ev E y = some (true, u)) (hJ : J pre w1) (stab : ∀ pre u u', J pre u → Kept [] u u' → J pre u') (hin : ∀ pre u, J pre u → H.In u)
    (hY : ∀ a w, St ⟨w1, [], H⟩ n [] H E M R a w → YieldAt Fence.wide 0 P lp #[u] w fun e u' => (e = .returned (.bool true) ∧ J (pre ++ [x]) u') ∨ ∃ c, e = .panicked c ∧ Jp c u')
    (k : ∀ u', J (pre ++ [x]) u' → RK (wpListIn (FR none) m P ops Q l) ⟨u', [], H⟩ n [] H ((dst, true, .bool true) :: E) [] []) (kp : ∀ c u' a, Jp c u' → a.defers = [] → Q (.panic c) a u') (hn : Nat.blt dst n = true := by rfl) :
    RK (wpListIn (FR none) m P ops Q (⟨some dst, .call { callee := .value z, args := #[y], argTypes := at_ }, ty, pos, af, none⟩ :: l)) ⟨w1, [], H⟩ n [] H E M R :=
  x_yield hx hy hY fun a w e w' s he => by
    rcases he with ⟨rfl, h⟩ | ⟨c, rfl, h⟩
    · refine .inl ⟨_, rfl, k w' h _ _ ?_⟩
      have s' := s.put (d := dst) (b := true) (v := .bool true) (u := .bool true) hn rfl
      exact ⟨s'.fits, s'.defs, Kept.refl _ _, by simp, by simp, by simp, hin _ _ h, by simp, Gh.Le.refl _, Gh.NewS.refl _ _ _, by simp, by simp, by simp, by simp, List.Pairwise.nil⟩
    · exact .inr ⟨c, rfl, kp c w' a h s.defs⟩
def PostJ {α : Type} (xs : List α) (J : List α → World → Prop) (Jp : List PanicEntry → World → Prop) : Ending → World → Prop := fun e w' => (∃ v, e = .returned v ∧ J xs w') ∨ ∃ c, e = .panicked c ∧ Jp c w'
theorem x_endJ {xs : List α} {fn : Func} {e : Exit} (he : e = .ret ∨ e = .normal) (hr : fn.results = #[]) (hJ : J xs w1) (stab : ∀ pre u u', J pre u → Kept [] u u' → J pre u') : RK (bodyPost P fn (PostJ xs J Jp) e) ⟨w1, [], H⟩ n [] H E M R := fun a w s => by
  have h : a.defers = [] ∧ ∃ v, (results fn a.tmps).run P w = .ok v w ∧ PostJ xs J Jp (.returned v) w := ⟨s.defs, _, results_run (rs := []) (vs := []) (by rw [hr]) trivial s, .inl ⟨_, rfl, stab _ w1 w hJ s.kept⟩⟩
  rcases he with rfl | rfl <;> exact h
theorem iter_of {f : FuncId} {fn : Func} {c : Code} {args : Value → List Value} {xs : List α} {Hd : World → α → Value → World → Prop} (hf : P.funcs[f]? = some fn) (hb : fn.body = some c) (hn : fn.ntmps = n) (ha : ∀ y, Nat.ble (args y).length n = true)
    (h : ∀ (l : Nat) (J : List α → World → Prop) (Jp : List PanicEntry → World → Prop) (w0 : World), (∀ pre u, J pre u → H.In u) → (∀ pre u u', J pre u → Kept [] u u' → J pre u') →
      (∀ pre x v u0 u, (pre ++ [x]) <+: xs → J pre u0 → Kept [] u0 u → Hd u0 x v u → YieldAt Fence.wide 0 P l #[v] u fun e u' => (e = .returned (.bool true) ∧ J (pre ++ [x]) u') ∨ ∃ c, e = .panicked c ∧ Jp c u') → J [] w0 →
      RK (c.wp P (bodyPost P fn (PostJ xs J Jp))) ⟨w0, [], H⟩ n [] H (envOf 0 (args (.func (.yield l) #[] #[]))) [] []) : Iter P f args H xs Hd := fun l J Jp w hin stab hY hJ => by
  refine calls_of_wp hf hb ?_
  rw [hn]
  exact h l J Jp w hin stab hY hJ _ w (start w [] H (hin _ _ hJ) n _ (Nat.le_of_ble_eq_true (ha _)) (by simp) (by simp) (by simp) (by simp))
end
end Go.Proofs.YtoakoffdjeleoaaGreat
end
section
namespace Go.Proofs.YtoakoffdjeleoaaGreat
open Go.RowKit Go.Shelf
variable {P : Program} {ops : Array Oper} {Q : Exit → Act → World → Prop} {K : Act → World → Prop} {C : Cx} {n : Nat} {D : List Deferred} {H : Gh} {E : Env} {M : List (Nat × Obj)} {R : List Rw} {a : Act} {w : World} {l : List Oper} {o : Oper} {d : Nat} {b : Bool} {v : Value}
theorem wpB_block {G : FuncId → Prop} {i : Nat} {c : Code} (h : wpB G P c (Exit.inBlock i Q) a w) : wpB G P (Code.block i c) Q a w := by
  intro b k cs hg hro
  have one : ∀ {m m' : Machine}, step P m = .next m' → StepsIn (Machine.fenced P Fence.wide) P m m' := fun h => .one (fenced_wide P _) h
  obtain ⟨e, a₁, w₁, hq, harr⟩ := h b (.inBlock i :: k) cs hg hro
  cases e with
  | normal => exact ⟨.normal, a₁, w₁, hq, (one stepR_block).trans (StepsIn.trans harr (one stepR_inBlock))⟩
  | exit id' =>
    by_cases hid : id' = i
    · simp only [Exit.inBlock, hid, if_true] at hq
      exact ⟨.normal, a₁, w₁, hq, (one stepR_block).trans (harr.1 k (by simp [exitTo, hid]))⟩
    · simp only [Exit.inBlock, hid, if_false] at hq
      have this : (i == id') = false := by simp; exact fun h => hid h.symm
      have hx : exitTo id' (.inBlock i :: k) = exitTo id' k := by simp [exitTo, this]
      exact ⟨.exit id', a₁, w₁, hq, fun k' hk => (one stepR_block).trans (harr.1 k' (by rw [hx]; exact hk)),
        fun hr' hk => let ⟨k₁, h1, h2⟩ := harr.2 hr' (by rw [hx]; exact hk); ⟨k₁, h1, (one stepR_block).trans h2⟩⟩
  | goto l =>
    have hx : gotoIn l (.inBlock i :: k) = gotoIn l k := by simp [gotoIn]
    exact ⟨_, a₁, w₁, hq, fun k' hk => (one stepR_block).trans (harr.1 k' (by rw [hx]; exact hk)),
      fun hr' hk => let ⟨k₁, h1, h2⟩ := harr.2 hr' (by rw [hx]; exact hk); ⟨k₁, h1, (one stepR_block).trans h2⟩⟩
  | ret => exact ⟨_, a₁, w₁, hq, .of_steps (one stepR_block) harr⟩
  | panic ch => exact ⟨_, a₁, w₁, hq, .of_steps (one stepR_block) harr⟩
  | outgrown => exact ⟨_, a₁, w₁, hq, .of_steps (one stepR_block) harr⟩
theorem b_block {G : FuncId → Prop} {i : Nat} {c : Code} (h : RK (wpB G P c (Exit.inBlock i Q)) C n D H E M R) : RK (wpB G P (Code.block i c) Q) C n D H E M R := fun a w s => wpB_block (h a w s)
def noP (Q : Exit → Act → World → Prop) : Exit → Act → World → Prop := fun e a w => match e with
  | .panic _ => False
  | e => Q e a w
theorem noP_le (e : Exit) (a : Act) (w : World) (h : noP Q e a w) : Q e a w := by
  cases e <;> first | exact h | exact h.elim
instance : PF (noP Q) := ⟨fun _ _ _ _ _ h => h⟩
instance [h : NoOut Q] : NoOut (noP Q) := ⟨fun a w k => h.no a w k⟩
instance {β : Type} {w : World} {H : Gh} {S : List Nat} {vf : β → Value} {M' : β → List (Nat × Obj)} {R' : β → List Rw} {F : Gh → β → Prop} {fn : Func} : NoOut (bodyPostM Fence.wide 0 P fn (PostC w H S vf M' R' F)) := ⟨fun _ _ ⟨_, _, h, _⟩ => by cases h⟩
instance {w0 : World} {H0 : Gh} {Rs : Gh → Value → Prop} {Pc : List PanicEntry → Prop} {fn : Func} : NoOut (bodyPostM Fence.wide 0 P fn (PostG w0 H0 Rs Pc)) := ⟨fun _ _ ⟨_, h⟩ => by
  rcases h with ⟨_, _, h, _⟩ | ⟨_, h, _⟩ <;> cases h⟩
instance {β : Type} {w : World} {H : Gh} {S : List Nat} {vf : β → Value} {M' : β → List (Nat × Obj)} {R' : β → List Rw} {F : Gh → β → Prop} {fn : Func} : NoOut (bodyPost P fn (PostC w H S vf M' R' F)) := ⟨fun _ _ ⟨_, _, h, _⟩ => by cases h⟩
theorem wp_noP {c : Code} (h : c.wp P (noP Q) a w) : c.wp P Q a w := fun b k cs => by
  obtain ⟨e, a', w', q, r⟩ := h b k cs
  exact ⟨e, a', w', noP_le e a' w' q, r⟩
section
variable {β : Type} {vf : β → Value} {M' : β → List (Nat × Obj)} {R' : β → List Rw} {F : Gh → β → Prop} {fn : Func} {rs : List ResultVar} {vs : List Value} {dk : Nat}
theorem ccn_of {f : FuncId} {c : Code} {args : List Value} (hf : P.funcs[f]? = some fn) (hb : fn.body = some c) (hn : fn.ntmps = n) (ha : Nat.ble args.length n = true) (h : ∀ w0, H.In w0 → RK (c.wp P (noP (bodyPostM Fence.wide 0 P fn (PostC w0 H (foot M R) vf M' R' F)))) ⟨w0, foot M R, H⟩ n [] H (envOf 0 args) M R) : Cc P f args H M R vf M' R' F := fun w hw ho => by
  refine calls_of_wpB hf hb (wpB_of (wp_noP ?_))
  rw [hn]
  exact h w hw _ w (startc w H hw n args (Nat.le_of_ble_eq_true ha) ho)
theorem x_plainc {w0 : World} {H0 : Gh} {S : List Nat} (y : β) {e : Exit} (he : e = .ret ∨ e = .normal) (hr : fn.results = rs.toArray) (h : RVs P E M rs vs) (hF : F H y) (hv : oneOf vs = vf y := by rfl) (hM : M' y = M := by rfl) (hR : R' y = R := by rfl) : RK (noP (bodyPostM Fence.wide 0 P fn (PostC w0 H0 S vf M' R' F)) e) ⟨w0, S, H0⟩ n [] H E M R := fun a w s => by
  have : LeavesInM Fence.wide 0 P fn a.tmps (PostC w0 H0 S vf M' R' F) a.defers .returning w := by
    rw [s.defs]
    exact ⟨_, results_run hr h s, s.postc y hM hR hF _ (by rw [hv])⟩
  rcases he with rfl | rfl <;> exact this
theorem shut_tail {M : List (Nat × Obj)} {l dk : Nat} {o q q' : Obj} : (M ++ [(l, o), (dk, q)]).set (M.length + 1) (dk, q') = M ++ [(l, o), (dk, q')] := by
  simp [List.set_append]
theorem x_markc {w0 : World} {H0 : Gh} {S : List Nat} {lp : Nat} {ob : Obj} (y : β) {e : Exit} (he : e = .ret ∨ e = .normal) (hr : fn.results = rs.toArray) (h : RVs P E (M' y ++ [(lp, ob), (dk, .deferred none)]) rs vs) (hF : F H y) (hv : oneOf vs = vf y := by rfl) (hM : M' y ++ [(lp, ob), (dk, .deferred (some []))] = M := by rfl) (hR : R' y = R := by rfl) : RK (noP (bodyPostM Fence.wide 0 P fn (PostC w0 H0 S vf M' R' F)) e) ⟨w0, S, H0⟩ n [markD dk] H E M R := fun a w s => by
  subst hM
  have hi : (M' y ++ [(lp, ob), (dk, Obj.deferred (some []))])[(M' y).length + 1]? = some (dk, .deferred (some [])) := by simp
  have s' := s.shut hi
  rw [shut_tail] at s'
  have : LeavesInM Fence.wide 0 P fn a.tmps (PostC w0 H0 S vf M' R' F) a.defers .returning w := by
    rw [s.defs]
    exact leave_mark (by simp) (s.mem _ (List.mem_of_getElem? hi)) ⟨_, results_run hr h s', (s'.forget (M' := M' y) (R' := R) (List.sublist_append_left _ _) (List.Sublist.refl _)).postc y rfl hR hF _ (by rw [hv])⟩
  rcases he with rfl | rfl <;> exact this
end
section
variable {Rs : Gh → Value → Prop} {Pc : List PanicEntry → Prop} {fn : Func} {rs : List ResultVar} {vs : List Value} {dk : Nat} {w0 : World} {H0 : Gh}
theorem cgm_of {f : FuncId} {c : Code} {args : List Value} (hf : P.funcs[f]? = some fn) (hb : fn.body = some c) (hn : fn.ntmps = n) (ha : Nat.ble args.length n = true) (h : ∀ w0, H.In w0 → RK (wpB (· = f) P c (bodyPostM Fence.wide 0 P fn (PostG w0 H Rs Pc))) ⟨w0, [], H⟩ n [] H (envOf 0 args) [] []) : Cg P f args H Rs Pc := fun w hw => by
  refine calls_of_wpB hf hb ?_
  rw [hn]
  exact h w hw _ w (start w [] H hw n args (Nat.le_of_ble_eq_true ha) (by simp) (by simp) (by simp) (by simp))
theorem x_markg {lp : Nat} {ob : Obj} (N : List (Nat × Obj)) {e : Exit} (he : e = .ret ∨ e = .normal) (hr : fn.results = rs.toArray) (h : RVs P E (N ++ [(lp, ob), (dk, .deferred none)]) rs vs) (hR : Rs H (oneOf vs)) (hM : N ++ [(lp, ob), (dk, .deferred (some []))] = M := by rfl) : RK (bodyPostM Fence.wide 0 P fn (PostG w0 H0 Rs Pc) e) ⟨w0, [], H0⟩ n [markD dk] H E M R := fun a w s => by
  subst hM
  have hi : (N ++ [(lp, ob), (dk, Obj.deferred (some []))])[N.length + 1]? = some (dk, .deferred (some [])) := by simp
  have s' := s.shut hi
  rw [shut_tail] at s'
  have : LeavesInM Fence.wide 0 P fn a.tmps (PostG w0 H0 Rs Pc) a.defers .returning w := by
    rw [s.defs]
    exact leave_mark (by simp) (s.mem _ (List.mem_of_getElem? hi)) ⟨_, results_run hr h s', s'.postg rfl hR⟩
  rcases he with rfl | rfl <;> exact this
theorem x_panm {ch : List PanicEntry} (hp : Pc ch) (hM : (dk, Obj.deferred (some [])) ∈ M) : RK (bodyPostM Fence.wide 0 P fn (PostG w0 H0 Rs Pc) (.panic ch)) ⟨w0, [], H0⟩ n [markD dk] H E M R := fun a w s => by
  obtain ⟨i, hi⟩ := List.mem_iff_getElem?.1 hM
  have s' := s.shut hi
  show LeavesInM Fence.wide 0 P fn a.tmps _ a.defers (.panicking ch) w
  rw [s.defs]
  exact leave_mark (by simp) (s.mem _ hM) ⟨s'.kept, .inr ⟨ch, rfl, hp⟩⟩
end
end Go.Proofs.YtoakoffdjeleoaaGreat
end
section
namespace Go.Proofs.YtoakoffdjeleoaaGreat
open Go.RowKit Go.Shelf
structure E4 where
  e0 : Sv BS.Pt
  e1 : Sv BS.Pt
  e2 : Sv BS.Pt
  e3 : Sv BS.Pt
def encE (e : E4) : List Value := [.slice e.e0.A e.e0.l.length e.e0.c, .slice e.e1.A e.e1.l.length e.e1.c, .slice e.e2.A e.e2.l.length e.e2.c, .slice e.e3.A e.e3.l.length e.e3.c]
def zE : E4 := ⟨zS, zS, zS, zS⟩
def PtsOk (H : Gh) (N : Nat) (s : Sv BS.Pt) : Prop := GRow H s.A s.c encPt 2 s.l ∧ (s.A.isNone = false → s.l.length = N)
def E4.Ok (H : Gh) (N : Nat) (e : E4) : Prop := PtsOk H N e.e0 ∧ PtsOk H N e.e1 ∧ PtsOk H N e.e2 ∧ PtsOk H N e.e3
def EndsOk (H : Gh) (N : Nat) (L : List E4) : Prop := ∀ e ∈ L, e.Ok H N
theorem PtsOk.le {H H' : Gh} {N : Nat} {s : Sv BS.Pt} (h : PtsOk H N s) (k : H.Le H') : PtsOk H' N s := ⟨h.1.le k, h.2⟩
theorem EndsOk.le {H H' : Gh} {N : Nat} {L : List E4} (h : EndsOk H N L) (k : H.Le H') : EndsOk H' N L := fun e he => by
  obtain ⟨a, b, c, d⟩ := h e he
  exact ⟨a.le k, b.le k, c.le k, d.le k⟩
theorem EndsOk.set {H : Gh} {N : Nat} {L : List E4} (h : EndsOk H N L) (i : Nat) {e : E4} (he : e.Ok H N) : EndsOk H N (L.set i e) := fun x hx => by
  rcases List.mem_or_eq_of_mem_set hx with h1 | h1
  · exact h x h1
  · rw [h1]; exact he
theorem EndsOk.at_ {H : Gh} {N : Nat} {L : List E4} (h : EndsOk H N L) (i : Nat) (hi : i < L.length) : (L.getD i zE).Ok H N := h _ (BS.mem_getD hi)
theorem ptsok_nil (H : Gh) (N : Nat) : PtsOk H N zS := ⟨GRow.nil _ _ _, fun h => by cases h⟩
theorem endsok_rep (H : Gh) (N n : Nat) : EndsOk H N (List.replicate n zE) := fun e he => by
  rw [List.eq_of_mem_replicate he]
  exact ⟨ptsok_nil H N, ptsok_nil H N, ptsok_nil H N, ptsok_nil H N⟩
def keyW (p : BS.Pt) (k : Int) : Int := if k = 0 then p.x else if k = 1 then IntKind.i64.wrap (-p.x) else if k = 2 then p.y else IntKind.i64.wrap (-p.y)
section
variable {P : Program} {ops : Array Oper} {n : Nat} {H : Gh} {E : Env} {M : List (Nat × Obj)} {d : Nat} {b : Bool} {ty : TypeId} {pos : String} {af : Array Edge} {gd : Option (Nat × Bool)}
theorem p_negw {t : TypeId} {x : Operand} {i : Int} (hg : Gd ops E gd b) (hx : Ev E b x (.int .i64 i)) : PV P ops n E M H ⟨some d, .unOp .neg t x, ty, pos, af, gd⟩ d b (.int .i64 (IntKind.i64.wrap (-i))) :=
  ⟨rfl, fun _ hf => hg.want rfl hf, fun hb a w hf _ _ => by simp only [execOp, hf.ev hx hb]; simp [go_sem]⟩
theorem p_aix {t len e k g p : Nat} {x y : Operand} {i : Int} {q : IntKind} (j : Nat) (hj : i.toNat = j) (hu : P.underlying t = some (.array len e)) [hs : Sz P e k] (hg : Gd ops E gd b) (hx : Ev E b x (.pointer (some ⟨g, p, none⟩))) (hy : Ev E b y (.int q i)) (hi : b = true → 0 ≤ i ∧ i < (len : Int)) : PV P ops n E M H ⟨some d, .indexAddr t x y, ty, pos, af, gd⟩ d b (.pointer (some ⟨g, p + j * k, none⟩)) :=
  ⟨rfl, fun _ hf => hg.want rfl hf, fun hb a w hf _ _ => by
    subst hj
    have e1 : P.elem t = e := by simp [Program.elem, hu]
    have e2 : P.arrayLen t = len := by simp [Program.arrayLen, hu]
    have := run_indexAt_array (P := P) (w := w) t ⟨g, p, none⟩ q i (by rw [e1, e2]; exact hu)
    rw [e1, e2, if_pos (hi hb), hs.run w, Result.andThen_ok, add_at] at this
    simp only [execOp, hf.ev hx hb, hf.ev hy hb, Sem.run_bind, this, Result.andThen_ok, Sem.run_pure]⟩
end
structure Lc where
  (b1 b2 b3 b4 b5 b6 b7 b8 sb : Nat)
  (Ap Al Am Apt Ah AF AB Ae : Option Addr)
  (cp cl cm cpt ch cF cB nB ce : Nat)
  part : List Nat
  l : List BS.Bx
  F : List BS.Fc
  mine : List (Sv Int)
abbrev Lc.caps (q : Lc) : List Value := [.pointer (some ⟨q.b1, 0, none⟩), .pointer (some ⟨q.b2, 0, none⟩), .pointer (some ⟨q.b3, 0, none⟩), .pointer (some ⟨q.b4, 0, none⟩), .pointer (some ⟨q.b5, 0, none⟩), .pointer (some ⟨q.b6, 0, none⟩), .pointer (some ⟨q.b7, 0, none⟩), .pointer (some ⟨q.b8, 0, none⟩)]
structure Lc.Ok (q : Lc) (H : Gh) : Prop where
  h1 : GAt H q.b1 0 [.slice q.Ap q.part.length q.cp]
  h2 : GAt H q.b2 0 [.pointer (some ⟨q.sb, 0, none⟩)]
  h3 : GAt H q.b3 0 [.slice q.Apt q.part.length q.cpt]
  h4 : GAt H q.b4 0 [.slice q.Al q.l.length q.cl]
  h5 : GAt H q.b5 0 [.slice q.Ah q.l.length q.ch]
  h6 : GAt H q.b6 0 [.slice q.AB q.nB q.cB, .slice q.AF q.F.length q.cF]
  h7 : GAt H q.b7 0 [.slice q.Am q.part.length q.cm]
  h8 : GAt H q.b8 0 [.func (.func 240) [].toArray [.pointer (some ⟨q.b1, 0, none⟩), .pointer (some ⟨q.b2, 0, none⟩), .pointer (some ⟨q.b3, 0, none⟩), .pointer (some ⟨q.b4, 0, none⟩), .pointer (some ⟨q.b5, 0, none⟩), .pointer (some ⟨q.b6, 0, none⟩), .pointer (some ⟨q.b7, 0, none⟩), .pointer (some ⟨q.b8, 0, none⟩)].toArray]
  hp : GRow H q.Ap q.cp encN 1 q.part
  hl : GRow H q.Al q.cl encBx 4 q.l
  hF : GRow H q.AF q.cF encFc 9 q.F
  hm : GRow H q.Am q.cm encS 1 q.mine
  hgs : GSets H encI 1 q.mine
theorem Lc.Ok.le {q : Lc} {H H' : Gh} (h : q.Ok H) (k : H.Le H') : q.Ok H' :=
  ⟨h.h1.le k, h.h2.le k, h.h3.le k, h.h4.le k, h.h5.le k, h.h6.le k, h.h7.le k, h.h8.le k, h.hp.le k, h.hl.le k, h.hF.le k, h.hm.le k, gs_le h.hgs k⟩
structure Lc.Fit (q : Lc) : Prop where
  ml : q.part.length = q.mine.length
  nd : q.part.Nodup
  lt : ∀ i ∈ q.part, i < q.l.length
  hV : BS.OkV q.l
  hN : BS.NeV q.l
  hFI : BS.FIn q.F q.l.length
  hmi : ∀ s ∈ q.mine, ∀ x ∈ s.l, 0 ≤ x ∧ x < q.F.length
  hms : ∀ s ∈ q.mine, s.l.length ≤ 1000000
  hpl : q.part.length ≤ 1000000
  hll : q.l.length ≤ 1000000
theorem Lc.Fit.at_ {q : Lc} (h : q.Fit) {k : Nat} (hk : k < q.part.length) : q.part.getD k 0 < q.l.length := h.lt _ (BS.mem_getD hk)
abbrev Lc.leaves (q : Lc) (m k : Nat) (here : List BS.Bx) (pre : List BS.Pt) : List (List BS.Pt) := BS.leaves q.F (svs q.mine) q.part q.l m k here pre
theorem svs_getD {α : Type} (L : List (Sv α)) (i : Nat) : (svs L).getD i [] = (L.getD i zS).l := by
  simp only [svs, List.getD_eq_getElem?_getD, List.getElem?_map]
  cases L[i]? <;> rfl
end Go.Proofs.YtoakoffdjeleoaaGreat
end
section
namespace Go.Proofs.YtoakoffdjeleoaaGreat
open Go.RowKit Go.Shelf
variable {P : Program} {ops : Array Oper} {Q : Exit → Act → World → Prop} {K : Act → World → Prop} {C : Cx} {n : Nat} {D : List Deferred} {H : Gh} {E : Env} {M : List (Nat × Obj)} {R : List Rw}
theorem sub_consb {E' E : Env} {j : Nat} {b : Bool} {v : Value} (h : eget E j = some (b, v)) (k : sub E' E) : sub ((j, b, v) :: E') E := fun i u hi => by
  simp only [eget] at hi
  by_cases e : j = i
  · subst e
    simp only [Nat.beq_refl, cond_true] at hi
    rw [← hi]; exact h
  · have : Nat.beq j i = false := by cases q : Nat.beq j i with
      | false => rfl
      | true => exact absurd (Nat.eq_of_beq_eq_true q) e
    rw [this, cond_false] at hi
    exact k i u hi
section
variable {ι : Type} {c : Code} {I : ι → Prop} {Hi : ι → Gh} {Ei : ι → Env} {Mi : ι → List (Nat × Obj)} {Ri : ι → List Rw}
theorem k_joinc (I : ι → Prop) (Hi : ι → Gh) (Ei : ι → Env) (Mi : ι → List (Nat × Obj)) (Ri : ι → List Rw) (h1 : RK (c.wp P (Exit.then (fun a w => ∃ i, I i ∧ St C n D (Hi i) (Ei i) (Mi i) (Ri i) a w) Q)) C n D H E M R)
    (h2 : ∀ i, I i → RK (Q .normal) C n D (Hi i) (Ei i) (Mi i) (Ri i)) : RK (c.wp P Q) C n D H E M R := fun a w s b k cs => by
  obtain ⟨e, a', w', hq, harr⟩ := h1 a w s b k cs
  refine ⟨e, a', w', ?_, harr⟩
  cases e <;> first | exact hq | (obtain ⟨i, hi, hs⟩ := hq; exact h2 i hi _ _ hs)
theorem x_joined (j : ι) (hI : I j) (hH : Hi j = H) (hE : sub (Ei j) E) (hM : Mi j = M) (hR : Ri j = R) :
    RK (Exit.then (fun a w => ∃ j, I j ∧ St C n D (Hi j) (Ei j) (Mi j) (Ri j) a w) Q .normal) C n D H E M R := fun a w s => by
  subst hH; subst hM; subst hR
  exact ⟨j, hI, s.sub hE⟩
end
end Go.Proofs.YtoakoffdjeleoaaGreat
end
section
namespace BS
theorem parts_mem {p : Pb} {g : List Nat} (h : g ∈ parts p) : ∃ i, i < p.boxes.length ∧ (groupF p).getD i 0 = i ∧ g = partOf (groupF p) i := by
  obtain ⟨i, h1, h2, h3⟩ := mem_partsG.1 h
  exact ⟨i, by rwa [groupF_length] at h1, h2, h3⟩
theorem parts_nodup {p : Pb} {g : List Nat} (h : g ∈ parts p) : g.Nodup := by
  obtain ⟨i, _, _, rfl⟩ := parts_mem h
  exact List.Pairwise.filter _ List.nodup_range
theorem parts_lt {p : Pb} {g : List Nat} (h : g ∈ parts p) : ∀ k ∈ g, k < p.boxes.length := fun k hk => by
  obtain ⟨i, _, _, rfl⟩ := parts_mem h
  have := (mem_partOf.1 hk).1
  rwa [groupF_length] at this
theorem parts_len {p : Pb} {g : List Nat} (h : g ∈ parts p) : g.length ≤ p.boxes.length := by
  obtain ⟨i, _, _, rfl⟩ := parts_mem h
  have := filter_range_le (fun k => (groupF p).getD k 0 == i) (groupF p).length
  rw [groupF_length] at this
  unfold partOf
  rw [groupF_length]
  exact this
theorem parts_count (p : Pb) : (parts p).length ≤ p.boxes.length := by
  unfold parts partsG
  rw [List.length_map]
  have := filter_range_le (fun i => (groupF p).getD i 0 == i) (groupF p).length
  rwa [groupF_length] at this ⊢
theorem parts_closed {p : Pb} (hp : FactsIn p) {g : List Nat} (h : g ∈ parts p) : ∀ f ∈ p.facts, f.a.toNat ∈ g → f.b.toNat ∈ g ∧ (f.kind = 2 → f.c.toNat ∈ g) := fun f hf ha => by
  obtain ⟨i, _, _, rfl⟩ := parts_mem h
  exact facts_of_part hp (groupF_groups hp) hf ha
theorem parts_alone {p : Pb} (hp : FactsIn p) {g : List Nat} (h : g ∈ parts p) (h1 : g.length = 1) : ∀ f ∈ p.facts, f.a.toNat ∉ g := fun f hf ha => by
  obtain ⟨hb, _⟩ := parts_closed hp h f hf ha
  obtain ⟨⟨a1, a2⟩, ⟨b1, b2⟩, hne, _⟩ := hp f hf
  obtain ⟨i, rfl⟩ := List.length_eq_one_iff.1 h1
  simp only [List.mem_singleton] at ha hb
  omega
theorem parts_apart {p : Pb} {g g' : List Nat} (h : g ∈ parts p) (h' : g' ∈ parts p) {k : Nat} (hk : k ∈ g) (hk' : k ∈ g') : g = g' := by
  obtain ⟨i, _, _, rfl⟩ := parts_mem h
  obtain ⟨j, _, _, rfl⟩ := parts_mem h'
  rw [← (mem_partOf.1 hk).2, ← (mem_partOf.1 hk').2]
theorem map_inj_nodup {α β : Type} {f : α → β} {L : List α} (hf : ∀ a ∈ L, ∀ b ∈ L, f a = f b → a = b) (h : L.Nodup) : (L.map f).Nodup := by
  induction L with
  | nil => simp
  | cons a L ih =>
    obtain ⟨h1, h2⟩ := List.nodup_cons.1 h
    rw [List.map_cons, List.nodup_cons]
    refine ⟨fun hm => ?_, ih (fun x hx y hy => hf x (by simp [hx]) y (by simp [hy])) h2⟩
    obtain ⟨b, hb, e⟩ := List.mem_map.1 hm
    rw [hf a (by simp) b (by simp [hb]) e.symm] at h1
    exact h1 hb
theorem parts_distinct (p : Pb) : (parts p).Nodup := by
  unfold parts partsG
  refine map_inj_nodup (fun a ha b hb e => ?_) (List.Pairwise.filter _ List.nodup_range)
  simp only [List.mem_filter, List.mem_range, beq_iff_eq] at ha hb
  have h : a ∈ partOf (groupF p) a := mem_partOf.2 ha
  rw [e] at h
  rw [← (mem_partOf.1 h).2, ha.2]
def findE (p : Pb) : Bool := match narrow p with
  | none => true
  | some l => if 65536 < volMax l (parts p) then false else (parts p).any fun g => decide ((lookL p.facts l g).length = 0)
def findR (p : Pb) : Int := match narrow p with
  | none => 0
  | some l => if 65536 < volMax l (parts p) then 2 else 0
theorem find_none {p : Pb} (h : narrow p = none) : findE p = true ∧ findR p = 0 := by simp [findE, findR, h]
theorem find_large {p : Pb} {l : List Bx} (h : narrow p = some l) (hv : 65536 < volMax l (parts p)) : findE p = false ∧ findR p = 2 := by simp [findE, findR, h, hv]
theorem find_some {p : Pb} {l : List Bx} (h : narrow p = some l) (hv : ¬ 65536 < volMax l (parts p)) : findE p = (parts p).any (fun g => decide ((lookL p.facts l g).length = 0)) ∧ findR p = 0 := by simp [findE, findR, h, hv]
theorem vol_of_max {p : Pb} {l : List Bx} (hv : ¬ 65536 < volMax l (parts p)) {g : List Nat} (hg : g ∈ parts p) : volume l g ≤ 65536 := by
  by_cases h : 65536 < volume l g
  · exact absurd ((volMax_gt (by omega)).2 ⟨g, hg, h⟩) hv
  · omega
theorem find_cases (p : Pb) : findR p = 0 ∨ findR p = 2 := by
  unfold findR
  split
  · exact .inl rfl
  · split
    · exact .inr rfl
    · exact .inl rfl
def setAll (out : List Pt) (part : List Nat) (z : List Pt) (k : Nat) : List Pt := (List.range k).foldl (fun o j => o.set (part.getD j 0) (z.getD j ⟨0, 0⟩)) out
theorem setAll_succ (out : List Pt) (part : List Nat) (z : List Pt) (k : Nat) : setAll out part z (k + 1) = (setAll out part z k).set (part.getD k 0) (z.getD k ⟨0, 0⟩) := by simp [setAll, List.range_succ]
@[simp] theorem setAll_length (out : List Pt) (part : List Nat) (z : List Pt) (k : Nat) : (setAll out part z k).length = out.length := by
  induction k with
  | zero => rfl
  | succ k ih => rw [setAll_succ, List.length_set, ih]
theorem getD_set_pt (l : List Pt) (i j : Nat) (x : Pt) : (l.set i x).getD j ⟨0, 0⟩ = if i = j ∧ i < l.length then x else l.getD j ⟨0, 0⟩ := by
  simp only [List.getD_eq_getElem?_getD, List.getElem?_set]
  by_cases h : i = j
  · subst h
    by_cases h2 : i < l.length
    · simp [h2]
    · simp [h2]
  · simp [h]
theorem setAll_getD {out : List Pt} {part : List Nat} (nd : part.Nodup) (hlt : ∀ i ∈ part, i < out.length) (z : List Pt) : ∀ k, k ≤ part.length → (∀ j, j < k → (setAll out part z k).getD (part.getD j 0) ⟨0, 0⟩ = z.getD j ⟨0, 0⟩) ∧ ∀ i, i ∉ part → (setAll out part z k).getD i ⟨0, 0⟩ = out.getD i ⟨0, 0⟩
  | 0, _ => ⟨fun j h => by omega, fun i _ => rfl⟩
  | k + 1, hk => by
    obtain ⟨h1, h2⟩ := setAll_getD nd hlt z k (by omega)
    have hm : part.getD k 0 ∈ part := mem_getD (by omega)
    refine ⟨fun j hj => ?_, fun i hi => ?_⟩
    · rw [setAll_succ, getD_set_pt]
      by_cases e : j = k
      · subst e; rw [if_pos ⟨rfl, by rw [setAll_length]; exact hlt _ hm⟩]
      · rw [if_neg (fun q => e (nodup_getD nd (by omega) (by omega) q.1.symm))]
        exact h1 j (by omega)
    · rw [setAll_succ, getD_set_pt, if_neg (fun q => hi (by rw [← q.1]; exact hm))]
      exact h2 i hi
def solTo (G : List (List Nat × List Pt)) (n i : Nat) : List Pt := (G.take i).foldl (fun o g => setAll o g.1 g.2 g.1.length) (List.replicate n ⟨0, 0⟩)
theorem solTo_succ (G : List (List Nat × List Pt)) (n : Nat) {i : Nat} (hi : i < G.length) : solTo G n (i + 1) = setAll (solTo G n i) (G.getD i ([], [])).1 (G.getD i ([], [])).2 (G.getD i ([], [])).1.length := by
  rw [solTo, take_succ_getD _ ([], []) hi, List.foldl_append]; rfl
@[simp] theorem solTo_length (G : List (List Nat × List Pt)) (n i : Nat) : (solTo G n i).length = n := by
  unfold solTo
  have : ∀ (L : List (List Nat × List Pt)) (o : List Pt), (L.foldl (fun o g => setAll o g.1 g.2 g.1.length) o).length = o.length := by
    intro L
    induction L with
    | nil => intro o; rfl
    | cons g L ih => intro o; rw [List.foldl_cons, ih, setAll_length]
  rw [this]; simp
theorem solTo_pick {G : List (List Nat × List Pt)} {n : Nat} (hnd : ∀ g ∈ G, g.1.Nodup) (hlt : ∀ g ∈ G, ∀ i ∈ g.1, i < n) (hlen : ∀ g ∈ G, g.2.length = g.1.length)
    (hap : ∀ i j, i < G.length → j < G.length → ∀ k, k ∈ (G.getD i ([], [])).1 → k ∈ (G.getD j ([], [])).1 → i = j) : ∀ i, i ≤ G.length → ∀ j, j < i → pick (solTo G n i) (G.getD j ([], [])).1 = (G.getD j ([], [])).2
  | 0, _ => fun j h => by omega
  | i + 1, hi => fun j hj => by
    have hgi : G.getD i ([], []) ∈ G := mem_getD (by omega)
    have hgj : G.getD j ([], []) ∈ G := mem_getD (by omega)
    obtain ⟨h1, h2⟩ := setAll_getD (out := solTo G n i) (hnd _ hgi) (by rw [solTo_length]; exact hlt _ hgi) (G.getD i ([], [])).2 _ (Nat.le_refl _)
    rw [solTo_succ _ _ (by omega)]
    by_cases e : j = i
    · subst e
      apply List.ext_getElem (by rw [pick, List.length_map, hlen _ hgj])
      intro k k1 k2
      have hk : k < (G.getD j ([], [])).1.length := by rw [← hlen _ hgj]; exact k2
      have := h1 k hk
      simp only [pick, List.getElem_map]
      simp only [List.getD_eq_getElem?_getD (l := (G.getD j ([], [])).1), List.getElem?_eq_getElem hk, List.getD_eq_getElem?_getD (l := (G.getD j ([], [])).2), List.getElem?_eq_getElem k2, Option.getD_some] at this
      exact this
    · rw [← solTo_pick hnd hlt hlen hap i (by omega) j (by omega)]
      apply List.map_congr_left
      intro k hk
      exact h2 k fun hk' => e (hap j i (by omega) (by omega) k hk hk')
theorem sol_of_parts {p : Pb} (hp : FactsIn p) (hn : NeV p.boxes) {l : List Bx} (h : narrow p = some l) {pts : List Pt} (hl : pts.length = p.boxes.length) (hg : ∀ g ∈ parts p, pick pts g ∈ lookL p.facts l g) : Sol p pts := by
  obtain ⟨n1, n2, n3, _⟩ := narrow_len hn h
  have hG := groupF_groups hp
  have hps : ∀ g ∈ parts p, PartSol p l g pts := fun g hgm => (pick_sol n2 (by rw [n1]; exact hp) (parts_nodup hgm) (by rw [n1]; exact parts_lt hgm) (parts_alone hp hgm) (parts_closed hp hgm) p rfl pts (by rw [hl, n1])).1 (hg g hgm)
  have hof : ∀ i, i < p.boxes.length → ∃ g ∈ parts p, i ∈ g := fun i hi => ⟨_, (part_of_place hG.labels i hi).1, (part_of_place hG.labels i hi).2⟩
  refine ⟨⟨hl, fun i hi => ?_⟩, fun f hf => ?_⟩
  · obtain ⟨g, hgm, him⟩ := hof i hi
    exact Bx.has_sub (n3.sub i) ((hps g hgm).2.1 i him)
  · obtain ⟨f1, _⟩ := hp f hf
    obtain ⟨g, hgm, him⟩ := hof f.a.toNat (by omega)
    exact (hps g hgm).2.2 f hf him
theorem headD_mem {α : Type} {L : List α} {z : α} (h : L ≠ []) : L.headD z ∈ L := by
  cases L with
  | nil => exact absurd rfl h
  | cons a L => simp
theorem found_sol {p : Pb} (hp : FactsIn p) (hn : NeV p.boxes) {l : List Bx} (h : narrow p = some l) (hv : ¬ 65536 < volMax l (parts p)) (he : findE p = false) {G : List (List Nat × List Pt)} (hG1 : G.map (·.1) = parts p) (hG2 : ∀ g ∈ G, g.2 = (lookL p.facts l g.1).headD []) : Sol p (solTo G p.boxes.length G.length) := by
  have hm : ∀ g ∈ G, g.1 ∈ parts p := fun g hg => by rw [← hG1]; exact List.mem_map_of_mem hg
  have hne : ∀ g ∈ parts p, lookL p.facts l g ≠ [] := fun g hg h0 => by
    rw [(find_some h hv).1] at he
    have := List.any_eq_false.1 he g hg
    simp [h0] at this
  have hpk := solTo_pick (G := G) (n := p.boxes.length) (fun g hg => parts_nodup (hm g hg)) (fun g hg => parts_lt (hm g hg)) (fun g hg => by rw [hG2 g hg]; exact lookL_len (headD_mem (hne _ (hm g hg))))
    (fun i j hi hj k hk hk' => by
      have hi' : G.getD i ([], []) ∈ G := mem_getD hi
      have hj' : G.getD j ([], []) ∈ G := mem_getD hj
      have e := parts_apart (hm _ hi') (hm _ hj') hk hk'
      have nd := parts_distinct p
      rw [← hG1] at nd
      have e1 : (G.map (·.1))[i]'(by simpa using hi) = (G.map (·.1))[j]'(by simpa using hj) := by
        simpa [List.getD_eq_getElem?_getD, List.getElem?_eq_getElem hi, List.getElem?_eq_getElem hj] using e
      exact (List.getElem_inj nd).1 e1) G.length (Nat.le_refl _)
  refine sol_of_parts hp hn h (by simp) fun g hg => ?_
  rw [← hG1] at hg
  obtain ⟨x, hx, rfl⟩ := List.mem_map.1 hg
  obtain ⟨j, hj, rfl⟩ := List.mem_iff_getElem.1 hx
  have hgd : G.getD j ([], []) = G[j] := by simp [List.getD_eq_getElem?_getD, List.getElem?_eq_getElem hj]
  have := hpk j hj
  rw [hgd] at this
  rw [this, hG2 _ hx]
  exact headD_mem (hne _ (hm _ hx))
theorem spanIn_iff {s : Sp} {lo hi : Int} : spanIn s lo hi = true ↔ lo ≤ s.lo ∧ s.lo ≤ s.hi ∧ s.hi ≤ hi := by
  simp only [spanIn, Bool.and_eq_true, decide_eq_true_eq]; exact ⟨fun ⟨⟨a, b⟩, c⟩ => ⟨a, b, c⟩, fun ⟨a, b, c⟩ => ⟨⟨a, b⟩, c⟩⟩
theorem valid_ok {b : Bx} (h : validB b = true) : OkBx b ∧ b.ne := by
  simp only [validB, Bool.and_eq_true, spanIn_iff] at h
  obtain ⟨⟨h1, h2, h3⟩, h4, h5, h6⟩ := h
  exact ⟨⟨⟨by omega, by omega, by omega, by omega⟩, by omega, by omega, by omega, by omega⟩, h2, h5⟩
theorem formed_in {f : Fc} {n : Nat} (h : formedB f n = true) : FactIn n f := by
  unfold formedB at h
  split at h
  · cases h
  rename_i h0
  simp only [Bool.or_eq_true, Bool.not_eq_true', decide_eq_true_eq, not_or, Bool.not_eq_false] at h0
  obtain ⟨⟨⟨⟨h1, h2⟩, h3⟩, h4⟩, h5⟩ := h0
  simp only [within, Bool.and_eq_true, decide_eq_true_eq] at h2 h3
  refine ⟨⟨h2.1, by omega⟩, ⟨h3.1, by omega⟩, h4, fun hk => ?_, fun hk => ?_⟩
  · rw [if_pos hk] at h
    simp only [within, Bool.and_eq_true, decide_eq_true_eq] at h
    exact ⟨h.1.1.1.1, by omega⟩
  · rw [if_neg hk] at h
    by_cases hc : f.c = 0
    · exact hc
    · rw [if_pos hc] at h; cases h
structure GoodP (p : Pb) : Prop where
  nb : p.boxes.length ≤ 12
  nf : p.facts.length ≤ 60
  hV : OkV p.boxes
  hN : NeV p.boxes
  hF : FactsIn p
theorem getD_all {l : List Bx} {Q : Bx → Prop} (h : ∀ b ∈ l, Q b) (h0 : Q z0) (i : Nat) : Q (l.getD i z0) := by
  rw [List.getD_eq_getElem?_getD]
  cases e : l[i]? with
  | none => exact h0
  | some b => exact h b (List.mem_of_getElem? e)
theorem check_good {p : Pb} (h : checkP p = 0) : GoodP p := by
  unfold checkP at h
  split at h
  · cases h
  rename_i h1
  split at h
  · cases h
  rename_i h2
  split at h
  · cases h
  rename_i h3
  simp only [not_or, Nat.not_lt] at h1
  have hv : ∀ b ∈ p.boxes, validB b = true := fun b hb => by
    cases e : validB b with
    | true => rfl
    | false => exact absurd (List.any_eq_true.2 ⟨b, hb, by simp [e]⟩) h2
  have hf : ∀ f ∈ p.facts, formedB f p.boxes.length = true := fun f hf => by
    cases e : formedB f p.boxes.length with
    | true => rfl
    | false => exact absurd (List.any_eq_true.2 ⟨f, hf, by simp [e]⟩) h3
  exact ⟨h1.1, h1.2, fun i => getD_all (fun b hb => (valid_ok (hv b hb)).1) (by simp [OkBx, z0]) i, fun i => getD_all (fun b hb => (valid_ok (hv b hb)).2) (by simp [Bx.ne, Sp.ne, z0]) i, fun f h => formed_in (hf f h)⟩
def badBox (b : Bx) : Bool := (!(validB b) || decide (1024 < spanSize b.x)) || decide (1024 < spanSize b.y)
theorem check_two {p : Pb} (h : (decide ((12 : Int) < (p.boxes.length : Int)) || decide ((60 : Int) < (p.facts.length : Int))) = true) : checkP p = 2 := by
  simp only [Bool.or_eq_true, decide_eq_true_eq] at h
  unfold checkP
  rw [if_pos (by omega)]
theorem check_small {p : Pb} (h : (decide ((12 : Int) < (p.boxes.length : Int)) || decide ((60 : Int) < (p.facts.length : Int))) = false) : ¬ (12 < p.boxes.length ∨ 60 < p.facts.length) := by
  simp only [Bool.or_eq_false_iff, decide_eq_false_iff_not] at h
  omega
theorem check_box {p : Pb} (h : ¬ (12 < p.boxes.length ∨ 60 < p.facts.length)) {b : Bx} (hb : b ∈ p.boxes) (hb' : badBox b = true) : checkP p = 1 := by
  unfold checkP
  rw [if_neg h]
  exact if_pos (List.any_eq_true.2 ⟨b, hb, hb'⟩)
theorem check_fact {p : Pb} (h : ¬ (12 < p.boxes.length ∨ 60 < p.facts.length)) {f : Fc} (hf : f ∈ p.facts) (hf' : formedB f p.boxes.length = false) : checkP p = 1 := by
  unfold checkP
  rw [if_neg h]
  split
  · rfl
  · rw [if_pos (List.any_eq_true.2 ⟨f, hf, by rw [hf']; rfl⟩)]
theorem check_ok {p : Pb} (h : ¬ (12 < p.boxes.length ∨ 60 < p.facts.length)) (hb : ∀ b ∈ p.boxes, badBox b = false) (hf : ∀ f ∈ p.facts, formedB f p.boxes.length = true) : checkP p = 0 := by
  unfold checkP
  rw [if_neg h]
  refine (if_neg ?_).trans (if_neg ?_)
  · rw [List.any_eq_true]; rintro ⟨b, h1, h2⟩; have := hb b h1; unfold badBox at this; rw [this] at h2; cases h2
  · rw [List.any_eq_true]; rintro ⟨f, h1, h2⟩; rw [hf f h1] at h2; cases h2
theorem valid_x {b : Bx} (h : validB b = true) : -4000000 ≤ b.x.lo ∧ b.x.lo ≤ 4000000 ∧ -4000000 ≤ b.x.hi ∧ b.x.hi ≤ 4000000 := by
  obtain ⟨⟨h1, _⟩, _⟩ := valid_ok h
  omega
theorem valid_y {b : Bx} (h : validB b = true) : -4000000 ≤ b.y.lo ∧ b.y.lo ≤ 4000000 ∧ -4000000 ≤ b.y.hi ∧ b.y.hi ≤ 4000000 := by
  obtain ⟨⟨_, h1⟩, _⟩ := valid_ok h
  omega
def solE (p : Pb) : Bool := if checkP p = 0 then findE p else false
def solR (p : Pb) : Int := if checkP p = 0 then findR p else checkP p
def solveR (p : Pb) : Int := if solR p = 0 then (if solE p = true then 9 else 0) else solR p
end BS
end
section
namespace Go.Proofs.YtoakoffdjeleoaaGreat
open Go.RowKit Go.Shelf
structure Sn where
  g : Nat
  Ap : Option Addr
  cp : Nat
  Ae : Option Addr
  ce : Nat
  part : List Nat
  cnt : Int
  so : Sv BS.Pt
def encSn (s : Sn) : List Value := [.pointer (some ⟨s.g, 0, none⟩)]
def zSn : Sn := ⟨0, none, 0, none, 0, [], 0, zS⟩
def SnOk (H : Gh) (s : Sn) : Prop := GAt H s.g 0 [.slice s.Ap s.part.length s.cp, .int .i64 s.cnt, .slice s.Ae s.part.length s.ce, .slice s.so.A s.so.l.length s.so.c] ∧ GRow H s.Ap s.cp encN 1 s.part ∧ GRow H s.so.A s.so.c encPt 2 s.so.l
def GSns (H : Gh) (L : List Sn) : Prop := ∀ s ∈ L, SnOk H s
variable {H H' : Gh} {L : List Sn}
theorem SnOk.le {s : Sn} (h : SnOk H s) (k : H.Le H') : SnOk H' s := ⟨h.1.le k, h.2.1.le k, h.2.2.le k⟩
theorem sn_nil : GSns H [] := fun _ h => by cases h
theorem sn_le (h : GSns H L) (hl : H.Le H') : GSns H' L := fun s hs => (h s hs).le hl
theorem sn_snoc (h : GSns H L) {s : Sn} (hs : SnOk H s) : GSns H (L ++ [s]) := fun t ht => by
  rcases List.mem_append.1 ht with h1 | h1
  · exact h t h1
  · rw [List.mem_singleton.1 h1]; exact hs
theorem sn_at (h : GSns H L) (i : Nat) (hi : i < L.length) : SnOk H (L.getD i zSn) := h _ (BS.mem_getD hi)
def Told (F : List BS.Fc) (l : List BS.Bx) (L : List Sn) : Prop := ∀ s ∈ L, s.cnt = ((BS.lookL F l s.part).length : Int) ∧ s.so.l = (BS.lookL F l s.part).headD []
theorem told_nil {F : List BS.Fc} {l : List BS.Bx} : Told F l [] := fun _ h => by cases h
theorem told_snoc {F : List BS.Fc} {l : List BS.Bx} (h : Told F l L) {s : Sn} (hs : s.cnt = ((BS.lookL F l s.part).length : Int) ∧ s.so.l = (BS.lookL F l s.part).headD []) : Told F l (L ++ [s]) := fun t ht => by
  rcases List.mem_append.1 ht with h1 | h1
  · exact h t h1
  · rw [List.mem_singleton.1 h1]; exact hs
def Found (H : Gh) (p : BS.Pb) (A : Option Addr) (c : Nat) (S : List Sn) : Prop := GRow H A c encSn 1 S ∧ GSns H S ∧ (BS.findR p = 0 → BS.findE p = false → ∃ l, BS.narrow p = some l ∧ ¬ 65536 < BS.volMax l (BS.parts p) ∧ S.map (·.part) = BS.parts p ∧ Told p.facts l S)
theorem Found.le {p : BS.Pb} {A : Option Addr} {c : Nat} {S : List Sn} (h : Found H p A c S) (k : H.Le H') : Found H' p A c S := ⟨h.1.le k, sn_le h.2.1 k, h.2.2⟩
theorem found_none {p : BS.Pb} (h : BS.findE p = true ∨ BS.findR p = 2) : Found H p none 0 [] := ⟨GRow.nil _ _ _, sn_nil, fun h1 h2 => by
  rcases h with h | h
  · rw [h] at h2; cases h2
  · rw [h] at h1; cases h1⟩
theorem sn_any {F : List BS.Fc} {l : List BS.Bx} {S : List Sn} {G : List (List Nat)} (hm : S.map (·.part) = G) (ht : Told F l S) : S.any (fun s => decide (s.cnt = 0)) = G.any fun g => decide ((BS.lookL F l g).length = 0) := by
  subst hm
  rw [List.any_map]
  induction S with
  | nil => rfl
  | cons s S ih =>
    rw [List.any_cons, List.any_cons, ih fun t h => ht t (by simp [h])]
    congr 1
    show decide (s.cnt = 0) = decide ((BS.lookL F l s.part).length = 0)
    rw [(ht s (by simp)).1, decide_eq_decide]
    omega
def pairs (S : List Sn) : List (List Nat × List BS.Pt) := S.map fun s => (s.part, s.so.l)
@[simp] theorem pairs_length (S : List Sn) : (pairs S).length = S.length := by simp [pairs]
theorem pairs_getD (S : List Sn) (i : Nat) : (pairs S).getD i ([], []) = ((S.getD i zSn).part, (S.getD i zSn).so.l) := by
  simp only [pairs, List.getD_eq_getElem?_getD, List.getElem?_map]
  cases S[i]? <;> rfl
theorem found_sol {p : BS.Pb} (g : BS.GoodP p) {A : Option Addr} {c : Nat} {S : List Sn} (h : Found H p A c S) (h0 : BS.findR p = 0) (he : BS.findE p = false) : BS.Sol p (BS.solTo (pairs S) p.boxes.length S.length) := by
  obtain ⟨l, h1, h2, h3, h4⟩ := h.2.2 h0 he
  have := BS.found_sol g.hF g.hN h1 h2 he (G := pairs S) (by simp only [pairs, List.map_map]; exact h3) (fun q hq => by
    obtain ⟨s, hs, rfl⟩ := List.mem_map.1 hq
    exact (h4 s hs).2)
  rwa [pairs_length] at this
end Go.Proofs.YtoakoffdjeleoaaGreat
end
section
namespace BS
def keepO (L : List Int) (id : Int) : Bool := decide (id = 0) || decide (id ∈ L)
def onlyF (L : List Int) (F : List Fc) : List Fc := F.filter fun f => keepO L f.id
def onlyP (p : Pb) (L : List Int) : Pb := if checkP p = 0 then ⟨p.boxes, onlyF L p.facts⟩ else ⟨[], []⟩
theorem filter_to {α : Type} (p : α → Bool) (l : List α) {i : Nat} (z : α) (hi : i < l.length) : (l.take (i + 1)).filter p = (l.take i).filter p ++ if p (l.getD i z) = true then [l.getD i z] else [] := filter_take_succ hi
def turnF (f : Fc) (t : Bool) : Fc := { f with neg := (f.neg != t) }
def withP (p : Pb) (f : Fc) (t : Bool) : Pb := ⟨p.boxes, p.facts ++ [turnF f t]⟩
def furtherR (p : Pb) (f : Fc) : Int := if checkP p = 0 then (if formedB f p.boxes.length = true then (if 60 ≤ p.facts.length then 2 else 0) else 1) else checkP p
theorem further_bad {p : Pb} {f : Fc} (h : ¬ checkP p = 0) : furtherR p f = checkP p := if_neg h
theorem further_ill {p : Pb} {f : Fc} (h : checkP p = 0) (hf : formedB f p.boxes.length = false) : furtherR p f = 1 := (if_pos h).trans (if_neg (by rw [hf]; decide))
theorem further_full {p : Pb} {f : Fc} (h : checkP p = 0) (hf : formedB f p.boxes.length = true) (h6 : 60 ≤ p.facts.length) : furtherR p f = 2 := (if_pos h).trans ((if_pos hf).trans (if_pos h6))
theorem further_ok {p : Pb} {f : Fc} (h : checkP p = 0) (hf : formedB f p.boxes.length = true) (h6 : ¬ 60 ≤ p.facts.length) : furtherR p f = 0 := (if_pos h).trans ((if_pos hf).trans (if_neg h6))
theorem further_zero {p : Pb} {f : Fc} (h : furtherR p f = 0) : checkP p = 0 ∧ formedB f p.boxes.length = true ∧ p.facts.length < 60 := by
  unfold furtherR at h
  split at h
  · rename_i h1
    split at h
    · rename_i h2
      split at h
      · cases h
      · rename_i h3; exact ⟨h1, h2, by omega⟩
    · cases h
  · rename_i h1; exact absurd h h1
def decideP (p : Pb) (f : Fc) : Int × Int :=
  if furtherR p f ≠ 0 then (0, furtherR p f)
  else if (findR p ≠ 0 ∨ findR (withP p f false) ≠ 0) ∨ findR (withP p f true) ≠ 0 then (0, 2)
  else if findE p = true then (0, 9) else if findE (withP p f true) = true then (2, 0) else if findE (withP p f false) = true then (1, 0) else (3, 0)
theorem with_in {p : Pb} (hp : FactsIn p) {f : Fc} (hf : FactIn p.boxes.length f) (t : Bool) : FactsIn (withP p f t) := fun g hg => by
  rcases List.mem_append.1 hg with h | h
  · exact hp g h
  · rw [List.mem_singleton.1 h]; exact hf
end BS
end
