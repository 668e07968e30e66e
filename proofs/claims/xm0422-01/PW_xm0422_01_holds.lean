import PyProof.Rows.All
import Wide.All
import OpenK.KList
import Wide.FinOn
import PyProof.Draws
import Open.Line
import Lean
import PySem.Challenge.RW_xm0422_01
set_option Elab.async false
namespace Mine
section
/-! limbs: plain arithmetic -/
section

noncomputable def val (w : Nat) : List Nat → Nat
  | [] => 0
  | d :: r => d + 2 ^ w * val w r
noncomputable def Small (w : Nat) (L : List Nat) : Prop := ∀ d ∈ L, d < 2 ^ w

theorem val_append (w : Nat) : ∀ (L M : List Nat), val w (L ++ M) = val w L + 2 ^ (w * L.length) * val w M
  | [], M => by simp [val]
  | d :: r, M => by
    have ih := val_append w r M
    simp only [List.cons_append, val, ih, List.length_cons, Nat.mul_succ, Nat.pow_add]
    rw [Nat.mul_add, Nat.add_assoc, Nat.mul_comm (2 ^ (w * r.length)) (2 ^ w), Nat.mul_assoc]
theorem val_snoc (w : Nat) (L : List Nat) (d : Nat) : val w (L ++ [d]) = val w L + 2 ^ (w * L.length) * d := by
  rw [val_append]; simp [val]
theorem val_lt (w : Nat) : ∀ L, Small w L → val w L < 2 ^ (w * L.length)
  | [], _ => by simp [val]
  | d :: r, h => by
    have ih := val_lt w r fun e he => h e (List.mem_cons_of_mem _ he)
    have hd := h d List.mem_cons_self
    simp only [val, List.length_cons, Nat.mul_succ, Nat.pow_add]
    have h1 : val w r + 1 ≤ 2 ^ (w * r.length) := ih
    have h2 : 2 ^ w * (val w r + 1) ≤ 2 ^ w * 2 ^ (w * r.length) := Nat.mul_le_mul_left _ h1
    rw [Nat.mul_add, Nat.mul_one] at h2
    rw [Nat.mul_comm (2 ^ (w * r.length))]
    omega
theorem val_replicate (w n : Nat) : val w (List.replicate n 0) = 0 := by
  induction n with
  | zero => rfl
  | succ n ih => simp [List.replicate_succ, val, ih]

/-- the one row of limbs without a nought at its end -/
noncomputable def limbs (w n : Nat) : List Nat := if h : n = 0 ∨ w = 0 then [] else (n % 2 ^ w) :: limbs w (n / 2 ^ w)
termination_by n
decreasing_by
  refine Nat.div_lt_self (by omega) ?_
  exact Nat.one_lt_two_pow (by omega)

theorem limbs_zero (w : Nat) : limbs w 0 = [] := by rw [limbs]; simp
theorem limbs_pos {w n : Nat} (hw : 0 < w) (hn : 0 < n) : limbs w n = (n % 2 ^ w) :: limbs w (n / 2 ^ w) := by
  rw [limbs, dif_neg (by omega)]
theorem limbs_small {w : Nat} (hw : 0 < w) (n : Nat) : Small w (limbs w n) := by
  induction n using Nat.strongRecOn with
  | _ n ih =>
    by_cases hn : n = 0
    · subst hn; rw [limbs_zero]; exact fun _ h => nomatch h
    · rw [limbs_pos hw (by omega)]
      intro d hd
      rcases List.mem_cons.mp hd with rfl | hd
      · exact Nat.mod_lt _ (Nat.two_pow_pos w)
      · exact ih _ (Nat.div_lt_self (by omega) (Nat.one_lt_two_pow (by omega))) d hd
theorem val_limbs {w : Nat} (hw : 0 < w) (n : Nat) : val w (limbs w n) = n := by
  induction n using Nat.strongRecOn with
  | _ n ih =>
    by_cases hn : n = 0
    · subst hn; rw [limbs_zero]; rfl
    · rw [limbs_pos hw (by omega), val, ih _ (Nat.div_lt_self (by omega) (Nat.one_lt_two_pow (by omega)))]
      exact Nat.mod_add_div n (2 ^ w)
/-- no nought at the end -/
noncomputable def Top (w : Nat) (L : List Nat) : Prop := L = [] ∨ 2 ^ (w * (L.length - 1)) ≤ val w L
theorem limbs_of {w : Nat} (hw : 0 < w) : ∀ L, Small w L → Top w L → limbs w (val w L) = L
  | [], _, _ => by rw [val, limbs_zero]
  | d :: r, hs, ht => by
    have hd := hs d List.mem_cons_self
    have hr : Small w r := fun e he => hs e (List.mem_cons_of_mem _ he)
    have hp : 0 < 2 ^ w := Nat.two_pow_pos w
    have ht' : 2 ^ (w * r.length) ≤ d + 2 ^ w * val w r := by
      rcases ht with h | h
      · cases h
      · simpa [val] using h
    have e1 : (d + 2 ^ w * val w r) % 2 ^ w = d := by rw [Nat.add_mul_mod_self_left, Nat.mod_eq_of_lt hd]
    have e2 : (d + 2 ^ w * val w r) / 2 ^ w = val w r := by rw [Nat.add_mul_div_left _ _ hp, Nat.div_eq_of_lt hd, Nat.zero_add]
    have hpos : 0 < d + 2 ^ w * val w r := Nat.lt_of_lt_of_le (Nat.two_pow_pos _) ht'
    rw [val, limbs_pos hw hpos, e1, e2]
    congr 1
    refine limbs_of hw r hr ?_
    cases r with
    | nil => exact .inl rfl
    | cons e r' =>
      refine .inr ?_
      simp only [List.length_cons, Nat.add_sub_cancel]
      rw [List.length_cons, Nat.mul_succ, Nat.pow_add] at ht'
      -- 2^(w*len r') * 2^w ≤ d + 2^w * v, d < 2^w
      have h1 : 2 ^ (w * r'.length) < val w (e :: r') + 1 := by
        refine Nat.lt_of_mul_lt_mul_left (a := 2 ^ w) ?_
        rw [Nat.mul_add, Nat.mul_one, Nat.mul_comm (2 ^ w) (2 ^ (w * r'.length))]
        omega
      omega
theorem limbs_top {w : Nat} (hw : 0 < w) (n : Nat) : Top w (limbs w n) := by
  induction n using Nat.strongRecOn with
  | _ n ih =>
    by_cases hn : n = 0
    · subst hn; rw [limbs_zero]; exact .inl rfl
    · refine .inr ?_
      rw [val_limbs hw, limbs_pos hw (by omega), List.length_cons, Nat.add_sub_cancel]
      have := ih (n / 2 ^ w) (Nat.div_lt_self (by omega) (Nat.one_lt_two_pow (by omega)))
      rcases this with h | h
      · rw [h]; simp; omega
      · rw [val_limbs hw] at h
        cases hl : limbs w (n / 2 ^ w) with
        | nil => simp; omega
        | cons a b =>
          rw [hl, List.length_cons, Nat.add_sub_cancel] at h
          rw [List.length_cons, Nat.mul_succ, Nat.pow_add]
          calc 2 ^ (w * b.length) * 2 ^ w ≤ (n / 2 ^ w) * 2 ^ w := Nat.mul_le_mul_right _ h
            _ ≤ n := Nat.div_mul_le_self n (2 ^ w)
theorem limbs_nil {w n : Nat} (hw : 0 < w) : limbs w n = [] ↔ n = 0 := by
  constructor
  · intro h
    have := val_limbs hw n
    rw [h] at this
    exact this.symm
  · rintro rfl; exact limbs_zero w
theorem limbs_len0 {w n : Nat} (hw : 0 < w) : (limbs w n).length = 0 ↔ n = 0 := by rw [List.length_eq_zero_iff, limbs_nil hw]
theorem limbs_one {w n : Nat} (hw : 0 < w) (h0 : 0 < n) (h : n < 2 ^ w) : limbs w n = [n] := by
  rw [limbs_pos hw h0, Nat.mod_eq_of_lt h, Nat.div_eq_of_lt h, limbs_zero]
/-- a number below 2^k has at most k limbs -/
theorem limbs_len {w : Nat} (hw : 0 < w) {n k : Nat} (h : n < 2 ^ k) : (limbs w n).length ≤ k := by
  rcases limbs_top hw n with ht | ht
  · rw [ht]; exact Nat.zero_le _
  · rw [val_limbs hw] at ht
    have h1 : w * ((limbs w n).length - 1) < k := (Nat.pow_lt_pow_iff_right (by decide : 1 < 2)).mp (Nat.lt_of_le_of_lt ht h)
    have h2 : (limbs w n).length - 1 ≤ w * ((limbs w n).length - 1) := Nat.le_mul_of_pos_left _ hw
    omega

theorem getD_eq (L : List Nat) {k : Nat} (h : k < L.length) : L.getD k 0 = L[k] := by
  rw [List.getD_eq_getElem?_getD, List.getElem?_eq_getElem h]; rfl
theorem getD_out (L : List Nat) {k : Nat} (h : L.length ≤ k) : L.getD k 0 = 0 := by
  rw [List.getD_eq_getElem?_getD, List.getElem?_eq_none h]; rfl
theorem getD_small {w : Nat} {L : List Nat} (h : Small w L) (k : Nat) : L.getD k 0 < 2 ^ w := by
  by_cases hk : k < L.length
  · rw [getD_eq L hk]; exact h _ (List.getElem_mem hk)
  · rw [getD_out L (by omega)]; exact Nat.two_pow_pos w
theorem take_succ (L : List Nat) {k : Nat} (h : k < L.length) : L.take (k + 1) = L.take k ++ [L.getD k 0] := by
  rw [getD_eq L h, List.take_succ_eq_append_getElem h]
theorem val_take_succ (w : Nat) (L : List Nat) {k : Nat} (h : k < L.length) : val w (L.take (k + 1)) = val w (L.take k) + 2 ^ (w * k) * L.getD k 0 := by
  rw [take_succ L h, val_snoc, List.length_take, Nat.min_eq_left (Nat.le_of_lt h)]
/-- beyond the end there are noughts -/
theorem val_take_long (w : Nat) (L : List Nat) {k : Nat} (h : L.length ≤ k) : val w (L.take (k + 1)) = val w (L.take k) + 2 ^ (w * k) * L.getD k 0 := by
  rw [List.take_of_length_le (by omega), List.take_of_length_le h, getD_out L h]; simp
theorem val_take_step (w : Nat) (L : List Nat) (k : Nat) : val w (L.take (k + 1)) = val w (L.take k) + 2 ^ (w * k) * L.getD k 0 := by
  by_cases h : k < L.length
  · exact val_take_succ w L h
  · exact val_take_long w L (by omega)
theorem small_snoc {w : Nat} {L : List Nat} {d : Nat} (h : Small w L) (hd : d < 2 ^ w) : Small w (L ++ [d]) := by
  intro e he
  rcases List.mem_append.mp he with he | he
  · exact h e he
  · rw [List.mem_singleton.mp he]; exact hd

/-- one step of a sum with a carry -/
theorem carry_step {w i F c S t : Nat} (h : F + 2 ^ (w * i) * c = S) : (F + 2 ^ (w * i) * ((c + t) % 2 ^ w)) + 2 ^ (w * (i + 1)) * ((c + t) / 2 ^ w) = S + 2 ^ (w * i) * t := by
  have e : 2 ^ (w * (i + 1)) * ((c + t) / 2 ^ w) = 2 ^ (w * i) * (2 ^ w * ((c + t) / 2 ^ w)) := by
    rw [Nat.mul_succ, Nat.pow_add, Nat.mul_assoc]
  have d := Nat.mod_add_div (c + t) (2 ^ w)
  rw [e, Nat.add_assoc, ← Nat.mul_add, d, Nat.mul_add, ← h, Nat.add_assoc]
/-- trailing noughts let go -/
noncomputable def norm : List Nat → List Nat
  | [] => []
  | d :: r => match norm r with
    | [] => if d = 0 then [] else [d]
    | r' => d :: r'
theorem norm_zero : ∀ L : List Nat, (∀ j, j < L.length → L.getD j 0 = 0) → norm L = []
  | [], _ => rfl
  | d :: r, h => by
    have ih := norm_zero r fun j hj => by simpa using h (j + 1) (by simpa using hj)
    have hd : d = 0 := by simpa using h 0 (by simp)
    simp [norm, ih, hd]
theorem norm_take : ∀ (L : List Nat) (k : Nat), k ≤ L.length → (∀ j, k ≤ j → j < L.length → L.getD j 0 = 0) → (k = 0 ∨ L.getD (k - 1) 0 ≠ 0) → norm L = L.take k
  | L, 0, _, h, _ => by rw [List.take_zero]; exact norm_zero L fun j hj => h j (Nat.zero_le _) hj
  | [], k + 1, hk, _, _ => by simp at hk
  | d :: r, k + 1, hk, h, hl => by
    have hl' : (d :: r).getD k 0 ≠ 0 := by rcases hl with h | h; cases h; simpa using h
    have ih := norm_take r k (by simpa using hk) (fun j h1 h2 => by simpa using h (j + 1) (by omega) (by simpa using h2)) (by
      cases k with
      | zero => exact .inl rfl
      | succ k => exact .inr (by simpa using hl'))
    rw [List.take_succ_cons, ← ih]
    cases k with
    | zero =>
      have hd : d ≠ 0 := by simpa using hl'
      rw [List.take_zero] at ih
      simp [norm, ih, hd]
    | succ k =>
      cases hr : norm r with
      | nil =>
        rw [hr] at ih
        cases r with
        | nil => simp at hk
        | cons e r => simp at ih
      | cons e r' => simp [norm, hr]

theorem norm_spec (w : Nat) : ∀ L, Small w L → val w (norm L) = val w L ∧ Small w (norm L) ∧ Top w (norm L)
  | [], h => ⟨rfl, h, .inl rfl⟩
  | d :: r, h => by
    have hd := h d List.mem_cons_self
    obtain ⟨h1, h2, h3⟩ := norm_spec w r fun e he => h e (List.mem_cons_of_mem _ he)
    cases hr : norm r with
    | nil =>
      rw [hr] at h1
      have h1' : val w r = 0 := h1.symm
      by_cases hd0 : d = 0
      · simp only [norm, hr, hd0, if_true, val, h1']
        exact ⟨by simp, fun _ x => (nomatch x), .inl rfl⟩
      · simp only [norm, hr, if_neg hd0, val, h1']
        refine ⟨by simp, fun e he => by rw [List.mem_singleton.mp he]; exact hd, .inr ?_⟩
        simp only [List.length_singleton, Nat.sub_self, Nat.mul_zero, Nat.pow_zero, val]
        omega
    | cons e r' =>
      rw [hr] at h1 h2 h3
      have hn : norm (d :: r) = d :: e :: r' := by simp [norm, hr]
      rw [hn]
      refine ⟨by rw [val, h1]; rfl, fun x hx => ?_, .inr ?_⟩
      · rcases List.mem_cons.mp hx with rfl | hx
        · exact hd
        · exact h2 x hx
      · rcases h3 with h3 | h3
        · cases h3
        · rw [val]
          simp only [List.length_cons, Nat.add_sub_cancel] at h3 ⊢
          rw [Nat.mul_succ, Nat.pow_add, Nat.mul_comm _ (2 ^ w)]
          exact Nat.le_trans (Nat.mul_le_mul_left _ h3) (Nat.le_add_left _ _)
theorem norm_limbs {w : Nat} (hw : 0 < w) {L : List Nat} (h : Small w L) : norm L = limbs w (val w L) := by
  obtain ⟨h1, h2, h3⟩ := norm_spec w L h
  rw [← h1, limbs_of hw _ h2 h3]
theorem val_split (w : Nat) (L : List Nat) {k : Nat} (h : k ≤ L.length) : val w L = val w (L.take k) + 2 ^ (w * k) * val w (L.drop k) := by
  have := val_append w (L.take k) (L.drop k)
  rw [List.take_append_drop, List.length_take, Nat.min_eq_left h] at this
  exact this
theorem small_take {w : Nat} {L : List Nat} (h : Small w L) (k : Nat) : Small w (L.take k) := fun d hd => h d (List.mem_of_mem_take hd)
theorem small_drop {w : Nat} {L : List Nat} (h : Small w L) (k : Nat) : Small w (L.drop k) := fun d hd => h d (List.mem_of_mem_drop hd)
theorem limbs_len_lt {w : Nat} (hw : 0 < w) {x y : Nat} (h : (limbs w x).length < (limbs w y).length) : x < y := by
  rcases limbs_top hw y with ht | ht
  · rw [ht] at h; exact absurd h (Nat.not_lt_zero _)
  · rw [val_limbs hw] at ht
    have h1 := val_lt w _ (limbs_small hw x)
    rw [val_limbs hw] at h1
    exact Nat.lt_of_lt_of_le h1 (Nat.le_trans (Nat.pow_le_pow_right (by decide) (Nat.mul_le_mul_left w (by omega))) ht)
theorem drop_eq_cons (L : List Nat) {k : Nat} (h : k < L.length) : L.drop k = L.getD k 0 :: L.drop (k + 1) := by
  rw [List.drop_eq_getElem_cons h, getD_eq L h]
theorem val_lt_at {w : Nat} {L M : List Nat} {k : Nat} (hs : Small w L) (hL : k < L.length) (hM : k < M.length) (hd : L.drop (k + 1) = M.drop (k + 1)) (h : L.getD k 0 < M.getD k 0) : val w L < val w M := by
  rw [val_split w L (Nat.le_of_lt hL), val_split w M (Nat.le_of_lt hM), drop_eq_cons L hL, drop_eq_cons M hM, hd, val, val]
  have h1 := val_lt w _ (small_take hs k)
  rw [List.length_take, Nat.min_eq_left (Nat.le_of_lt hL)] at h1
  have h2 : 2 ^ (w * k) * (L.getD k 0 + 1) ≤ 2 ^ (w * k) * M.getD k 0 := Nat.mul_le_mul_left _ h
  rw [Nat.mul_add, Nat.mul_one] at h2
  simp only [Nat.mul_add]
  omega
/-- what compare gives -/
noncomputable def cmpI (x y : Nat) : Int := if x < y then -1 else if x = y then 0 else 1
end
end
section
open PySem PySem.W PyProof.Rows PySem.Calls
set_option maxRecDepth 100000
section

theorem drop_last (p : List Value) (y : Value) : (p ++ [y]).toArray.eraseIdxIfInBounds p.length = p.toArray := by
  simp [Array.eraseIdxIfInBounds, List.eraseIdx_append_of_length_le]
theorem pick_back (vs : List Value) : slicePick vs.toArray none none (some (-1)) = vs.reverse.toArray := by
  have hr := pick_run vs.reverse.toArray 0 vs.length
  have hs : sliceRange ((vs.length : Int) - 1) (-1) (-1) = (List.range vs.length).map fun k => vs.length - 1 - k := by
    have hc : ((vs.length : Int) - 1 - -1 - -1 - 1) / (- -1) = vs.length := by rw [show (- -1 : Int) = 1 from rfl, Int.ediv_one]; omega
    by_cases h0 : vs.length = 0
    · simp [sliceRange, h0]
    · rw [sliceRange, if_neg (by decide), if_pos (by omega), hc]
      exact List.map_congr_left fun k hk => by have := List.mem_range.mp hk; omega
  have e : slicePick vs.toArray none none (some (-1)) = ((sliceRange ((vs.length : Int) - 1) (-1) (-1)).filterMap (vs.toArray[·]?)).toArray := rfl
  rw [e, hs]
  congr 1
  have ht : List.take vs.length (List.drop 0 vs.reverse.toArray.toList) = vs.reverse := List.take_of_length_le (by simp)
  rw [ht, List.filterMap_map] at hr
  rw [← hr, List.filterMap_map]
  have hc : (List.range vs.length).map ((vs.toArray[·]?) ∘ fun k => vs.length - 1 - k) = (List.range vs.length).map ((vs.reverse.toArray[·]?) ∘ (0 + ·)) := List.map_congr_left fun k hk => by
    have := List.mem_range.mp hk
    simp [List.getElem?_reverse this]
  have := congrArg (List.filterMap id) hc
  rwa [List.filterMap_map, List.filterMap_map] at this
theorem all_ints {h : Heap} {vs : List Value} {ns : List Int} (hi : IntsAre vs ns) : ReadsAll h vs (ns.map PyData.int) [] := by
  induction hi with
  | nil => exact .nil
  | cons k t _ ih => exact ReadsAll.cons (as := []) (.int k t) ih
theorem ints_read {h : Heap} {a : Addr} {vs : List Value} {ns : List Int} (hl : h.IsList a vs.toArray) (hi : IntsAre vs ns) : Reads h (.ref a) (.list (ns.map PyData.int)) [a] := by
  obtain ⟨o, ho, hc, n, hd⟩ := hl
  exact .list ho hc hd (all_ints hi)
theorem lay_ints (ns : List Int) : PyData.canLayAll0 (ns.map PyData.int) = true := by
  induction ns with
  | nil => rfl
  | cons n r ih => rw [List.map_cons, PyData.canLayAll0, ih]; rfl
theorem deep_ints (ns : List Int) : PyData.depthAll (ns.map PyData.int) ≤ 1 := by
  induction ns with
  | nil => decide
  | cons n r ih => rw [List.map_cons, PyData.depthAll, PyData.depth]; exact Nat.max_le.mpr ⟨by decide, ih⟩
theorem shape_ints (ns : List Int) : PySem.SeqAt.shaped (.list (ns.map PyData.int)) = true := by
  have h1 := deep_ints ns
  simp only [PySem.SeqAt.shaped, PyData.canLay0, lay_ints, PyData.depth, Bool.true_and]
  exact decide_eq_true (by omega)
theorem pure_ints (ns ms : List Int) : SeqAt.noMixAll (ns.map PyData.int) (ms.map PyData.int) = true := by
  induction ns generalizing ms with
  | nil => cases ms <;> simp [SeqAt.noMixAll]
  | cons n r ih => cases ms <;> simp [SeqAt.noMixAll, SeqAt.noMix, ih]
theorem like_ints (ns ms : List Int) : PySem.Spec.sameAll (ns.map PyData.int) (ms.map PyData.int) = decide (ns = ms) := by
  induction ns generalizing ms with
  | nil => cases ms <;> simp [PySem.Spec.sameAll]
  | cons n r ih => cases ms <;> simp [PySem.Spec.sameAll, PySem.Spec.same, ih, Bool.decide_and]; rfl
section
variable {prog : Program} {w : World} {A : Around} {E : Value → Shared → Prop} {s : Shared} {a b : Addr} {vs us : List Value} {ns ms : List Int} {Q : Value → Shared → Prop}
theorem eq_ints (hl : s.heap.IsList a vs.toArray) (hi : IntsAre vs ns) (hl' : s.heap.IsList b us.toArray) (hi' : IntsAre us ms) (hu : A.units + 64 < cLine)
    (h : Q (.bool (decide (ns = ms))) s) : wpAny (model prog w) A (compareOp .Eq (.ref a) (.ref b)) Q E s :=
  eq_dataH_same (ints_read hl hi) (ints_read hl' hi') (shape_ints ns) (shape_ints ms) hu (by rw [SeqAt.noMix, pure_ints]) (by rwa [PySem.Spec.same, like_ints])
theorem ne_ints (hl : s.heap.IsList a vs.toArray) (hi : IntsAre vs ns) (hl' : s.heap.IsList b us.toArray) (hi' : IntsAre us ms) (hu : A.units + 64 < cLine)
    (h : Q (.bool (!decide (ns = ms))) s) : wpAny (model prog w) A (compareOp .NotEq (.ref a) (.ref b)) Q E s :=
  ne_dataH_same (ints_read hl hi) (ints_read hl' hi') (shape_ints ns) (shape_ints ms) hu (by rw [SeqAt.noMix, pure_ints]) (by rwa [PySem.Spec.same, like_ints])
end
end
end
section
open PySem PySem.W PyProof.Rows PySem.Calls
set_option maxRecDepth 100000
section

noncomputable abbrev PH := Addr → Option Obj
noncomputable def PH.le (B B' : PH) : Prop := ∀ b o, B b = some o → B' b = some o
theorem PH.le.refl (B : PH) : B.le B := fun _ _ e => e
theorem PH.le.trans {a b c : PH} (x : a.le b) (y : b.le c) : a.le c := fun p o e => y p o (x p o e)
noncomputable def PH.on (B : PH) (h : Heap) : Prop := ∀ b o, B b = some o → h.get? b = some o
noncomputable def HLe (h h' : Heap) : Prop := ∀ b o, h.get? b = some o → h'.get? b = some o
theorem HLe.refl (h : Heap) : HLe h h := fun _ _ e => e
theorem HLe.trans {a b c : Heap} (x : HLe a b) (y : HLe b c) : HLe a c := fun p o e => y p o (x p o e)

noncomputable abbrev Locs := List (Str × Option Value)
noncomputable def lk : Locs → Str → Option Value
  | [], _ => none
  | p :: r, y => if y = p.1 then p.2 else lk r y

inductive Lk (x : Str) (v : Value) : Locs → Prop
  | here {r : Locs} : Lk x v ((x, some v) :: r)
  | there {p : Str × Option Value} {r : Locs} : Lk x v r → Lk x v (p :: r)
inductive Put (x : Str) (v : Value) : Locs → Locs → Prop
  | here {o : Option Value} {r : Locs} : Put x v ((x, o) :: r) ((x, some v) :: r)
  | there {p : Str × Option Value} {r r' : Locs} : Put x v r r' → Put x v (p :: r) (p :: r')
inductive Gk (x : Str) (v : Value) : List (Str × Value) → Prop
  | here {r : List (Str × Value)} : Gk x v ((x, v) :: r)
  | there {p : Str × Value} {r : List (Str × Value)} : Gk x v r → Gk x v (p :: r)
theorem Gk.mem {x : Str} {v : Value} {l : List (Str × Value)} (h : Gk x v l) : (x, v) ∈ l := by
  induction h with
  | here => exact List.mem_cons_self
  | there _ ih => exact List.mem_cons_of_mem _ ih
theorem Lk.mem {x : Str} {v : Value} {l : Locs} (h : Lk x v l) : (x, some v) ∈ l := by
  induction h with
  | here => exact List.mem_cons_self
  | there _ ih => exact List.mem_cons_of_mem _ ih
theorem lk_of {x : Str} {v : Value} {l : Locs} (h : Lk x v l) (hn : (l.map (·.1)).Nodup) : lk l x = some v := by
  induction h with
  | here => simp [lk]
  | @there p r h ih =>
    simp only [List.map_cons, List.nodup_cons] at hn
    have hx : x ≠ p.1 := fun e => hn.1 (List.mem_map.mpr ⟨_, h.mem, e⟩)
    simp only [lk, if_neg hx]
    exact ih hn.2
theorem Put.names {x : Str} {v : Value} {l l' : Locs} (h : Put x v l l') : l'.map (·.1) = l.map (·.1) := by
  induction h with
  | here => rfl
  | there _ ih => simp only [List.map_cons, ih]
theorem Put.mem {x : Str} {v : Value} {l l' : Locs} (h : Put x v l l') : x ∈ l.map (·.1) := by
  induction h with
  | here => exact List.mem_cons_self
  | there _ ih => exact List.mem_cons_of_mem _ ih
theorem Put.lk {x : Str} {v : Value} {l l' : Locs} (h : Put x v l l') (hn : (l.map (·.1)).Nodup) : lk l' = fun y => if y = x then some v else lk l y := by
  induction h with
  | here => funext y; by_cases hy : y = x <;> simp [Mine.lk, hy]
  | @there p r r' h ih =>
    simp only [List.map_cons, List.nodup_cons] at hn
    have hx : x ≠ p.1 := fun e => hn.1 (e ▸ h.mem)
    funext y
    by_cases hy : y = p.1
    · have : y ≠ x := fun e => hx (e ▸ hy)
      simp [Mine.lk, hy, Ne.symm hx]
    · simp only [Mine.lk, if_neg hy, ih hn.2]

/-- what is fixed while one frame runs -/
structure Fx where
  env : Env
  W : Heap
  s₀ : Shared
  B₀ : PH
  G : List (Str × Value)

structure Fx.Ok (c : Fx) : Prop where
  kind : c.env.scope.kind = .function
  gl : ∀ p ∈ c.G, c.env.kindOf p.1 = some .globalImplicit ∧ (p.1 == ("__debug__" : Str)) = false ∧
    ∀ (M : Model) (A : Around) (Q : Value → Shared → Prop) (E : Value → Shared → Prop) (s : Shared), HLe c.W s.heap → Q p.2 s → wpAny M A (loadGlobal c.env p.1) Q E s
  w : HLe c.W c.s₀.heap
  b : c.B₀.on c.s₀.heap

structure St (c : Fx) (B : PH) (mu : List (Addr × Obj)) (l : Locs) (s : Shared) : Prop where
  ok : c.Ok
  up : ∃ h tk, s = { c.s₀ with heap := h, toks := tk }
  ns : s.heap.Ns c.env.locals (lk l)
  nd : (l.map (·.1)).Nodup
  kinds : ∀ x ∈ l.map (·.1), c.env.kindOf x = some .local
  old : HLe c.s₀.heap s.heap
  keep : B.on s.heap
  ext : c.B₀.le B
  fresh : ∀ b o, B b = some o → c.B₀ b = some o ∨ c.s₀.heap.get? b = none
  off : B c.env.locals = none
  offL : c.s₀.heap.get? c.env.locals = none
  cur : ∀ p ∈ mu, s.heap.get? p.1 = some p.2 ∧ p.1 ≠ c.env.locals ∧ B p.1 = none ∧ c.s₀.heap.get? p.1 = none
  mnd : (mu.map (·.1)).Nodup

section
variable {c : Fx} {B : PH} {mu : List (Addr × Obj)} {l l' : Locs} {s : Shared}

theorem St.glob (S : St c B mu l s) : HLe c.W s.heap := S.ok.w.trans S.old
theorem St.get {b : Addr} {o : Obj} (S : St c B mu l s) (h : B b = some o) : s.heap.get? b = some o := S.keep b o h
theorem St.tok (S : St c B mu l s) (t : Nat) : St c B mu l { s with toks := t } := by
  obtain ⟨h, tk, rfl⟩ := S.up
  exact ⟨S.ok, ⟨h, t, rfl⟩, S.ns, S.nd, S.kinds, S.old, S.keep, S.ext, S.fresh, S.off, S.offL, S.cur, S.mnd⟩

/-- the heap changes at no object that is watched -/
theorem St.heap {h : Heap} (S : St c B mu l s) (tk : Nat) (hk : ∀ b o, s.heap.get? b = some o → h.get? b = some o) : St c B mu l { s with heap := h, toks := tk } := by
  obtain ⟨h', tk', rfl⟩ := S.up
  exact ⟨S.ok, ⟨h, tk, rfl⟩, S.ns.keeps hk, S.nd, S.kinds, S.old.trans hk, fun b o e => hk b o (S.keep b o e), S.ext, S.fresh, S.off, S.offL, fun p hp => ⟨hk _ _ (S.cur p hp).1, (S.cur p hp).2⟩, S.mnd⟩
theorem St.heap' {h : Heap} (S : St c B mu l s) (hk : ∀ b o, s.heap.get? b = some o → h.get? b = some o) : St c B mu l { s with heap := h } := S.heap s.toks hk

theorem St.local {h : Heap} (S : St c B mu l s) (tk : Nat) (hn : h.Ns c.env.locals (lk l')) (hs : Heap.SameBut c.env.locals s.heap h) (hnames : l'.map (·.1) = l.map (·.1)) : St c B mu l' { s with heap := h, toks := tk } := by
  obtain ⟨h', tk', rfl⟩ := S.up
  have ne : ∀ b o, c.s₀.heap.get? b = some o → b ≠ c.env.locals := fun b o e q => by rw [q, S.offL] at e; cases e
  have neB : ∀ b o, B b = some o → b ≠ c.env.locals := fun b o e q => by rw [q, S.off] at e; cases e
  exact ⟨S.ok, ⟨h, tk, rfl⟩, hn, hnames ▸ S.nd, hnames ▸ S.kinds, fun b o e => hs.extBut b o (ne b o e) (S.old b o e), fun b o e => hs.extBut b o (neB b o e) (S.keep b o e), S.ext, S.fresh, S.off, S.offL,
    fun p hp => ⟨hs.extBut _ _ (S.cur p hp).2.1 (S.cur p hp).1, (S.cur p hp).2⟩, S.mnd⟩

/-- freeze: the frozen part grows by what stands new in the heap -/
noncomputable def PH.add (B : PH) (a : Addr) (o : Obj) : PH := fun b => if b = a then some o else B b
theorem PH.add_self (B : PH) (a : Addr) (o : Obj) : B.add a o a = some o := by simp [PH.add]
theorem PH.add_le {B : PH} {a : Addr} {o : Obj} (h : B a = none) : B.le (B.add a o) := fun b x e => by
  have : b ≠ a := fun q => by rw [q, h] at e; cases e
  simp only [PH.add, if_neg this]; exact e

theorem St.alloc {o : Obj} (S : St c B mu l s) (hf : o.isFreed = false) : St c (B.add s.heap.objs.size o) mu l { s with heap := s.heap.push o } ∧ B.le (B.add s.heap.objs.size o) ∧ B s.heap.objs.size = none := by
  have nB : B s.heap.objs.size = none := by
    cases e : B s.heap.objs.size with
    | none => rfl
    | some x => exact absurd (Heap.lt_size (S.keep _ _ e)) (Nat.lt_irrefl _)
  refine ⟨?_, PH.add_le nB, nB⟩
  have T := S.heap' (h := s.heap.push o) fun b x e => Heap.get?_push_of_some _ e
  have nL : c.env.locals ≠ s.heap.objs.size := Nat.ne_of_lt S.ns.lt
  refine ⟨T.ok, T.up, T.ns, T.nd, T.kinds, T.old, fun b x e => ?_, S.ext.trans (PH.add_le nB), fun b x e => ?_, ?_, T.offL, fun p hp => ?_, T.mnd⟩
  · by_cases hb : b = s.heap.objs.size
    · subst hb
      rw [PH.add_self] at e
      cases e
      exact Heap.get?_push_size _ hf
    · simp only [PH.add, if_neg hb] at e
      exact T.keep b x e
  · by_cases hb : b = s.heap.objs.size
    · subst hb
      refine .inr ?_
      cases e' : c.s₀.heap.get? s.heap.objs.size with
      | none => rfl
      | some x => exact absurd (Heap.lt_size (S.old _ _ e')) (Nat.lt_irrefl _)
    · simp only [PH.add, if_neg hb] at e
      exact T.fresh b x e
  · simp only [PH.add, if_neg nL]; exact S.off
  · obtain ⟨h1, h2, h3, h4⟩ := T.cur p hp
    have : p.1 ≠ s.heap.objs.size := fun q => absurd (Heap.lt_size (S.cur p hp).1) (by rw [q]; exact Nat.lt_irrefl _)
    exact ⟨h1, h2, by simp only [PH.add, if_neg this]; exact h3, h4⟩

theorem St.allocM {o : Obj} (S : St c B mu l s) (hf : o.isFreed = false) : St c B ((s.heap.objs.size, o) :: mu) l { s with heap := s.heap.push o } := by
  have T := S.heap' (h := s.heap.push o) fun b x e => Heap.get?_push_of_some _ e
  have nL : s.heap.objs.size ≠ c.env.locals := Nat.ne_of_gt S.ns.lt
  refine ⟨T.ok, T.up, T.ns, T.nd, T.kinds, T.old, T.keep, T.ext, T.fresh, T.off, T.offL, fun p hp => ?_, ?_⟩
  · rcases List.mem_cons.mp hp with rfl | hp
    · refine ⟨Heap.get?_push_size _ hf, nL, ?_, ?_⟩
      · cases e : B s.heap.objs.size with
        | none => rfl
        | some x => exact absurd (Heap.lt_size (S.keep _ _ e)) (Nat.lt_irrefl _)
      · cases e' : c.s₀.heap.get? s.heap.objs.size with
        | none => rfl
        | some x => exact absurd (Heap.lt_size (S.old _ _ e')) (Nat.lt_irrefl _)
    · exact T.cur p hp
  · simp only [List.map_cons, List.nodup_cons]
    refine ⟨fun hm => ?_, S.mnd⟩
    obtain ⟨p, hp, e⟩ := List.mem_map.mp hm
    exact absurd (Heap.lt_size (S.cur p hp).1) (by rw [e]; exact Nat.lt_irrefl _)

/-- the head of the ledger is frozen -/
theorem St.freeze {a : Addr} {o : Obj} (S : St c B ((a, o) :: mu) l s) : St c (B.add a o) mu l s ∧ B.le (B.add a o) := by
  obtain ⟨h1, h2, h3, h4⟩ := S.cur (a, o) List.mem_cons_self
  have nd := S.mnd
  simp only [List.map_cons, List.nodup_cons] at nd
  refine ⟨⟨S.ok, S.up, S.ns, S.nd, S.kinds, S.old, fun b x e => ?_, S.ext.trans (PH.add_le h3), fun b x e => ?_, ?_, S.offL, fun p hp => ?_, nd.2⟩, PH.add_le h3⟩
  · by_cases hb : b = a
    · subst hb; rw [PH.add_self] at e; cases e; exact h1
    · simp only [PH.add, if_neg hb] at e; exact S.keep b x e
  · by_cases hb : b = a
    · subst hb; exact .inr h4
    · simp only [PH.add, if_neg hb] at e; exact S.fresh b x e
  · have h2' : c.env.locals ≠ a := fun q => h2 q.symm
    simp only [PH.add, if_neg h2']; exact S.off
  · obtain ⟨g1, g2, g3, g4⟩ := S.cur p (List.mem_cons_of_mem _ hp)
    have : p.1 ≠ a := fun q => nd.1 (List.mem_map.mpr ⟨p, hp, q⟩)
    exact ⟨g1, g2, by simp only [PH.add, if_neg this]; exact g3, g4⟩

/-- the head of the ledger is changed -/
theorem St.upd {a : Addr} {o o' : Obj} {h : Heap} (S : St c B ((a, o) :: mu) l s) (tk : Nat) (hs : Heap.ExtBut a s.heap h) (ho : h.get? a = some o') : St c B ((a, o') :: mu) l { s with heap := h, toks := tk } := by
  obtain ⟨h1, h2, h3, h4⟩ := S.cur (a, o) List.mem_cons_self
  have nd := S.mnd
  simp only [List.map_cons, List.nodup_cons] at nd
  obtain ⟨h', tk', rfl⟩ := S.up
  have neO : ∀ b x, c.s₀.heap.get? b = some x → b ≠ a := fun b x e q => by rw [q, h4] at e; cases e
  have neB : ∀ b x, B b = some x → b ≠ a := fun b x e q => by rw [q, h3] at e; cases e
  refine ⟨S.ok, ⟨h, tk, rfl⟩, S.ns.extBut hs (fun q => h2 q.symm), S.nd, S.kinds, fun b x e => hs b x (neO b x e) (S.old b x e), fun b x e => hs b x (neB b x e) (S.keep b x e), S.ext, S.fresh, S.off, S.offL, fun p hp => ?_, ?_⟩
  · rcases List.mem_cons.mp hp with rfl | hp
    · exact ⟨ho, h2, h3, h4⟩
    · obtain ⟨g1, g2, g3, g4⟩ := S.cur p (List.mem_cons_of_mem _ hp)
      have : p.1 ≠ a := fun q => nd.1 (List.mem_map.mpr ⟨p, hp, q⟩)
      exact ⟨hs _ _ this g1, g2, g3, g4⟩
  · simp only [List.map_cons, List.nodup_cons]; exact nd

theorem St.less {B' : PH} (S : St c B mu l s) (h : B'.le B) (he : c.B₀.le B') : St c B' mu l s := by
  have nn : ∀ a, B a = none → B' a = none := fun a ha => by
    cases e : B' a with
    | none => rfl
    | some o => rw [h a o e] at ha; cases ha
  exact ⟨S.ok, S.up, S.ns, S.nd, S.kinds, S.old, fun b o e => S.keep b o (h b o e), he, fun b o e => S.fresh b o (h b o e), nn _ S.off, S.offL, fun p hp => ⟨(S.cur p hp).1, (S.cur p hp).2.1, nn _ (S.cur p hp).2.2.1, (S.cur p hp).2.2.2⟩, S.mnd⟩
/-- order of the ledger -/
theorem St.perm {mu' : List (Addr × Obj)} (S : St c B mu l s) (hp : mu'.Perm mu) : St c B mu' l s :=
  ⟨S.ok, S.up, S.ns, S.nd, S.kinds, S.old, S.keep, S.ext, S.fresh, S.off, S.offL, fun p h => S.cur p (hp.mem_iff.mp h), (hp.map _).nodup_iff.mpr S.mnd⟩
theorem St.drop {mu' : List (Addr × Obj)} (S : St c B mu l s) (hp : mu'.Sublist mu) : St c B mu' l s :=
  ⟨S.ok, S.up, S.ns, S.nd, S.kinds, S.old, S.keep, S.ext, S.fresh, S.off, S.offL, fun p h => S.cur p (hp.subset h), S.mnd.sublist (hp.map _)⟩
end

/-- room for calls -/
structure Room (A : Around) (r : Nat) : Prop where
  h : A.handled = none
  d : A.depth + r < recursionLimit
  u : A.units + 10 * r + 10 < cLine
theorem Room.less {A : Around} {r r' : Nat} (R : Room A r) (h : r' ≤ r) : Room A r' := ⟨R.h, by have := R.d; omega, by have := R.u; omega⟩
theorem Room.deeper {A : Around} {r : Nat} {env : Env} (R : Room A (r + 1)) : Room (A.deeper env) r := ⟨R.h, by have := R.d; show A.depth + 1 + r < _; omega, by have := R.u; show A.units + 3 + 10 * r + 10 < _; omega⟩
theorem Room.in1 {A : Around} {r : Nat} (R : Room A (r + 1)) : Room A.in1 r := ⟨R.h, by have := R.d; show A.depth + r < _; omega, by have := R.u; show A.units + 1 + 10 * r + 10 < _; omega⟩
theorem Room.depth {A : Around} {r : Nat} (R : Room A r) : A.depth < recursionLimit := by have := R.d; omega
theorem Room.units {A : Around} {r : Nat} (R : Room A r) : A.units < cLine := by have := R.u; omega

/-- the contract of a call that stores into nothing that stood -/
noncomputable def Fn (prog : Program) (w : World) (W : Heap) (r : Nat) (f : Value) (args : List Value) (B : PH) (post : PH → Value → Prop) : Prop :=
  ∀ (A : Around) (E : Value → Shared → Prop) (Q : Value → Shared → Prop) (s : Shared), Room A r → HLe W s.heap → B.on s.heap →
    (∀ v s' B', (∃ h tk, s' = { s with heap := h, toks := tk }) → HLe s.heap s'.heap → B.le B' → B'.on s'.heap → (∀ b o, B' b = some o → B b = some o ∨ s.heap.get? b = none) → post B' v → Q v s') →
    wpAny (model prog w) A (call f args) Q E s
theorem Fn.less {prog : Program} {w : World} {W : Heap} {r r' : Nat} {f : Value} {args : List Value} {B : PH} {post : PH → Value → Prop} (H : Fn prog w W r f args B post) (h : r ≤ r') : Fn prog w W r' f args B post :=
  fun A E Q s R hw hb k => H A E Q s (R.less h) hw hb k
theorem Fn.mono {prog : Program} {w : World} {W : Heap} {r : Nat} {f : Value} {args : List Value} {B : PH} {post post' : PH → Value → Prop} (H : Fn prog w W r f args B post) (h : ∀ B' v, B.le B' → post B' v → post' B' v) : Fn prog w W r f args B post' :=
  fun A E Q s R hw hb k => H A E Q s R hw hb fun v s' B' a b d e g p => k v s' B' a b d e g (h B' v d p)

/-- where a body ends -/
noncomputable def Fin (c : Fx) (post : PH → Value → Prop) (f : Flow) (s : Shared) : Prop :=
  ∃ B mu l, St c B mu l s ∧ post B (match f with | .ret v => v | _ => .none)

noncomputable def NoE : Value → Shared → Prop := fun _ _ => False
theorem noE {α : Type} {M : Model} {A : Around} {t : Sem α} {Q : α → Shared → Prop} {E : Value → Shared → Prop} {s : Shared} (h : wpAny M A t Q NoE s) : wpAny M A t Q E s := wpAny_mono h (fun _ _ x => x) fun _ _ x => x.elim

section
variable {prog : Program} {w : World} {A : Around} {E : Value → Shared → Prop} {c : Fx} {B : PH} {mu : List (Addr × Obj)} {l l' : Locs} {s : Shared}

/-- a call by contract -/
theorem St.callF {r : Nat} {f : Value} {args : List Value} {post : PH → Value → Prop} {Q : Value → Shared → Prop} (S : St c B mu l s) (H : Fn prog w c.W r f args B post) (R : Room A r)
    (h : ∀ v s' B', St c B' mu l s' → B.le B' → post B' v → Q v s') : wpAny (model prog w) A (call f args) Q E s := by
  refine H A E Q s R S.glob S.keep fun v s' B' up hle ble bon fr p => ?_
  have L := S.ns.lt
  obtain ⟨h', tk, rfl⟩ := up
  have T := S.heap tk hle
  have live : ∀ b x, s.heap.get? b = some x → B b = none → B' b = none := fun b x e q => by
    cases e' : B' b with
    | none => rfl
    | some y =>
      rcases fr b y e' with g | g
      · rw [q] at g; cases g
      · rw [e] at g; cases g
  obtain ⟨oL, _, _, hL, _⟩ := S.ns
  refine h v _ B' ⟨T.ok, T.up, T.ns, T.nd, T.kinds, T.old, bon, S.ext.trans ble, fun b o e => ?_, live _ _ hL S.off, T.offL, fun p hp => ?_, T.mnd⟩ ble p
  · rcases fr b o e with g | g
    · exact S.fresh b o g
    · refine .inr ?_
      cases e' : c.s₀.heap.get? b with
      | none => rfl
      | some y => rw [S.old b y e'] at g; cases g
  · obtain ⟨g1, g2, g3, g4⟩ := T.cur p hp
    exact ⟨g1, g2, live _ _ (S.cur p hp).1 g3, g4⟩
end

end
end
section
open PySem PySem.W PyProof.Rows PySem.Calls
set_option maxRecDepth 100000
section

/-- a list of ints in the frozen part -/
noncomputable def IL (B : PH) (a : Addr) (ns : List Int) : Prop := ∃ vs n, B a = some (listOf vs.toArray n) ∧ IntsAre vs ns
theorem IL.mono {B B' : PH} {a : Addr} {ns : List Int} (h : IL B a ns) (hb : B.le B') : IL B' a ns := let ⟨vs, n, e, i⟩ := h; ⟨vs, n, hb _ _ e, i⟩
noncomputable abbrev tupOf (vs : List Value) : Obj := { cls := .type "tuple", data := .seq vs.toArray }
theorem intsAre_snoc {vs : List Value} {ns : List Int} (h : IntsAre vs ns) (k : Int) (t : Tok) : IntsAre (vs ++ [.int k t]) (ns ++ [k]) := h.append (.cons k t .nil)

section
variable {prog : Program} {w : World} {A : Around} {E : Value → Shared → Prop} {c : Fx} {B : PH} {mu : List (Addr × Obj)} {l l' : Locs} {s : Shared}

theorem St.isList {a : Addr} {vs : List Value} {n : Nat} (S : St c B mu l s) (h : B a = some (listOf vs.toArray n)) : s.heap.IsList a vs.toArray := ⟨_, S.keep _ _ h, rfl, n, rfl⟩
theorem St.isListM {a : Addr} {vs : List Value} {n : Nat} (S : St c B ((a, listOf vs.toArray n) :: mu) l s) : s.heap.IsList a vs.toArray := ⟨_, (S.cur _ List.mem_cons_self).1, rfl, n, rfl⟩
theorem St.isTup {a : Addr} {vs : List Value} (S : St c B mu l s) (h : B a = some (tupOf vs)) : IsTup s.heap a vs.toArray := ⟨_, S.keep _ _ h, rfl, _, rfl⟩

-- names
theorem r_name {x : Str} {pos : Pos} {v : Value} {Q : Value → Shared → Prop} (S : St c B mu l s) (hv : Lk x v l) (h : Q v s) (hd : (x == ("__debug__" : Str)) = false := by decide) :
    wpAny (model prog w) A (eval (.Name x pos) c.env) Q E s :=
  wpAny_Name (wpAny_loadName_local S.ok.kind (S.kinds x (List.mem_map.mpr ⟨_, hv.mem, rfl⟩)) S.ns (lk_of hv S.nd) h) hd
theorem r_ldname {x : Str} {v : Value} {Q : Value → Shared → Prop} (S : St c B mu l s) (hv : Lk x v l) (h : Q v s) :
    wpAny (model prog w) A (loadName c.env x) Q E s :=
  wpAny_loadName_local S.ok.kind (S.kinds x (List.mem_map.mpr ⟨_, hv.mem, rfl⟩)) S.ns (lk_of hv S.nd) h
theorem r_glob {x : Str} {pos : Pos} {v : Value} {Q : Value → Shared → Prop} (S : St c B mu l s) (hv : Gk x v c.G) (h : Q v s) :
    wpAny (model prog w) A (eval (.Name x pos) c.env) Q E s := by
  obtain ⟨h1, h2, h3⟩ := S.ok.gl _ hv.mem
  exact Name_function_global S.ok.kind h1 (h3 _ _ _ _ _ S.glob h) h2
theorem r_store {x : Str} {v : Value} {Q : Unit → Shared → Prop} (S : St c B mu l s) (hp : Put x v l l') (h : ∀ s', St c B mu l' s' → Q () s') :
    wpAny (model prog w) A (storeName c.env x v) Q E s :=
  wpAny_storeName_local (S.kinds x hp.mem) S.ns (fun h' hn hs => h _ (S.local _ ((hp.lk S.nd).symm ▸ hn) hs hp.names))
    (by show (c.env.scope.kind == .class || (c.env.scope.kind == .module && c.env.locals != c.env.globals)) = false; rw [S.ok.kind]; rfl)

-- statements
theorem r_assign {x : Str} {pos' pos : Pos} {value : Expr} {Q : Flow → Shared → Prop}
    (h : wpAny (model prog w) A (eval value c.env) (fun v s₁ => ∃ B' mu' l₁ l₂, St c B' mu' l₁ s₁ ∧ Put x v l₁ l₂ ∧ ∀ s', St c B' mu' l₂ s' → Q .next s') E s)
    (hs : swapsWith value (some (.Name x pos')) pos.line c.env = pure false := by rfl) : wpAny (model prog w) A (exec (.Assign [.Name x pos'] value pos) c.env) Q E s :=
  wpAny_Assign_Name (wpAny_mono h (fun _ _ h => by obtain ⟨_, _, _, _, S, hp, k⟩ := h; exact r_store S hp k) fun _ _ x => x) hs
theorem r_aug {x : Str} {pos' pos : Pos} {op : Operator} {value : Expr} {v : Value} {Q : Flow → Shared → Prop} (S : St c B mu l s) (hv : Lk x v l)
    (h : wpAny (model prog w) A (eval value c.env) (fun u s₁ => wpAny (model prog w) A (inplaceOp op v u) (fun r s₂ => ∃ B' mu' l₁ l₂, St c B' mu' l₁ s₂ ∧ Put x r l₁ l₂ ∧ ∀ s', St c B' mu' l₂ s' → Q .next s') E s₁) E s) :
    wpAny (model prog w) A (exec (.AugAssign (.Name x pos') op value pos) c.env) Q E s :=
  wpAny_AugAssign_Name (r_ldname S hv (wpAny_mono h (fun _ _ k => wpAny_mono k (fun _ _ ⟨_, _, _, _, S, hp, k⟩ => r_store S hp fun s' S' => k s' S') fun _ _ x => x) fun _ _ x => x))

-- constants
theorem r_int {i : Int} {k : Nat} {pos : Pos} {Q : Value → Shared → Prop} (S : St c B mu l s) (h : ∀ t s', St c B mu l s' → Q (.int i t) s') : wpAny (model prog w) A (eval (.Constant (.int i) k pos) c.env) Q E s :=
  wpAny_Constant_int (h _ _ (S.tok _))
theorem r_bool {b : Bool} {k : Nat} {pos : Pos} {Q : Value → Shared → Prop} (h : Q (.bool b) s) : wpAny (model prog w) A (eval (.Constant (.bool b) k pos) c.env) Q E s := Constant_bool h
theorem r_none {k : Nat} {pos : Pos} {Q : Value → Shared → Prop} (h : Q .none s) : wpAny (model prog w) A (eval (.Constant .none k pos) c.env) Q E s := Constant_none h

-- int arithmetic
section
variable {a b : Int} {t u : Tok} {Q : Value → Shared → Prop}
theorem r_add (S : St c B mu l s) (h : ∀ t s', St c B mu l s' → Q (.int (a + b) t) s') : wpAny (model prog w) A (binaryOp .Add (.int a t) (.int b u)) Q E s := add_int (h _ _ (S.tok _))
theorem r_sub (S : St c B mu l s) (h : ∀ t s', St c B mu l s' → Q (.int (a - b) t) s') : wpAny (model prog w) A (binaryOp .Sub (.int a t) (.int b u)) Q E s := sub_int (h _ _ (S.tok _))
theorem r_iadd (S : St c B mu l s) (h : ∀ t s', St c B mu l s' → Q (.int (a + b) t) s') : wpAny (model prog w) A (inplaceOp .Add (.int a t) (.int b u)) Q E s := iadd_int (h _ _ (S.tok _))
theorem r_isub (S : St c B mu l s) (h : ∀ t s', St c B mu l s' → Q (.int (a - b) t) s') : wpAny (model prog w) A (inplaceOp .Sub (.int a t) (.int b u)) Q E s := isub_int (h _ _ (S.tok _))
theorem mulOk_of {a b : Int} (h : a.natAbs < 2 ^ 64) : IntMulOk a b := .of_left (intBits_le h)
theorem r_mul (S : St c B mu l s) (hm : a.natAbs < 2 ^ 64) (h : ∀ t s', St c B mu l s' → Q (.int (a * b) t) s') : wpAny (model prog w) A (binaryOp .Mult (.int a t) (.int b u)) Q E s := mul_int (h _ _ (S.tok _)) (mulOk_of hm)
theorem r_fdiv (S : St c B mu l s) (hb : b ≠ 0) (hb2 : b.natAbs < 1000000) (h : ∀ t s', St c B mu l s' → Q (.int (a.fdiv b) t) s') : wpAny (model prog w) A (binaryOp .FloorDiv (.int a t) (.int b u)) Q E s :=
  floordiv_int hb (h _ _ (S.tok _)) (Or.inl (PyProof.noPylong_small (by omega)))
theorem r_fmod (S : St c B mu l s) (hb : b ≠ 0) (h : ∀ t s', St c B mu l s' → Q (.int (a.fmod b) t) s') : wpAny (model prog w) A (binaryOp .Mod (.int a t) (.int b u)) Q E s := mod_int' hb (h _ _ (S.tok _))
theorem r_ifmod (S : St c B mu l s) (hb : b ≠ 0) (h : ∀ t s', St c B mu l s' → Q (.int (a.fmod b) t) s') : wpAny (model prog w) A (inplaceOp .Mod (.int a t) (.int b u)) Q E s := imod_int hb (h _ _ (S.tok _))
theorem r_shl (S : St c B mu l s) (hb : 0 ≤ b) (hb2 : b ≤ 1000000) (ha : a.natAbs < 2 ^ 64) (h : ∀ t s', St c B mu l s' → Q (.int (a * 2 ^ b.toNat) t) s') : wpAny (model prog w) A (binaryOp .LShift (.int a t) (.int b u)) Q E s := lshift_int_small hb hb2 ha (h _ _ (S.tok _))
theorem r_pow (S : St c B mu l s) (hb : 0 ≤ b) (hb2 : b ≤ 1000000) (ha : a.natAbs < 2 ^ 64) (h : ∀ t s', St c B mu l s' → Q (.int (a ^ b.toNat) t) s') : wpAny (model prog w) A (binaryOp .Pow (.int a t) (.int b u)) Q E s := pow_int_small hb hb2 ha (h _ _ (S.tok _))
theorem r_shr (S : St c B mu l s) (hb : 0 ≤ b) (h : ∀ t s', St c B mu l s' → Q (.int (a.fdiv (2 ^ b.toNat)) t) s') : wpAny (model prog w) A (binaryOp .RShift (.int a t) (.int b u)) Q E s := rshift_int hb (h _ _ (S.tok _))
theorem r_ishr (S : St c B mu l s) (hb : 0 ≤ b) (h : ∀ t s', St c B mu l s' → Q (.int (a.fdiv (2 ^ b.toNat)) t) s') : wpAny (model prog w) A (inplaceOp .RShift (.int a t) (.int b u)) Q E s := irshift_int hb (h _ _ (S.tok _))
theorem r_and (S : St c B mu l s) (h : ∀ t s', St c B mu l s' → Q (.int (Builtin.bitAnd a b) t) s') : wpAny (model prog w) A (binaryOp .BitAnd (.int a t) (.int b u)) Q E s := and_int (h _ _ (S.tok _))
theorem r_or (S : St c B mu l s) (h : ∀ t s', St c B mu l s' → Q (.int (Builtin.bitOr a b) t) s') : wpAny (model prog w) A (binaryOp .BitOr (.int a t) (.int b u)) Q E s := or_int (h _ _ (S.tok _))
theorem r_neg (S : St c B mu l s) (h : ∀ t s', St c B mu l s' → Q (.int (-a) t) s') : wpAny (model prog w) A (unaryOp .USub (.int a t)) Q E s := neg_int (h _ _ (S.tok _))
end

-- lists
theorem r_len {a : Addr} {vs : List Value} {Q : Value → Shared → Prop} (S : St c B mu l s) (hl : s.heap.IsList a vs.toArray) (hz : vs.length ≤ 1000000) (h : ∀ t s', St c B mu l s' → Q (.int vs.length t) s') :
    wpAny (model prog w) A (call (.builtin "len") [.ref a]) Q E s :=
  len_list hl (by rw [List.size_toArray]; omega) (by rw [List.size_toArray]; exact h _ _ (S.tok _))
theorem r_lenI {a : Addr} {ns : List Int} {Q : Value → Shared → Prop} (S : St c B mu l s) (hl : IL B a ns) (hz : ns.length ≤ 1000000) (h : ∀ t s', St c B mu l s' → Q (.int ns.length t) s') :
    wpAny (model prog w) A (call (.builtin "len") [.ref a]) Q E s := by
  obtain ⟨vs, n, e, i⟩ := hl
  have := i.length
  exact r_len S (S.isList e) (by omega) (by rw [this]; exact h)
theorem r_item {value slice : Expr} {a : Addr} {vs : List Value} {k : Int} {u : Tok} {v : Value} {Q : Value → Shared → Prop} (hl : s.heap.IsList a vs.toArray) (h0 : 0 ≤ k) (h1 : k < 2 ^ 62) (hx : vs[k.toNat]? = some v) (h : Q v s)
    (hs : subscripted slice false (.ref a) (.int k u) = operate [.ref a, .int k u] (getItem (.ref a) (.int k u)) := by with_unfolding_all rfl) :
    wpAny (model prog w) A (subscriptTail value slice (.ref a) (.int k u)) Q E s :=
  tail_any hl.typeIs slot_list_getitem.lookup (wpAny_getItem_list hl h0 (by omega) (by simpa using hx) h) hs
theorem r_itemI {value slice : Expr} {a : Addr} {ns : List Int} {k : Int} {u : Tok} {Q : Value → Shared → Prop} (S : St c B mu l s) (hl : IL B a ns) (h0 : 0 ≤ k) (h1 : k < ns.length) (hz : ns.length ≤ 1000000) (h : ∀ t, Q (.int (ns.getD k.toNat 0) t) s)
    (hs : subscripted slice false (.ref a) (.int k u) = operate [.ref a, .int k u] (getItem (.ref a) (.int k u)) := by with_unfolding_all rfl) :
    wpAny (model prog w) A (subscriptTail value slice (.ref a) (.int k u)) Q E s := by
  obtain ⟨vs, n, e, i⟩ := hl
  have hk : k.toNat < ns.length := by omega
  obtain ⟨t, ht⟩ := i.get k.toNat (ns.getD k.toNat 0) (by rw [List.getD_eq_getElem?_getD, List.getElem?_eq_getElem hk]; rfl)
  exact r_item (S.isList e) h0 (by omega) ht (h t) hs
theorem r_tup {value slice : Expr} {a : Addr} {vs : List Value} {k : Nat} {u : Tok} {v : Value} {Q : Value → Shared → Prop} (S : St c B mu l s) (hl : B a = some (tupOf vs)) (hk : k < 1000000) (hx : vs[k]? = some v) (h : Q v s)
    (hs : subscripted slice false (.ref a) (.int k u) = operate [.ref a, .int k u] (getItem (.ref a) (.int k u)) := by with_unfolding_all rfl) :
    wpAny (model prog w) A (subscriptTail value slice (.ref a) (.int k u)) Q E s :=
  item_tupleT (j := k) (S.isTup hl) (by omega) (by omega) (by have := (List.getElem?_eq_some_iff.mp hx).1; rw [seqIndex_of (by omega) (by omega)]; rfl) hx h hs
theorem r_newList {vs : List Value} {Q : Value → Shared → Prop} (S : St c B mu l s) (hz : vs.length ≤ 1000000) (h : ∀ a s', B a = none → St c (B.add a (listOf vs.toArray 0)) mu l s' → B.le (B.add a (listOf vs.toArray 0)) → Q (.ref a) s') :
    wpAny (model prog w) A (newList vs) Q E s := by
  obtain ⟨S', hle, hn⟩ := S.alloc (o := listOf vs.toArray 0) rfl
  exact wpAny_newObj_type (h _ _ hn S' hle) (by show vs.toArray.size ≤ sizeLine; rw [List.size_toArray, sizeLine_eq]; omega)
theorem r_newListM {vs : List Value} {Q : Value → Shared → Prop} (S : St c B mu l s) (hz : vs.length ≤ 1000000) (h : ∀ a s', St c B ((a, listOf vs.toArray 0) :: mu) l s' → Q (.ref a) s') :
    wpAny (model prog w) A (newList vs) Q E s :=
  wpAny_newObj_type (h _ _ (S.allocM (o := listOf vs.toArray 0) rfl)) (by show vs.toArray.size ≤ sizeLine; rw [List.size_toArray, sizeLine_eq]; omega)
theorem r_newTuple {vs : List Value} {Q : Value → Shared → Prop} (S : St c B mu l s) (hz : vs.length ≤ 1000000) (h : ∀ a s', B a = none → St c (B.add a (tupOf vs)) mu l s' → B.le (B.add a (tupOf vs)) → Q (.ref a) s') :
    wpAny (model prog w) A (newTuple vs) Q E s := by
  obtain ⟨S', hle, hn⟩ := S.alloc (o := tupOf vs) rfl
  exact wpAny_newObj_type (h _ _ hn S' hle) (by show vs.toArray.size ≤ sizeLine; rw [List.size_toArray, sizeLine_eq]; omega)
theorem mapSeq_listOf (f : Array Value → Array Value) (vs : List Value) (n : Nat) : ∃ n', Obj.mapSeq f (listOf vs.toArray n) = listOf (f vs.toArray) n' := ⟨_, rfl⟩
theorem r_append {a : Addr} {vs : List Value} {n : Nat} {x : Value} {Q : Value → Shared → Prop} (S : St c B ((a, listOf vs.toArray n) :: mu) l s) (hz : vs.length ≤ 1000000)
    (h : ∀ n' s', St c B ((a, listOf (vs ++ [x]).toArray n') :: mu) l s' → Q .none s') : wpAny (model prog w) A (call (.builtin "list.append") [.ref a, x]) Q E s := by
  have ho := (S.cur _ List.mem_cons_self).1
  refine wpAny_call_entry slot_list_append S.isListM.typeIs entry_list_append ?_ (args_list_append _ _)
  show wpAny _ _ (updateSeq a (·.push x) >>= fun _ => ret .none) _ _ s
  refine wpAny_bind ?_
  refine wpAny_updateSeq ho rfl (wpAny_pure ⟨.none, rfl, ?_⟩) (by rw [List.size_toArray, sizeLine_eq]; omega)
  obtain ⟨n', hn'⟩ := mapSeq_listOf (·.push x) vs n
  refine h n' _ (S.upd s.toks (Heap.SameBut.update ..).extBut ?_)
  have e := Heap.get?_update_self (Obj.mapSeq (·.push x)) ho rfl
  refine e.trans ?_
  rw [hn']
  simp
end
end
end
section
open PySem PySem.W PyProof.Rows PySem.Calls
set_option maxRecDepth 100000
section

/-- what a global name stands for, in a heap -/
noncomputable def GlobAt (W : Heap) (x : Str) (v : Value) : Prop :=
  (∃ mg, W.Ns mainGlobals mg ∧ mg x = some v) ∨ (∃ mg mb, W.Ns mainGlobals mg ∧ mg x = none ∧ W.Ns builtinsNs mb ∧ mb x = some v)
/-- a def of the text's -/
structure IsDef (W : Heap) (f : Addr) (name : Str) (params : Arguments) (body : List Stmt) (scope : Scope) : Prop where
  lim : W.NoLimit
  at_ : ∃ o pm cd doc, W.get? f = some o ∧ o.data = .func (docDef name params body scope pm cd doc) ∧ W.CodeRec cd name
noncomputable def IsFn (W : Heap) (f : Addr) : Prop := ∃ o fd, W.get? f = some o ∧ o.data = .func fd

section
variable {prog : Program} {w : World} {A : Around} {E : Value → Shared → Prop} {c : Fx} {B : PH} {mu : List (Addr × Obj)} {l l' : Locs} {s : Shared}

theorem loads {W : Heap} {env : Env} {x : Str} {v : Value} {M : Model} {Q : Value → Shared → Prop} (hg : env.globals = mainGlobals) (hb : env.builtins = builtinsNs) (G : GlobAt W x v) (hw : HLe W s.heap) (h : Q v s) :
    wpAny M A (loadGlobal env x) Q E s := by
  rcases G with ⟨mg, h1, h2⟩ | ⟨mg, mb, h1, h2, h3, h4⟩
  · exact loadGlobal_global (hg ▸ h1.keeps hw) h2 h
  · exact loadGlobal_builtin (hg ▸ h1.keeps hw) h2 (hb ▸ h3.keeps hw) h4 h

theorem lk_init {binds : List (Str × Value)} {rest : List Str} (hn : (binds.map (·.1)).Nodup) :
    lk (binds.map (fun p => (p.1, some p.2)) ++ rest.map fun x => (x, none)) = fun x => binds.reverse.lookup x := by
  have h0 : ∀ (rest : List Str) (x : Str), lk (rest.map fun x => (x, none)) x = none := by
    intro rest x
    induction rest with
    | nil => rfl
    | cons y r ih => simp only [List.map_cons, lk]; split <;> first | rfl | exact ih
  have h1 : ∀ (bs : List (Str × Value)) (x : Str), lk (bs.map (fun p => (p.1, some p.2)) ++ rest.map fun x => (x, none)) x = bs.lookup x := by
    intro bs x
    induction bs with
    | nil => exact h0 rest x
    | cons p r ih =>
      obtain ⟨y, v⟩ := p
      simp only [List.map_cons, List.cons_append, lk, List.lookup_cons]
      by_cases hx : x = y
      · simp [hx]
      · have : (x == y) = false := by simpa using hx
        simp only [if_neg hx, this]; exact ih
  funext x
  rw [h1]
  clear h1 h0
  induction binds with
  | nil => rfl
  | cons p r ih =>
    obtain ⟨y, v₀⟩ := p
    simp only [List.map_cons, List.nodup_cons] at hn
    rw [List.reverse_cons, List.lookup_append, List.lookup_cons]
    by_cases hx : x = y
    · have : r.reverse.lookup x = none := by
        rw [← ih hn.2]
        cases e : r.lookup x with
        | none => rfl
        | some v =>
          exfalso
          have : (x, v) ∈ r := by
            clear ih hn
            induction r with
            | nil => cases e
            | cons q r ih2 =>
              obtain ⟨z, u⟩ := q
              rw [List.lookup_cons] at e
              by_cases hq : x = z
              · have h2 : (x == z) = true := by simpa using hq
                rw [h2] at e
                cases e
                subst hq
                exact List.mem_cons_self
              · have h2 : (x == z) = false := by simpa using hq
                rw [h2] at e
                exact List.mem_cons_of_mem _ (ih2 e)
          exact hn.1 (List.mem_map.mpr ⟨_, this, hx⟩)
      subst hx
      rw [this]
      simp
    · have h2 : (x == y) = false := by simpa using hx
      simp [List.lookup_cons, h2, ih hn.2]

theorem enter {W : Heap} {f : Addr} {name : Str} {params : Arguments} {body : List Stmt} {scope : Scope} {args : List Value} {post : PH → Value → Prop} {r : Nat} (ps : List Str) (rest : List Str) (G : List (Str × Value))
    (D : IsDef W f name params body scope)
    (hbind : ∀ pm cd doc, bindArgs (docDef name params body scope pm cd doc) ⟨args, []⟩ = pure (ps.zip args))
    (hnd : (ps ++ rest).Nodup)
    (hloc : ∀ x ∈ ps ++ rest, scope.names.lookup x = some .local)
    (hG : ∀ x ∈ G.map (·.1), scope.names.lookup x = some .globalImplicit ∧ (x == ("__debug__" : Str)) = false) (hGW : ∀ p ∈ G, GlobAt W p.1 p.2)
    (h : ∀ c A' s', c.W = W → c.B₀ = B → c.G = G → interactive c.env = false → Room A' r → St c B [] ((ps.zip args).map (fun p => (p.1, some p.2)) ++ rest.map fun x => (x, none)) s' → wpAny (model prog w) A' (execs body c.env) (Fin c post) NoE s')
    (hlen : ps.length = args.length := by rfl)
    (hco : scope.isCoroutine = false := by rfl) (hgen : scope.isGenerator = false := by rfl) (hk : scope.kind = .function := by rfl)
    (hcell : ∀ x ∈ scope.names, x.2 ≠ .cell := by decide) : Fn prog w W (r + 1) (.ref f) args B post := by
  intro A E Q s R hw hb k
  obtain ⟨o, pm, cd, doc, ho, hdata, hcd⟩ := D.at_
  generalize hbs : ps.zip args = binds at hbind h
  have hps : binds.map (·.1) = ps := by rw [← hbs, List.map_fst_zip (by omega)]
  rw [← hps] at hnd hloc
  have nm : ((binds.map (fun p => (p.1, some p.2)) ++ rest.map fun x => (x, (none : Option Value))).map (·.1)) = binds.map (·.1) ++ rest := by simp [Function.comp_def]
  refine wpAny_call (call_plain_ret (binds := binds) R.depth (hw _ _ ho) hdata (D.lim.keeps hw) (hcd.keeps hw) (hbind pm cd doc) (fun x hx => hloc _ (List.mem_append_left _ (List.mem_map.mpr ⟨x, hx, rfl⟩))) (fun h₁ F => ?_) hco hgen hk hcell)
  generalize henv : envOf name scope s.heap.objs.size f cd = env
  have e1 : env.scope = scope := by rw [← henv]; rfl
  have e2 : env.locals = s.heap.objs.size := by rw [← henv]; rfl
  have e3 : env.globals = mainGlobals := by rw [← henv]; rfl
  have e4 : env.builtins = builtinsNs := by rw [← henv]; rfl
  have e5 : interactive env = false := by rw [← henv]; unfold interactive; rw [show (envOf name scope s.heap.objs.size f cd).scope.kind = .function from hk]; rfl
  let c : Fx := ⟨env, W, s, B, G⟩
  have ok : c.Ok := ⟨by show env.scope.kind = _; rw [e1]; exact hk, fun p hp => ⟨by show env.scope.names.lookup p.1 = _; rw [e1]; exact (hG _ (List.mem_map.mpr ⟨p, hp, rfl⟩)).1, (hG _ (List.mem_map.mpr ⟨p, hp, rfl⟩)).2, fun M A Q E s hw h => loads e3 e4 (hGW p hp) hw h⟩, hw, hb⟩
  have nosz : ∀ B' : PH, B'.on s.heap → B' env.locals = none := fun B' hb' => by
    rw [e2]
    cases e : B' s.heap.objs.size with
    | none => rfl
    | some x => exact absurd (Heap.lt_size (hb' _ _ e)) (Nat.lt_irrefl _)
  have S : St c B [] (binds.map (fun p => (p.1, some p.2)) ++ rest.map fun x => (x, none)) { s with heap := h₁, toks := s.toks + binds.length } := by
    refine ⟨ok, ⟨_, _, rfl⟩, ?_, ?_, ?_, F.keep, fun b o e => F.keep b o (hb b o e), PH.le.refl _, fun b o e => .inl e, nosz B hb, ?_, (fun _ hp => nomatch hp), List.nodup_nil⟩
    · rw [lk_init (hnd.sublist (List.sublist_append_left _ _))]
      show Heap.Ns h₁ env.locals _
      rw [e2]; exact F.ns
    · rw [nm]; exact hnd
    · rw [nm]
      intro x hx
      show env.scope.names.lookup x = _
      rw [e1]; exact hloc x hx
    · show s.heap.get? env.locals = none
      rw [e2]
      cases e : s.heap.get? s.heap.objs.size with
      | none => rfl
      | some x => exact absurd (Heap.lt_size e) (Nat.lt_irrefl _)
  refine wpAny_mono (h c _ _ rfl rfl rfl e5 R.deeper S) (fun fl s' hf => ?_) fun _ _ x => x
  obtain ⟨B', mu, l, S', hp⟩ := hf
  cases fl <;> exact k _ s' B' S'.up S'.old S'.ext S'.keep S'.fresh hp

/-- a call of a def by its global name -/
theorem r_callG {x : Str} {p pos : Pos} {e : Expr} {rest : List Expr} {f : Addr} {G : List (Str × Value)} {Q : Value → Shared → Prop} (S : St c B mu l s) (hG : c.G = G) (hv : Gk x (.ref f) G) (hf : IsFn c.W f)
    (h : wpAny (model prog w) A (spliced (backTo pos (starEach (e :: rest) c.env))) (fun vs s₁ => ∃ B mu l, St c B mu l s₁ ∧ wpAny (model prog w) A (call (.ref f) vs) Q E s₁) E s)
    (he : starEach (e :: rest) c.env = (false, eval e c.env) :: starEach rest c.env := by rfl) :
    wpAny (model prog w) A (eval (.Call (.Name x p) (e :: rest) [] pos) c.env) Q E s := by
  obtain ⟨o, fd, ho, hd⟩ := hf
  exact wpAny_Call_NameR (r_glob S (hG ▸ hv) (callWith_def hd (wpAny_mono h (fun vs s₁ ⟨_, _, _, S₁, k⟩ => ⟨S₁.glob _ _ ho, k⟩) fun _ _ x => x) he))
/-- a call of a def that a local name holds -/
theorem r_callL {x : Str} {p pos : Pos} {e : Expr} {rest : List Expr} {f : Addr} {Q : Value → Shared → Prop} (S : St c B mu l s) (hv : Lk x (.ref f) l) (hf : IsFn c.W f)
    (h : wpAny (model prog w) A (spliced (backTo pos (starEach (e :: rest) c.env))) (fun vs s₁ => ∃ B mu l, St c B mu l s₁ ∧ wpAny (model prog w) A (call (.ref f) vs) Q E s₁) E s)
    (hd : (x == ("__debug__" : Str)) = false := by decide)
    (he : starEach (e :: rest) c.env = (false, eval e c.env) :: starEach rest c.env := by rfl) :
    wpAny (model prog w) A (eval (.Call (.Name x p) (e :: rest) [] pos) c.env) Q E s := by
  obtain ⟨o, fd, ho, hd'⟩ := hf
  exact wpAny_Call_NameR (r_name S hv (callWith_def hd' (wpAny_mono h (fun vs s₁ ⟨_, _, _, S₁, k⟩ => ⟨S₁.glob _ _ ho, k⟩) fun _ _ x => x) he) hd)
/-- a call of a built-in function -/
theorem r_callB {x : Str} {id : String} {p pos : Pos} {e : Expr} {rest : List Expr} {G : List (Str × Value)} {Q : Value → Shared → Prop} (S : St c B mu l s) (hG : c.G = G) (hv : Gk x (.builtin id) G)
    (h : wpAny (model prog w) A (spliced (backTo pos (starEach (e :: rest) c.env))) (fun vs s₁ => wpAny (model prog w) A (call (.builtin id) vs) Q E s₁) E s)
    (he : starEach (e :: rest) c.env = (false, eval e c.env) :: starEach rest c.env := by rfl)
    (hplain : (backTo pos (starEach rest c.env)).any (·.1) = false := by rfl) :
    wpAny (model prog w) A (eval (.Call (.Name x p) (e :: rest) [] pos) c.env) Q E s :=
  wpAny_Call_NameR (r_glob S (hG ▸ hv) (callWith_builtin1 h he hplain))
theorem r_callT {x : Str} {T : String} {p pos : Pos} {e : Expr} {rest : List Expr} {G : List (Str × Value)} {Q : Value → Shared → Prop} (S : St c B mu l s) (hG : c.G = G) (hv : Gk x (.type T) G)
    (h : wpAny (model prog w) A (spliced (backTo pos (starEach (e :: rest) c.env))) (fun vs s₁ => wpAny (model prog w) A (call (.type T) vs) Q E s₁) E s)
    (he : starEach (e :: rest) c.env = (false, eval e c.env) :: starEach rest c.env := by rfl)
    (hplain : (backTo pos (starEach rest c.env)).any (·.1) = false := by rfl) :
    wpAny (model prog w) A (eval (.Call (.Name x p) (e :: rest) [] pos) c.env) Q E s := by
  refine wpAny_Call_NameR (r_glob S (hG ▸ hv) ?_)
  rw [he] at h ⊢
  exact PySem.callWith_type (by show (false || (backTo pos (starEach rest c.env)).any (·.1)) = false; rw [hplain]; rfl) (evalArgs_plain h)
/-- found.append(x), the statement -/
theorem r_appendS {x : Str} {np ap pos pos' : Pos} {e : Expr} {a : Addr} {vs : List Value} {n : Nat} {Q : Flow → Shared → Prop} (S : St c B ((a, listOf vs.toArray n) :: mu) l s) (hv : Lk x (.ref a) l)
    (h : wpAny (model prog w) A (eval e c.env) (fun y s₁ => ∃ B' mu' l' vs' n', St c B' ((a, listOf (List.toArray vs') n') :: mu') l' s₁ ∧ vs'.length ≤ 1000000 ∧ ∀ n'' s', St c B' ((a, listOf (vs' ++ [y]).toArray n'') :: mu') l' s' → Q .next s') E s)
    (hi : interactive c.env = false)
    (hline : (ap.endLine == pos.line) = true := by rfl)
    (hd : (x == ("__debug__" : Str)) = false := by decide) (he : backTo pos (starEach [e] c.env) = [(false, eval e c.env)] := by rfl)
    (hbase : attributeBase (.Name x np) "append" c.env (eval (.Name x np) c.env) = eval (.Name x np) c.env := by rfl)
    (hfew : ((backTo pos (starEach [e] c.env)).all (fun x => !x.1) && (backToKw pos (keywordEach [] c.env)).all (fun x => x.1.isSome)
      && decide (([e] : List Expr).length + ([] : List Keyword).length + (if ([] : List Keyword).isEmpty then 0 else 1) < 30)) = true := by rfl)
    (hs : swapsWith (.Call (.Attribute (.Name x np) "append" ap) [e] [] pos) none pos'.line c.env = pure false := by rfl) :
    wpAny (model prog w) A (exec (.Expr (.Call (.Attribute (.Name x np) "append" ap) [e] [] pos) pos') c.env) Q E s := by
  refine wpAny_Expr (wpAny_Call_append hbase hfew hline he (r_name S hv ⟨a, _, rfl, ⟨_, _, (S.cur _ List.mem_cons_self).1, rfl, rfl, rfl⟩, ?_⟩ hd)) hi hs
  refine wpAny_mono h (fun y s₁ h => ?_) fun _ _ x => x
  obtain ⟨B', mu', l', vs', n', S₁, hz', k⟩ := h
  exact r_append S₁ hz' k
end
end
end
section
open PySem PySem.W PyProof.Rows PySem.Calls
set_option maxRecDepth 100000
section

section
variable {prog : Program} {w : World} {A : Around} {E : Value → Shared → Prop} {c : Fx} {B : PH} {mu its : List (Addr × Obj)} {l l' : Locs} {s : Shared}

/-- what an iterator gives, whatever frame asks it -/
structure Src (prog : Program) (w : World) (A : Around) (target : Expr) (it : Value) (n : Nat) (H : Nat → List (Addr × Obj) → Prop) (P : Nat → PH → PH → Value → Prop) (B : PH) : Prop where
  self : ∀ (c : Fx) B₁ mu₁ l₁ its s₁ (QQ : Value → Shared → Prop) (E' : Value → Shared → Prop), B.le B₁ → St c B₁ (mu₁ ++ its) l₁ s₁ → H 0 its → QQ it s₁ → wpAny (model prog w) A (pyIter it) QQ E' s₁
  next : ∀ (c : Fx) i B₁ mu₁ l₁ its s₁ (QQ : Value → Shared → Prop), i < n → B.le B₁ → St c B₁ (mu₁ ++ its) l₁ s₁ → H i its →
      (∀ v B₂ its' s', B₁.le B₂ → St c B₂ (mu₁ ++ its') l₁ s' → H (i + 1) its' → P i B₁ B₂ v → QQ v s') →
      wpAny (model prog w) A (pyNext it) (fun r s₂ => match r with | none => False | some v => wpAny (model prog w) A (letOwnedTupleGo target it v) (fun _ s₃ => QQ v s₃) NoE s₂) NoE s₁
  done : ∀ (c : Fx) B₁ mu₁ l₁ its s₁ (QQ : Shared → Prop), B.le B₁ → St c B₁ (mu₁ ++ its) l₁ s₁ → H n its → (∀ s', St c B₁ mu₁ l₁ s' → QQ s') → wpAny (model prog w) A (pyNext it) (fun r s₂ => r = none ∧ QQ s₂) NoE s₁
inductive LoopAt (c : Fx) (n : Nat) (B₀ : PH) (H : Nat → List (Addr × Obj) → Prop) (Inv : Nat → PH → List (Addr × Obj) → Locs → Prop) (k : Nat) (s : Shared) : Prop
  | mk (i : Nat) (B : PH) (mu : List (Addr × Obj)) (l : Locs) (its : List (Addr × Obj)) : k = n + 1 - i → i ≤ n → B₀.le B → St c B (mu ++ its) l s → H i its → Inv i B mu l → LoopAt c n B₀ H Inv k s
theorem loop_any {target : Expr} {it : Value} {body : List Stmt} {n : Nat} {Q : Flow → Shared → Prop} (H : Nat → List (Addr × Obj) → Prop) (P : Nat → PH → PH → Value → Prop) (Inv : Nat → PH → List (Addr × Obj) → Locs → Prop)
    (S : St c B (mu ++ its) l s) (h0 : H 0 its) (hI : Inv 0 B mu l) (X : Src prog w A target it n H P B)
    (step : ∀ i v B₁ B₂ mu₁ l₁ its s₁, i < n → B.le B₁ → B₁.le B₂ → Inv i B₁ mu₁ l₁ → P i B₁ B₂ v → St c B₂ (mu₁ ++ its) l₁ s₁ →
      wpAny (model prog w) A (assign target c.env v) (fun _ s₂ => wpAny (model prog w) A (execs body c.env) (fun f s₃ => match f with
        | .next | .cont => ∃ B₃ mu₃ l₃, St c B₃ (mu₃ ++ its) l₃ s₃ ∧ B₂.le B₃ ∧ Inv (i + 1) B₃ mu₃ l₃
        | .brk => False
        | .ret v => Q (.ret v) s₃) NoE s₂) NoE s₁)
    (fin : ∀ B₁ mu₁ l₁ s₁, B.le B₁ → Inv n B₁ mu₁ l₁ → St c B₁ mu₁ l₁ s₁ → Q .next s₁) :
    codeAny (model prog w) A (.forLoop target it body [] c.env) (fun r s' => match r with | .ok f => Q f s' | .error e => cameBackBy (model prog w) A c.env E e s') s := by
  refine codeAny_forLoop_any (LoopAt c n B H Inv) ?_ (n + 1) ⟨0, B, mu, l, its, rfl, Nat.zero_le _, PH.le.refl _, S, h0, hI⟩
  rintro k s' ⟨i, B₁, mu₁, l₁, its, rfl, hi, hB, S₁, hH, hJ⟩
  by_cases hlt : i < n
  · refine wpAny_mono (X.next c i B₁ mu₁ l₁ its s' (fun v s₃ => ∃ B₂ its', B₁.le B₂ ∧ St c B₂ (mu₁ ++ its') l₁ s₃ ∧ H (i + 1) its' ∧ P i B₁ B₂ v) hlt hB S₁ hH fun v B₂ its' s'' a b d e => ⟨B₂, its', a, b, d, e⟩) (fun r s₂ h₂ => ?_) fun _ _ x => x.elim
    cases r with
    | none => exact h₂.elim
    | some v =>
      refine wpAny_mono h₂ (fun _ s₃ h₃ => ?_) fun _ _ x => x.elim
      obtain ⟨B₂, its', hB₂, S₂, hH₂, hP⟩ := h₃
      refine wpAny_mono (step i v B₁ B₂ mu₁ l₁ its' s₃ hlt hB hB₂ hJ hP S₂) (fun _ s₄ h₄ => wpAny_mono h₄ (fun f s₅ h₅ => ?_) fun _ _ x => x.elim) fun _ _ x => x.elim
      have go : (∃ B₃ mu₃ l₃, St c B₃ (mu₃ ++ its') l₃ s₅ ∧ B₂.le B₃ ∧ Inv (i + 1) B₃ mu₃ l₃) → ∃ m, m < n + 1 - i ∧ LoopAt c n B H Inv m s₅ := fun h => by
        obtain ⟨B₃, mu₃, l₃, S₃, hB₃, hJ₃⟩ := h
        exact ⟨n + 1 - (i + 1), by omega, i + 1, B₃, mu₃, l₃, its', rfl, hlt, hB.trans (hB₂.trans hB₃), S₃, hH₂, hJ₃⟩
      cases f with
      | next => exact go h₅
      | cont => exact go h₅
      | brk => exact h₅.elim
      | ret v => exact h₅
  · have hin : i = n := by omega
    subst hin
    refine wpAny_mono (X.done c B₁ mu₁ l₁ its s' (fun s₂ => St c B₁ mu₁ l₁ s₂) hB S₁ hH fun s' h => h) (fun r s₂ ⟨hr, S₂⟩ => ?_) fun _ _ x => x.elim
    subst hr
    exact wpAny_execs_nil (fin B₁ mu₁ l₁ s₂ hB hJ S₂)

theorem perm_front {α : Type} (x : α) (as bs : List α) : (x :: (as ++ bs)).Perm (as ++ x :: bs) := (List.perm_middle (l₁ := as) (l₂ := bs) (a := x)).symm

noncomputable abbrev rIter (x left step : Int) : Obj := { cls := .type "range_iterator", dict := none, data := .fields #[rawInt x, rawInt left, rawInt step], slots := #[] }

theorem src_range {target : Expr} {r : Addr} {a b k : Int} {t u v : Tok} {n : Nat} {Q : Value → Shared → Prop} (hh : A.handled = none) (ht : ∀ it v, letOwnedTupleGo target it v = pure ())
    (S : St c B mu l s) (hr : IsRange s.heap r a b k t u v) (hsmall : Builtin.Range.small a b k = true) (hn : Builtin.Range.rangeSize a b k = n)
    (h : ∀ it its H s₂, St c B (mu ++ its) l s₂ → H 0 its → Src prog w A target it n H (fun i B B' v => B' = B ∧ ∃ tk, v = .int (a + i * k) tk) B → Q it s₂) :
    wpAny (model prog w) A (pyIter (.ref r)) Q E s := by
  refine wpAny_pyIter_range hr hsmall ?_
  generalize hI0 : s.heap.objs.size = I
  have S1 := S.allocM (o := rIter a n k) rfl
  rw [hn]
  rw [hI0] at S1
  refine h (.ref I) [(I, rIter a n k)] (fun i its => its = [(I, rIter (a + i * k) ((n : Int) - i) k)]) _ (S1.perm (perm_front _ mu [] |>.symm.trans (by simp))) (by simp) ⟨?_, ?_, ?_⟩
  · intro c B₁ mu₁ l₁ its s₁ QQ E' _ S₁ hH k'
    subst hH
    have hit := (S₁.cur (I, _) (List.mem_append_right _ (.head _))).1
    exact wpAny_pyIter_rangeiter hit k'
  · intro c i B₁ mu₁ l₁ its s₁ QQ hi hB S₁ hH k'
    subst hH
    have S₂ : St c B₁ ((I, rIter (a + i * k) ((n : Int) - i) k) :: mu₁) l₁ s₁ := S₁.perm (by simpa using perm_front _ mu₁ [])
    have hit := (S₂.cur _ List.mem_cons_self).1
    refine wpAny_pyNext_range_item hit (by omega) fun h' hit' hs' => ?_
    refine wpAny_of_eq (ht _ _) ?_
    have e1 : a + ((i + 1 : Nat) : Int) * k = a + (i : Int) * k + k := by push_cast; rw [Int.add_mul, Int.one_mul, Int.add_assoc]
    have e2 : (n : Int) - ((i + 1 : Nat) : Int) = (n : Int) - (i : Int) - 1 := by push_cast; omega
    have S₃ := S₂.upd (s₁.toks + 1) hs'.extBut hit'
    refine k' _ B₁ [(I, rIter (a + ((i + 1 : Nat) : Int) * k) ((n : Int) - ((i + 1 : Nat) : Int)) k)] _ (PH.le.refl _) ?_ rfl ⟨rfl, _, rfl⟩
    rw [e1, e2]
    exact S₃.perm (by simpa using (perm_front _ mu₁ []).symm)
  · intro c B₁ mu₁ l₁ its s₁ QQ hB S₁ hH k'
    subst hH
    have S₂ : St c B₁ ((I, rIter (a + n * k) ((n : Int) - n) k) :: mu₁) l₁ s₁ := S₁.perm (by simpa using perm_front _ mu₁ [])
    have hit := (S₂.cur _ List.mem_cons_self).1
    refine wpAny_pyNext_range_end hh hit (by omega) fun h' he => ⟨rfl, k' _ ?_⟩
    have hI1 := (S₂.cur _ List.mem_cons_self)
    obtain ⟨h9, tk9, rfl⟩ := S₂.up
    have neB : ∀ b o, B₁ b = some o → b ≠ I := fun b o e q => by rw [q, hI1.2.2.1] at e; cases e
    have neO : ∀ b o, c.s₀.heap.get? b = some o → b ≠ I := fun b o e q => by rw [q, hI1.2.2.2] at e; cases e
    have nd := S₂.mnd
    simp only [List.map_cons, List.nodup_cons] at nd
    exact ⟨S₂.ok, ⟨h', tk9, rfl⟩, S₂.ns.extBut he (fun q => hI1.2.1 q.symm), S₂.nd, S₂.kinds, fun b o e => he b o (neO b o e) (S₂.old b o e), fun b o e => he b o (neB b o e) (S₂.keep b o e), S₂.ext, S₂.fresh, S₂.off, S₂.offL,
      fun p hp => ⟨he _ _ (fun q => nd.1 (List.mem_map.mpr ⟨p, hp, q⟩)) (S₂.cur p (List.mem_cons_of_mem _ hp)).1, (S₂.cur p (List.mem_cons_of_mem _ hp)).2⟩, nd.2⟩
/-- a for over a range object; the names are the body's -/
theorem loop_range {target : Expr} {body : List Stmt} {r : Addr} {a b k : Int} {t u v : Tok} {n : Nat} {Q : Flow → Shared → Prop} (hh : A.handled = none) (ht : ∀ it v, letOwnedTupleGo target it v = pure ())
    (S : St c B mu l s) (hr : IsRange s.heap r a b k t u v) (hsmall : Builtin.Range.small a b k = true) (hn : Builtin.Range.rangeSize a b k = n)
    (Inv : Nat → PH → List (Addr × Obj) → Locs → Prop) (hI : Inv 0 B mu l)
    (step : ∀ i tk B₁ mu₁ l₁ its s₁, i < n → B.le B₁ → Inv i B₁ mu₁ l₁ → St c B₁ (mu₁ ++ its) l₁ s₁ →
      wpAny (model prog w) A (assign target c.env (.int (a + i * k) tk)) (fun _ s₂ => wpAny (model prog w) A (execs body c.env) (fun f s₃ => match f with
        | .next | .cont => ∃ B₃ mu₃ l₃, St c B₃ (mu₃ ++ its) l₃ s₃ ∧ B₁.le B₃ ∧ Inv (i + 1) B₃ mu₃ l₃
        | .brk => False
        | .ret v => Q (.ret v) s₃) NoE s₂) NoE s₁)
    (fin : ∀ B₁ mu₁ l₁ s₁, B.le B₁ → Inv n B₁ mu₁ l₁ → St c B₁ mu₁ l₁ s₁ → Q .next s₁) :
    wpAny (model prog w) A (pyIter (.ref r)) (fun it s₂ => codeAny (model prog w) A (.forLoop target it body [] c.env) (fun r s' => match r with | .ok f => Q f s' | .error e => cameBackBy (model prog w) A c.env E e s') s₂) E s :=
  src_range hh ht S hr hsmall hn fun it its H s₂ S₂ h0 X => loop_any H _ Inv S₂ h0 hI X (by
    rintro i v B₁ B₂ mu₁ l₁ its s₁ hi hB hB₂ hJ ⟨rfl, tk, rfl⟩ S₁
    exact step i tk _ mu₁ l₁ its s₁ hi hB hJ S₁) fin

noncomputable abbrev lIter (a : Addr) (i : Nat) : Obj := { cls := .type "list_iterator", data := .fields #[.ref a, .int i 0] }
noncomputable abbrev enObj (it : Addr) (i : Int) (old : Value) : Obj := { cls := .type "enumerate", dict := none, data := .fields #[.none, .bool false, .ref it, rawInt i, .none, old], slots := #[] }

theorem St.ext2 {I : Addr} {o : Obj} {h : Heap} (S : St c B ((I, o) :: mu) l s) (tk : Nat) (he : Heap.ExtBut I s.heap h) : St c B mu l { s with heap := h, toks := tk } := by
  have hI1 := (S.cur _ List.mem_cons_self)
  obtain ⟨h9, tk9, rfl⟩ := S.up
  have neB : ∀ b o, B b = some o → b ≠ I := fun b o e q => by rw [q, hI1.2.2.1] at e; cases e
  have neO : ∀ b o, c.s₀.heap.get? b = some o → b ≠ I := fun b o e q => by rw [q, hI1.2.2.2] at e; cases e
  have nd := S.mnd
  simp only [List.map_cons, List.nodup_cons] at nd
  exact ⟨S.ok, ⟨h, tk, rfl⟩, S.ns.extBut he (fun q => hI1.2.1 q.symm), S.nd, S.kinds, fun b o e => he b o (neO b o e) (S.old b o e), fun b o e => he b o (neB b o e) (S.keep b o e), S.ext, S.fresh, S.off, S.offL,
    fun p hp => ⟨he _ _ (fun q => nd.1 (List.mem_map.mpr ⟨p, hp, q⟩)) (S.cur p (List.mem_cons_of_mem _ hp)).1, (S.cur p (List.mem_cons_of_mem _ hp)).2⟩, nd.2⟩

theorem St.swap {its' : List (Addr × Obj)} {h' : Heap} (S : St c B (mu ++ its) l s) (tk : Nat) (hk : ∀ b o, b ∉ its.map (·.1) → s.heap.get? b = some o → h'.get? b = some o) (hA : its'.map (·.1) = its.map (·.1)) (ho : ∀ p ∈ its', h'.get? p.1 = some p.2) :
    St c B (mu ++ its') l { s with heap := h', toks := tk } := by
  obtain ⟨h9, tk9, rfl⟩ := S.up
  have off : ∀ b, b ∈ its.map (·.1) → b ≠ c.env.locals ∧ B b = none ∧ c.s₀.heap.get? b = none := fun b hb => by
    obtain ⟨p, hp, rfl⟩ := List.mem_map.mp hb
    exact (S.cur p (List.mem_append_right _ hp)).2
  have nd := S.mnd
  rw [List.map_append] at nd
  have dis := (List.nodup_append.mp nd).2.2
  refine ⟨S.ok, ⟨h', tk, rfl⟩, S.ns.at' fun o e => hk _ o (fun hb => (off _ hb).1 rfl) e, S.nd, S.kinds, fun b o e => hk b o (fun hb => by rw [(off b hb).2.2] at e; cases e) (S.old b o e), fun b o e => hk b o (fun hb => by rw [(off b hb).2.1] at e; cases e) (S.keep b o e), S.ext, S.fresh, S.off, S.offL,
    fun p hp => ?_, by rw [List.map_append, hA]; exact nd⟩
  rcases List.mem_append.mp hp with hp | hp
  · exact ⟨hk _ _ (fun hb => dis _ (List.mem_map.mpr ⟨p, hp, rfl⟩) _ hb rfl) (S.cur p (List.mem_append_left _ hp)).1, (S.cur p (List.mem_append_left _ hp)).2⟩
  · exact ⟨ho p hp, off _ (by rw [← hA]; exact List.mem_map.mpr ⟨p, hp, rfl⟩)⟩

/-- what stands new in a heap that keeps the old one is frozen -/
theorem St.addAt {h' : Heap} {a : Addr} {o : Obj} (S : St c B mu l s) (tk : Nat) (hk : ∀ b o, s.heap.get? b = some o → h'.get? b = some o) (ha : s.heap.get? a = none) (ho : h'.get? a = some o) :
    St c (B.add a o) mu l { s with heap := h', toks := tk } ∧ B.le (B.add a o) := by
  have nB : B a = none := by
    cases e : B a with
    | none => rfl
    | some x => rw [S.keep _ _ e] at ha; cases ha
  have T := S.heap tk hk
  have nL : c.env.locals ≠ a := fun q => by
    obtain ⟨oL, _, _, hL, _⟩ := S.ns
    rw [q, ha] at hL; cases hL
  refine ⟨⟨T.ok, T.up, T.ns, T.nd, T.kinds, T.old, fun b x e => ?_, S.ext.trans (PH.add_le nB), fun b x e => ?_, ?_, T.offL, fun p hp => ?_, T.mnd⟩, PH.add_le nB⟩
  · by_cases hb : b = a
    · subst hb
      rw [PH.add_self] at e
      cases e
      exact ho
    · simp only [PH.add, if_neg hb] at e
      exact T.keep b x e
  · by_cases hb : b = a
    · subst hb
      refine .inr ?_
      cases e' : c.s₀.heap.get? b with
      | none => rfl
      | some x => rw [S.old _ _ e'] at ha; cases ha
    · simp only [PH.add, if_neg hb] at e
      exact T.fresh b x e
  · simp only [PH.add, if_neg nL]; exact S.off
  · obtain ⟨h1, h2, h3, h4⟩ := T.cur p hp
    have : p.1 ≠ a := fun q => by rw [← q, (S.cur p hp).1] at ha; cases ha
    exact ⟨h1, h2, by simp only [PH.add, if_neg this]; exact h3, h4⟩

theorem src_list {target : Expr} {a : Addr} {vs : List Value} {en : Nat} {Q : Value → Shared → Prop} (hh : A.handled = none) (ht : ∀ it v, letOwnedTupleGo target it v = pure ())
    (S : St c B mu l s) (hl : B a = some (listOf vs.toArray en))
    (h : ∀ it its H s₂, St c B (mu ++ its) l s₂ → H 0 its → Src prog w A target it vs.length H (fun i B B' v => B' = B ∧ vs[i]? = some v) B → Q it s₂) :
    wpAny (model prog w) A (pyIter (.ref a)) Q E s := by
  refine wpAny_pyIter_list (S.isList hl) ?_
  generalize hI0 : s.heap.objs.size = I
  have S1 := S.allocM (o := lIter a 0) rfl
  rw [hI0] at S1
  have neI : a ≠ I := fun q => by
    have := Heap.lt_size (S.keep _ _ hl)
    rw [q, ← hI0] at this
    exact Nat.lt_irrefl _ this
  refine h (.ref I) [(I, lIter a 0)] (fun i its => ∃ o : Obj, its = [(I, o)] ∧ o.cls = .type "list_iterator" ∧ o.data = .fields #[.ref a, .int i 0]) _ (S1.perm ((perm_front _ mu []).symm.trans (by simp))) ⟨_, rfl, rfl, rfl⟩ ⟨?_, ?_, ?_⟩
  · rintro c B₁ mu₁ l₁ its s₁ QQ E' _ S₁ ⟨o, rfl, hc, hd⟩ k'
    exact wpAny_pyIter_listiter ⟨o, (S₁.cur (I, o) (by simp)).1, hc, hd⟩ k'
  · rintro c i B₁ mu₁ l₁ its s₁ QQ hi hB S₁ ⟨o, rfl, hc, hd⟩ k'
    have hit : s₁.heap.IsListIter I a i := ⟨o, (S₁.cur (I, o) (by simp)).1, hc, hd⟩
    refine wpAny_pyNext_list_item hit (S₁.isList (hB _ _ hl)) (x := vs[i]) (by simp [hi]) fun h' hit' hs' => ?_
    refine wpAny_of_eq (ht _ _) ?_
    obtain ⟨o', ho', hc', hd'⟩ := hit'
    exact k' _ B₁ [(I, o')] _ (PH.le.refl _) (S₁.swap s₁.toks (fun b x hb e => hs'.extBut b x (by simpa using hb) e) rfl (by simpa using ho')) ⟨o', rfl, hc', hd'⟩ ⟨rfl, by simp [hi]⟩
  · rintro c B₁ mu₁ l₁ its s₁ QQ hB S₁ ⟨o, rfl, hc, hd⟩ k'
    have hit : s₁.heap.IsListIter I a vs.length := ⟨o, (S₁.cur (I, o) (by simp)).1, hc, hd⟩
    refine wpAny_pyNext_list_end hh hit (S₁.isList (hB _ _ hl)) (by simp) fun h' he => ⟨rfl, k' _ ?_⟩
    have S₂ : St c B₁ ((I, o) :: mu₁) l₁ s₁ := S₁.perm (by simpa using perm_front (I, o) mu₁ [])
    exact S₂.ext2 s₁.toks he
/-- a for over a frozen list -/
theorem loop_list {target : Expr} {body : List Stmt} {a : Addr} {vs : List Value} {en : Nat} {Q : Flow → Shared → Prop} (hh : A.handled = none) (ht : ∀ it v, letOwnedTupleGo target it v = pure ())
    (S : St c B mu l s) (hl : B a = some (listOf vs.toArray en))
    (Inv : Nat → PH → List (Addr × Obj) → Locs → Prop) (hI : Inv 0 B mu l)
    (step : ∀ i v B₁ mu₁ l₁ its s₁, vs[i]? = some v → B.le B₁ → Inv i B₁ mu₁ l₁ → St c B₁ (mu₁ ++ its) l₁ s₁ →
      wpAny (model prog w) A (assign target c.env v) (fun _ s₂ => wpAny (model prog w) A (execs body c.env) (fun f s₃ => match f with
        | .next | .cont => ∃ B₃ mu₃ l₃, St c B₃ (mu₃ ++ its) l₃ s₃ ∧ B₁.le B₃ ∧ Inv (i + 1) B₃ mu₃ l₃
        | .brk => False
        | .ret v => Q (.ret v) s₃) NoE s₂) NoE s₁)
    (fin : ∀ B₁ mu₁ l₁ s₁, B.le B₁ → Inv vs.length B₁ mu₁ l₁ → St c B₁ mu₁ l₁ s₁ → Q .next s₁) :
    wpAny (model prog w) A (pyIter (.ref a)) (fun it s₂ => codeAny (model prog w) A (.forLoop target it body [] c.env) (fun r s' => match r with | .ok f => Q f s' | .error e => cameBackBy (model prog w) A c.env E e s') s₂) E s :=
  src_list hh ht S hl fun it its H s₂ S₂ h0 X => loop_any H _ Inv S₂ h0 hI X (by
    rintro i v B₁ B₂ mu₁ l₁ its s₁ hi hB hB₂ hJ ⟨rfl, hv⟩ S₁
    exact step i v _ mu₁ l₁ its s₁ hv hB hJ S₁) fin

/-- two fresh cells, kept -/
theorem St.two {o1 o2 : Obj} {h' : Heap} (S : St c B mu l s) (hk : ∀ b o, s.heap.get? b = some o → h'.get? b = some o) (h1 : h'.get? (s.heap.objs.size + 1) = some o1) (h2 : h'.get? s.heap.objs.size = some o2) :
    St c B (mu ++ [(s.heap.objs.size + 1, o1), (s.heap.objs.size, o2)]) l { s with heap := h' } := by
  have nx : ∀ b, s.heap.objs.size ≤ b → s.heap.get? b = none := fun b hb => by
    cases e : s.heap.get? b with
    | none => rfl
    | some x => exact absurd (Heap.lt_size e) (Nat.not_lt.mpr hb)
  have neL : ∀ b, s.heap.objs.size ≤ b → (b ≠ c.env.locals ∧ B b = none ∧ c.s₀.heap.get? b = none) ∧ ∀ p ∈ mu, p.1 ≠ b := fun b hb => by
    have hb := nx b hb
    refine ⟨⟨fun q => ?_, ?_, ?_⟩, fun p hp q => ?_⟩
    · obtain ⟨oL, _, _, hL, _⟩ := S.ns
      rw [← q, hb] at hL; cases hL
    · cases e : B b with
      | none => rfl
      | some x => rw [S.keep _ _ e] at hb; cases hb
    · cases e : c.s₀.heap.get? b with
      | none => rfl
      | some x => rw [S.old _ _ e] at hb; cases hb
    · rw [← q, (S.cur p hp).1] at hb; cases hb
  obtain ⟨a1, b1⟩ := neL (s.heap.objs.size + 1) (Nat.le_succ _)
  obtain ⟨a2, b2⟩ := neL _ (Nat.le_refl _)
  have T := S.heap (h := h') s.toks hk
  refine ⟨T.ok, T.up, T.ns, T.nd, T.kinds, T.old, T.keep, T.ext, T.fresh, T.off, T.offL, fun p hp => ?_, ?_⟩
  · rcases List.mem_append.mp hp with hp | hp
    · exact T.cur p hp
    · rcases List.mem_cons.mp hp with rfl | hp
      · exact ⟨h1, a1⟩
      · rw [List.mem_singleton.mp hp]
        exact ⟨h2, a2⟩
  · rw [List.map_append, List.nodup_append]
    refine ⟨S.mnd, by simp, fun x hx y hy => ?_⟩
    obtain ⟨p, hp, rfl⟩ := List.mem_map.mp hx
    simp only [List.map_cons, List.map_nil, List.mem_cons, List.not_mem_nil, or_false] at hy
    rcases hy with rfl | rfl
    · exact b1 p hp
    · exact b2 p hp
theorem src_enum {elts : List Expr} {x1 : Nat} {tp : Pos} {a : Addr} {vs : List Value} {en : Nat} {Q : Value → Shared → Prop} (hh : A.handled = none)
    (S : St c B mu l s) (hl : B a = some (listOf vs.toArray en))
    (h : ∀ it its H s₂, St c B (mu ++ its) l s₂ → H 0 its → Src prog w A (.Tuple elts x1 tp) it vs.length H (fun i _ B' v => ∃ x tk p, vs[i]? = some x ∧ v = .ref p ∧ B' p = some (tupOf [.int i tk, x])) B → Q it s₂) :
    wpAny (model prog w) A (call (.type "enumerate") [.ref a]) (fun x s₁ => wpAny (model prog w) A (pyIter x) Q E s₁) E s := by
  refine call_enumerate_1 (S.keep _ _ hl) fun h' he hit hsz hk => wpAny_pyIter_enum he ?_
  obtain ⟨oJ, hoJ, hcJ, hdJ⟩ := id hit
  have S1 := S.two hk he hoJ
  generalize s.heap.objs.size = J at he hit hsz hoJ S1
  refine h (.ref (J + 1)) [(J + 1, enObj J 0 .none), (J, oJ)] (fun i its => ∃ (o : Obj) (old : Value), its = [(J + 1, enObj J i old), (J, o)] ∧ o.cls = .type "list_iterator" ∧ o.data = .fields #[.ref a, .int i 0])
    _ S1 ⟨oJ, .none, rfl, hcJ, hdJ⟩ ⟨?_, ?_, ?_⟩
  · rintro c B₁ mu₁ l₁ its s₁ QQ E' _ S₁ ⟨o, old, rfl, hc, hd⟩ k'
    have hen : IsEnum s₁.heap (J + 1) J (0 : Nat) old := (S₁.cur (J + 1, enObj J (0 : Nat) old) (by simp)).1
    exact wpAny_pyIter_enum hen k'
  · rintro c i B₁ mu₁ l₁ its s₁ QQ hi hB S₁ ⟨o, old, rfl, hc, hd⟩ k'
    have hit : s₁.heap.IsListIter J a i := ⟨o, (S₁.cur (J, o) (by simp)).1, hc, hd⟩
    have hen : IsEnum s₁.heap (J + 1) J i old := (S₁.cur (J + 1, enObj J i old) (by simp)).1
    refine wpAny_pyNext_enum_item hen hit (S₁.isList (hB _ _ hl)) (x := vs[i]) (by simp [hi]) (Nat.succ_ne_self J) fun h' heo hit' htp hz' hk' => ?_
    refine wpAny_letOwnedTupleGo_enum heo fun h₂ he₂ hs₂ => ?_
    obtain ⟨o', ho', hc', hd'⟩ := hit'
    have nP : s₁.heap.get? s₁.heap.objs.size = none := by
      cases e : s₁.heap.get? s₁.heap.objs.size with
      | none => rfl
      | some x => exact absurd (Heap.lt_size e) (Nat.lt_irrefl _)
    have hJP : J ≠ s₁.heap.objs.size := by
      obtain ⟨oo, hoo, _⟩ := hit
      exact Nat.ne_of_lt (Heap.lt_size hoo)
    have hIP : J + 1 ≠ s₁.heap.objs.size := Nat.ne_of_lt (Heap.lt_size hen)
    have S₂ := S₁.swap (its' := [(J + 1, enObj J (i + 1 : Nat) vs[i]), (J, o')]) (h' := h₂) (s₁.toks + 1)
      (fun b x hb e => by
        simp only [List.map_cons, List.map_nil, List.mem_cons, List.not_mem_nil, or_false, not_or] at hb
        exact hs₂.extBut b x hb.1 (hk' b x hb.1 hb.2 e)) rfl (fun p hp => by
        rcases List.mem_cons.mp hp with rfl | hp
        · have : ((i + 1 : Nat) : Int) = (i : Int) + 1 := by push_cast; rfl
          rw [this]; exact he₂
        · rw [List.mem_singleton.mp hp]
          exact hs₂.extBut J o' (Nat.succ_ne_self J).symm ho')
    have nB : ∀ (q : PH), q.on s₁.heap → q s₁.heap.objs.size = none := fun q hq => by
      cases e : q s₁.heap.objs.size with
      | none => rfl
      | some x => rw [hq _ _ e] at nP; cases nP
    have htp2 : h₂.get? s₁.heap.objs.size = some (tupOf [.int i s₁.toks, vs[i]]) := hs₂.extBut _ _ (fun q => hIP q.symm) htp
    have S₃ : St c (B₁.add s₁.heap.objs.size (tupOf [.int i s₁.toks, vs[i]])) (mu₁ ++ [(J + 1, enObj J (i + 1 : Nat) vs[i]), (J, o')]) l₁ { s₁ with heap := h₂, toks := s₁.toks + 1 } := by
      have nB₁ := nB B₁ S₁.keep
      refine ⟨S₂.ok, S₂.up, S₂.ns, S₂.nd, S₂.kinds, S₂.old, fun b x e => ?_, S₂.ext.trans (PH.add_le nB₁), fun b x e => ?_, ?_, S₂.offL, fun p hp => ?_, S₂.mnd⟩
      · by_cases hb : b = s₁.heap.objs.size
        · subst hb; rw [PH.add_self] at e; cases e; exact htp2
        · simp only [PH.add, if_neg hb] at e; exact S₂.keep b x e
      · by_cases hb : b = s₁.heap.objs.size
        · subst hb
          refine .inr ?_
          cases e' : c.s₀.heap.get? s₁.heap.objs.size with
          | none => rfl
          | some x => rw [S₁.old _ _ e'] at nP; cases nP
        · simp only [PH.add, if_neg hb] at e; exact S₂.fresh b x e
      · have : c.env.locals ≠ s₁.heap.objs.size := Nat.ne_of_lt S₁.ns.lt
        simp only [PH.add, if_neg this]; exact S₂.off
      · obtain ⟨g1, g2, g3, g4⟩ := S₂.cur p hp
        have : p.1 ≠ s₁.heap.objs.size := fun q => by
          rcases List.mem_append.mp hp with hp | hp
          · have := (S₁.cur p (List.mem_append_left _ hp)).1
            rw [q, nP] at this; cases this
          · rcases List.mem_cons.mp hp with rfl | hp
            · exact hIP q
            · rw [List.mem_singleton.mp hp] at q; exact hJP q
        exact ⟨g1, g2, by simp only [PH.add, if_neg this]; exact g3, g4⟩
    exact k' _ _ _ _ (PH.add_le (nB B₁ S₁.keep)) S₃ ⟨o', _, rfl, hc', hd'⟩ ⟨vs[i], s₁.toks, _, by simp [hi], rfl, PH.add_self _ _ _⟩
  · rintro c B₁ mu₁ l₁ its s₁ QQ hB S₁ ⟨o, old, rfl, hc, hd⟩ k'
    have hit : s₁.heap.IsListIter J a vs.length := ⟨o, (S₁.cur (J, o) (by simp)).1, hc, hd⟩
    have hen : IsEnum s₁.heap (J + 1) J vs.length old := (S₁.cur (J + 1, enObj J vs.length old) (by simp)).1
    refine wpAny_pyNext_enum_end hh hen hit (S₁.isList (hB _ _ hl)) (by simp) fun h' he => ⟨rfl, k' _ ?_⟩
    have S₂ : St c B₁ ((J, o) :: mu₁) l₁ s₁ := (S₁.drop (mu' := mu₁ ++ [(J, o)]) (List.Sublist.append (List.Sublist.refl _) (by simp))).perm (by simpa using perm_front (J, o) mu₁ [])
    exact S₂.ext2 s₁.toks he
/-- for (i, x) in enumerate(frozen list) -/
theorem loop_enum {elts : List Expr} {x1 : Nat} {tp : Pos} {body : List Stmt} {a : Addr} {vs : List Value} {en : Nat} {Q : Flow → Shared → Prop} (hh : A.handled = none)
    (S : St c B mu l s) (hl : B a = some (listOf vs.toArray en))
    (Inv : Nat → PH → List (Addr × Obj) → Locs → Prop) (hI : Inv 0 B mu l)
    (step : ∀ i v tk p B₁ B₂ mu₁ l₁ its s₁, vs[i]? = some v → B.le B₁ → B₁.le B₂ → Inv i B₁ mu₁ l₁ → B₂ p = some (tupOf [.int i tk, v]) → St c B₂ (mu₁ ++ its) l₁ s₁ →
      wpAny (model prog w) A (assign (.Tuple elts x1 tp) c.env (.ref p)) (fun _ s₂ => wpAny (model prog w) A (execs body c.env) (fun f s₃ => match f with
        | .next | .cont => ∃ B₃ mu₃ l₃, St c B₃ (mu₃ ++ its) l₃ s₃ ∧ B₂.le B₃ ∧ Inv (i + 1) B₃ mu₃ l₃
        | .brk => False
        | .ret v => Q (.ret v) s₃) NoE s₂) NoE s₁)
    (fin : ∀ B₁ mu₁ l₁ s₁, B.le B₁ → Inv vs.length B₁ mu₁ l₁ → St c B₁ mu₁ l₁ s₁ → Q .next s₁) :
    wpAny (model prog w) A (call (.type "enumerate") [.ref a]) (fun x s₁ => wpAny (model prog w) A (pyIter x) (fun it s₂ => codeAny (model prog w) A (.forLoop (.Tuple elts x1 tp) it body [] c.env) (fun r s' => match r with | .ok f => Q f s' | .error e => cameBackBy (model prog w) A c.env E e s') s₂) E s₁) E s :=
  src_enum hh S hl fun it its H s₂ S₂ h0 X => loop_any H _ Inv S₂ h0 hI X (by
    rintro i v B₁ B₂ mu₁ l₁ its s₁ hi hB hB₂ hJ ⟨x, tk, p, hx, rfl, hp⟩ S₁
    exact step i x tk p _ _ mu₁ l₁ its s₁ hx hB hB₂ hJ hp S₁) fin

/-- while -/
theorem r_while {test : Expr} {body : List Stmt} {pos : Pos} {Q : Flow → Shared → Prop} (S : St c B mu l s) (Inv : Nat → PH → List (Addr × Obj) → Locs → Prop) (Out : PH → List (Addr × Obj) → Locs → Prop) (n : Nat) (hI : Inv n B mu l)
    (step : ∀ n B₁ mu₁ l₁ s₁, B.le B₁ → Inv n B₁ mu₁ l₁ → St c B₁ mu₁ l₁ s₁ → wpAny (model prog w) A (isTrue test c.env (eval test c.env)) (fun b s₂ =>
        if b then wpAny (model prog w) A (execs body c.env) (fun f s₃ => match f with
            | .next | .cont => ∃ m B₃ mu₃ l₃, m < n ∧ St c B₃ mu₃ l₃ s₃ ∧ B₁.le B₃ ∧ Inv m B₃ mu₃ l₃
            | .brk => False
            | .ret v => Q (.ret v) s₃) NoE s₂
        else ∃ B₃ mu₃ l₃, St c B₃ mu₃ l₃ s₂ ∧ B₁.le B₃ ∧ Out B₃ mu₃ l₃) NoE s₁)
    (fin : ∀ B₁ mu₁ l₁ s₁, B.le B₁ → Out B₁ mu₁ l₁ → St c B₁ mu₁ l₁ s₁ → Q .next s₁) :
    wpAny (model prog w) A (exec (.While test body [] pos) c.env) Q E s := by
  refine wpAny_While ?_
  refine codeAny_whileLoop (fun k s' => ∃ B₁ mu₁ l₁, B.le B₁ ∧ St c B₁ mu₁ l₁ s' ∧ Inv k B₁ mu₁ l₁) ?_ n ⟨B, mu, l, PH.le.refl _, S, hI⟩
  rintro k s' ⟨B₁, mu₁, l₁, hB, S₁, hJ⟩
  refine wpAny_mono (step k B₁ mu₁ l₁ s' hB hJ S₁) (fun b s₂ h₂ => ?_) fun _ _ x => x.elim
  cases b with
  | true =>
    simp only [if_true] at h₂ ⊢
    refine wpAny_mono h₂ (fun f s₃ h₃ => ?_) fun _ _ x => x.elim
    have go : (∃ m B₃ mu₃ l₃, m < k ∧ St c B₃ mu₃ l₃ s₃ ∧ B₁.le B₃ ∧ Inv m B₃ mu₃ l₃) → ∃ m, m < k ∧ ∃ B₁ mu₁ l₁, B.le B₁ ∧ St c B₁ mu₁ l₁ s₃ ∧ Inv m B₁ mu₁ l₁ :=
      fun ⟨m, B₃, mu₃, l₃, hm, S₃, hB₃, hJ₃⟩ => ⟨m, hm, B₃, mu₃, l₃, hB.trans hB₃, S₃, hJ₃⟩
    cases f with
    | next => exact go h₃
    | cont => exact go h₃
    | brk => exact h₃.elim
    | ret v => exact h₃
  | false =>
    simp only [Bool.false_eq_true, if_false] at h₂ ⊢
    obtain ⟨B₃, mu₃, l₃, S₃, hB₃, ho⟩ := h₂
    exact wpAny_execs_nil (fin B₃ mu₃ l₃ s₂ (hB.trans hB₃) ho S₃)

-- targets
theorem r_asgName {x : Str} {p : Pos} {v : Value} {Q : Unit → Shared → Prop} (S : St c B mu l s) (hp : Put x v l l') (h : ∀ s', St c B mu l' s' → Q () s') : wpAny (model prog w) A (assign (.Name x p) c.env v) Q E s :=
  PySem.wpAny_assign_Name (r_store S hp h)
theorem r_asgTup2 {x y : Str} {px py pt : Pos} {x1 : Nat} {a : Addr} {u v : Value} {l₁ l₂ : Locs} {Q : Unit → Shared → Prop} (hh : A.handled = none) (S : St c B mu l s) (ht : B a = some (tupOf [u, v])) (h1 : Put x u l l₁) (h2 : Put y v l₁ l₂) (h : ∀ s', St c B mu l₂ s' → Q () s') :
    wpAny (model prog w) A (assign (.Tuple [.Name x px, .Name y py] x1 pt) c.env (.ref a)) Q E s := by
  refine wpAny_assign_Tuple hh (S.isTup ht) rfl rfl fun h' he => ?_
  have S₁ : St c B mu l { s with heap := h' } := S.heap' fun b o e => he b o (Nat.ne_of_lt (Heap.lt_size e)) e
  show wpAny _ A (do holding [v] (assign (.Name x px) c.env u); do holding [] (assign (.Name y py) c.env v); pure ()) _ _ _
  refine wpAny_bind (wpAny_holding (r_asgName S₁ h1 fun s₂ S₂ => ?_))
  refine wpAny_bind (wpAny_holding (r_asgName S₂ h2 fun s₃ S₃ => wpAny_pure (h s₃ S₃)))
end
end
end
section
open PySem PySem.W PyProof.Rows PySem.Calls
set_option maxRecDepth 100000
section
noncomputable abbrev znat (L : List Nat) : List Int := L.map fun d : Nat => (d : Int)
noncomputable abbrev NL (B : PH) (a : Addr) (L : List Nat) : Prop := IL B a (znat L)
theorem getD_znat (L : List Nat) (k : Nat) : (znat L).getD k 0 = ((L.getD k 0 : Nat) : Int) := by
  simp only [List.getD_eq_getElem?_getD, List.getElem?_map]
  cases L[k]? <;> rfl

structure Cx where
  prog : Program
  w : World
  A : Around
  c : Fx

noncomputable def VI (i : Int) (v : Value) : Prop := ∃ t, v = .int i t
noncomputable def VB (b : Bool) (v : Value) : Prop := v = .bool b
noncomputable def VR (a : Addr) (v : Value) : Prop := v = .ref a

section
variable (X : Cx) (B : PH) (mu : List (Addr × Obj)) (l : Locs)
/-- an expression that makes nothing -/
structure Ev (e : Expr) (P : Value → Prop) : Prop where
  run : ∀ s (Q : Value → Shared → Prop), St X.c B mu l s → (∀ v s', P v → St X.c B mu l s' → Q v s') → wpAny (model X.prog X.w) X.A (eval e X.c.env) Q NoE s
/-- an expression that may make new things -/
structure EvB (e : Expr) (P : PH → Value → Prop) : Prop where
  run : ∀ s (Q : Value → Shared → Prop), St X.c B mu l s → (∀ v s' B', P B' v → St X.c B' mu l s' → B.le B' → Q v s') → wpAny (model X.prog X.w) X.A (eval e X.c.env) Q NoE s
structure Evs (es : List Expr) (P : PH → List Value → Prop) : Prop where
  run : ∀ s pos (Q : List Value → Shared → Prop), St X.c B mu l s → (∀ v s' B', P B' v → St X.c B' mu l s' → B.le B' → Q v s') → wpAny (model X.prog X.w) X.A (spliced (backTo pos (starEach es X.c.env))) Q NoE s
/-- a test -/
structure Tst (e : Expr) (b : Bool) : Prop where
  run : ∀ s whole (Q : Bool → Shared → Prop), whole = eval e X.c.env → St X.c B mu l s → (∀ s', St X.c B mu l s' → Q b s') → wpAny (model X.prog X.w) X.A (isTrue e X.c.env whole) Q NoE s
/-- statements -/
structure Ex (body : List Stmt) (K : Flow → PH → List (Addr × Obj) → Locs → Prop) : Prop where
  run : ∀ s, St X.c B mu l s → wpAny (model X.prog X.w) X.A (execs body X.c.env) (fun f s' => ∃ B' mu' l', B.le B' ∧ St X.c B' mu' l' s' ∧ K f B' mu' l') NoE s
end

section
variable {X : Cx} {B : PH} {mu its : List (Addr × Obj)} {l l' : Locs}

theorem Ev.mono {e : Expr} {P P' : Value → Prop} (h : Ev X B mu l e P) (hp : ∀ v, P v → P' v) : Ev X B mu l e P' := .mk fun s _ S k => h.run s _ S fun v s' p S' => k v s' (hp v p) S'
theorem EvB.mono {e : Expr} {P P' : PH → Value → Prop} (h : EvB X B mu l e P) (hp : ∀ B' v, B.le B' → P B' v → P' B' v) : EvB X B mu l e P' := .mk fun s _ S k => h.run s _ S fun v s' B' p S' hb => k v s' B' (hp B' v hb p) S' hb
theorem Ev.up {e : Expr} {P : Value → Prop} (h : Ev X B mu l e P) : EvB X B mu l e (fun B' v => B' = B ∧ P v) := .mk fun s _ S k => h.run s _ S fun v s' p S' => k v s' B ⟨rfl, p⟩ S' (PH.le.refl _)

theorem ev_name {x : Str} {pos : Pos} {v : Value} {P : Value → Prop} (hv : Lk x v l) (hp : P v) (hd : (x == ("__debug__" : Str)) = false := by decide) : Ev X B mu l (.Name x pos) P :=
  .mk fun _ _ S k => r_name S hv (k v _ hp S) hd
theorem ev_nameI {x : Str} {pos : Pos} {i : Int} {t : Tok} (hv : Lk x (.int i t) l) (hd : (x == ("__debug__" : Str)) = false := by decide) : Ev X B mu l (.Name x pos) (VI i) := ev_name hv ⟨t, rfl⟩ hd
theorem ev_nameR {x : Str} {pos : Pos} {a : Addr} (hv : Lk x (.ref a) l) (hd : (x == ("__debug__" : Str)) = false := by decide) : Ev X B mu l (.Name x pos) (VR a) := ev_name hv rfl hd
theorem ev_glob {x : Str} {pos : Pos} {v : Value} {G : List (Str × Value)} (hG : X.c.G = G) (hv : Gk x v G) : Ev X B mu l (.Name x pos) (fun u => u = v) :=
  .mk fun _ _ S k => r_glob S (hG ▸ hv) (k v _ rfl S)
theorem ev_int {i : Int} {k : Nat} {pos : Pos} : Ev X B mu l (.Constant (.int i) k pos) (VI i) := .mk fun _ _ S k => r_int S fun t s' S' => k _ s' ⟨t, rfl⟩ S'
theorem ev_bool {b : Bool} {k : Nat} {pos : Pos} : Ev X B mu l (.Constant (.bool b) k pos) (VB b) := .mk fun _ _ S k => r_bool (k _ _ rfl S)
theorem ev_none {k : Nat} {pos : Pos} : Ev X B mu l (.Constant .none k pos) (fun v => v = .none) := .mk fun _ _ S k => r_none (k _ _ rfl S)

/-- two ints to a value -/
theorem ev_bin {op : Operator} {e f : Expr} {pos : Pos} {a b : Int} {P : Value → Prop} (he : Ev X B mu l e (VI a)) (hf : Ev X B mu l f (VI b))
    (h : ∀ t u s (Q : Value → Shared → Prop), St X.c B mu l s → (∀ v s', P v → St X.c B mu l s' → Q v s') → wpAny (model X.prog X.w) X.A (binaryOp op (.int a t) (.int b u)) Q NoE s) : Ev X B mu l (.BinOp e op f pos) P := by
  refine .mk fun s Q S k => ?_
  refine wpAny_BinOp (he.run s _ S fun v s' ⟨t, hv⟩ S' => hf.run s' _ S' fun u s'' ⟨t', hu⟩ S'' => ?_)
  subst hv hu
  exact h t t' s'' _ S'' k
section
variable {e f : Expr} {pos : Pos} {a b : Int}
theorem ev_add (he : Ev X B mu l e (VI a)) (hf : Ev X B mu l f (VI b)) : Ev X B mu l (.BinOp e .Add f pos) (VI (a + b)) := ev_bin he hf fun _ _ _ _ S k => r_add S fun t s' S' => k _ s' ⟨t, rfl⟩ S'
theorem ev_sub (he : Ev X B mu l e (VI a)) (hf : Ev X B mu l f (VI b)) : Ev X B mu l (.BinOp e .Sub f pos) (VI (a - b)) := ev_bin he hf fun _ _ _ _ S k => r_sub S fun t s' S' => k _ s' ⟨t, rfl⟩ S'
theorem ev_mul (he : Ev X B mu l e (VI a)) (hf : Ev X B mu l f (VI b)) (ha : a.natAbs < 2 ^ 64) : Ev X B mu l (.BinOp e .Mult f pos) (VI (a * b)) := ev_bin he hf fun _ _ _ _ S k => r_mul S ha fun t s' S' => k _ s' ⟨t, rfl⟩ S'
theorem ev_fdiv (he : Ev X B mu l e (VI a)) (hf : Ev X B mu l f (VI b)) (hb : b ≠ 0) (hb2 : b.natAbs < 1000000) : Ev X B mu l (.BinOp e .FloorDiv f pos) (VI (a.fdiv b)) := ev_bin he hf fun _ _ _ _ S k => r_fdiv S hb hb2 fun t s' S' => k _ s' ⟨t, rfl⟩ S'
theorem ev_fmod (he : Ev X B mu l e (VI a)) (hf : Ev X B mu l f (VI b)) (hb : b ≠ 0) : Ev X B mu l (.BinOp e .Mod f pos) (VI (a.fmod b)) := ev_bin he hf fun _ _ _ _ S k => r_fmod S hb fun t s' S' => k _ s' ⟨t, rfl⟩ S'
theorem ev_shl (he : Ev X B mu l e (VI a)) (hf : Ev X B mu l f (VI b)) (hb : 0 ≤ b) (hb2 : b ≤ 1000000) (ha : a.natAbs < 2 ^ 64) : Ev X B mu l (.BinOp e .LShift f pos) (VI (a * 2 ^ b.toNat)) := ev_bin he hf fun _ _ _ _ S k => r_shl S hb hb2 ha fun t s' S' => k _ s' ⟨t, rfl⟩ S'
theorem ev_pow (he : Ev X B mu l e (VI a)) (hf : Ev X B mu l f (VI b)) (hb : 0 ≤ b) (hb2 : b ≤ 1000000) (ha : a.natAbs < 2 ^ 64) : Ev X B mu l (.BinOp e .Pow f pos) (VI (a ^ b.toNat)) := ev_bin he hf fun _ _ _ _ S k => r_pow S hb hb2 ha fun t s' S' => k _ s' ⟨t, rfl⟩ S'
theorem ev_and (he : Ev X B mu l e (VI a)) (hf : Ev X B mu l f (VI b)) : Ev X B mu l (.BinOp e .BitAnd f pos) (VI (Builtin.bitAnd a b)) := ev_bin he hf fun _ _ _ _ S k => r_and S fun t s' S' => k _ s' ⟨t, rfl⟩ S'
theorem ev_or (he : Ev X B mu l e (VI a)) (hf : Ev X B mu l f (VI b)) : Ev X B mu l (.BinOp e .BitOr f pos) (VI (Builtin.bitOr a b)) := ev_bin he hf fun _ _ _ _ S k => r_or S fun t s' S' => k _ s' ⟨t, rfl⟩ S'
theorem ev_neg (he : Ev X B mu l e (VI a)) : Ev X B mu l (.UnaryOp .USub e pos) (VI (-a)) := by
  refine .mk fun s Q S k => ?_
  refine UnaryOp_ (he.run s _ S fun v s' ⟨t, hv⟩ S' => ?_)
  subst hv
  exact r_neg S' fun t s' S' => k _ s' ⟨t, rfl⟩ S'
theorem ev_vi {a' : Int} (he : Ev X B mu l e (VI a)) (h : a = a') : Ev X B mu l e (VI a') := h ▸ he
end

-- items
theorem ev_at {e i : Expr} {pos : Pos} {a : Addr} {k : Int} {P : Value → Prop} (he : Ev X B mu l e (VR a)) (hi : Ev X B mu l i (VI k))
    (h : ∀ u s (Q : Value → Shared → Prop), St X.c B mu l s → (∀ v s', P v → St X.c B mu l s' → Q v s') → wpAny (model X.prog X.w) X.A (subscriptTail e i (.ref a) (.int k u)) Q NoE s) : Ev X B mu l (.Subscript e i pos) P := by
  refine .mk fun s Q S k' => ?_
  refine Subscript_ (he.run s _ S fun v s' hv S' => hi.run s' _ S' fun u s'' ⟨t, hu⟩ S'' => ?_)
  subst hv hu
  exact h t s'' _ S'' k'
theorem ev_item {e i : Expr} {pos : Pos} {a : Addr} {L : List Nat} {k : Nat} (he : Ev X B mu l e (VR a)) (hl : NL B a L) (hi : Ev X B mu l i (VI k)) (h1 : k < L.length) (hz : L.length ≤ 1000000)
    (hs : ∀ k u, subscripted i false (.ref a) (.int k u) = operate [.ref a, .int k u] (getItem (.ref a) (.int k u)) := by intro _ _; with_unfolding_all rfl) : Ev X B mu l (.Subscript e i pos) (VI ((L.getD k 0 : Nat) : Int)) :=
  ev_at he hi fun u s Q S k' => r_itemI S hl (Int.natCast_nonneg k) (by rw [List.length_map]; exact Int.ofNat_lt.mpr h1) (by rw [List.length_map]; exact hz) (fun t => k' _ s ⟨t, by rw [getD_znat]; rfl⟩ S) (hs _ u)
theorem ev_itemM {e i : Expr} {pos : Pos} {a : Addr} {vs : List Value} {n : Nat} {L : List Nat} {k : Nat} (hI : IntsAre vs (znat L)) (he : Ev X B ((a, listOf vs.toArray n) :: mu) l e (VR a)) (hi : Ev X B ((a, listOf vs.toArray n) :: mu) l i (VI k)) (h1 : k < L.length) (hz : L.length ≤ 1000000)
    (hs : ∀ k u, subscripted i false (.ref a) (.int k u) = operate [.ref a, .int k u] (getItem (.ref a) (.int k u)) := by intro _ _; with_unfolding_all rfl) : Ev X B ((a, listOf vs.toArray n) :: mu) l (.Subscript e i pos) (VI ((L.getD k 0 : Nat) : Int)) :=
  ev_at he hi fun u s Q S k' => by
    obtain ⟨t, ht⟩ := hI.get k ((znat L).getD k 0) (by rw [List.getD_eq_getElem?_getD, List.getElem?_eq_getElem (by rw [List.length_map]; exact h1)]; rfl)
    exact r_item S.isListM (Int.natCast_nonneg k) (by omega) ht (k' _ s ⟨t, by rw [getD_znat]⟩ S) (hs _ u)
theorem ev_tup {e : Expr} {j : Nat} {kk : Nat} {p pos : Pos} {a : Addr} {vs : List Value} {v : Value} {P : Value → Prop} (hl : B a = some (tupOf vs)) (he : Ev X B mu l e (VR a)) (hv : vs[j]? = some v) (hp : P v) (hj : j < 1000000)
    (hs : ∀ u, subscripted (.Constant (.int j) kk p) false (.ref a) (.int j u) = operate [.ref a, .int j u] (getItem (.ref a) (.int j u)) := by intro _; with_unfolding_all rfl) : Ev X B mu l (.Subscript e (.Constant (.int j) kk p) pos) P :=
  ev_at he ev_int fun u s Q S k' => r_tup S hl hj hv (k' v s hp S) (hs u)

theorem ev_if {c e f : Expr} {pos : Pos} {b : Bool} {P : Value → Prop} (hc : Tst X B mu l c b) (he : b = true → Ev X B mu l e P) (hf : b = false → Ev X B mu l f P) : Ev X B mu l (.IfExp c e f pos) P := by
  refine .mk fun s Q S k => ?_
  refine IfExp_ (hc.run s _ _ rfl S fun s' S' => ?_)
  cases b with
  | true => exact (he rfl).run s' Q S' k
  | false => exact (hf rfl).run s' Q S' k

-- tests
theorem tst_cmp {op : CmpOp} {e f : Expr} {pos : Pos} {a b : Int} {r : Bool} (he : Ev X B mu l e (VI a)) (hf : Ev X B mu l f (VI b))
    (h : ∀ t u s (Q : Value → Shared → Prop), Q (.bool r) s → wpAny (model X.prog X.w) X.A (compareOp op (.int a t) (.int b u)) Q NoE s) (hm : behindInMarks op f = false) : Tst X B mu l (.Compare e [op] [f] pos) r := by
  refine .mk fun s whole Q hw S k => ?_
  refine wpAny_isTrue_Compare1 (he.run s _ S fun v s' ⟨t, hv⟩ S' => hf.run s' _ S' fun u s'' ⟨t', hu⟩ S'' => ?_) hm
  subst hv hu
  exact h t t' s'' _ (wpAny_truthy_bool (k s'' S''))
section
variable {e f : Expr} {pos : Pos} {a b : Int}
theorem tst_lt (he : Ev X B mu l e (VI a)) (hf : Ev X B mu l f (VI b)) (hm : behindInMarks .Lt f = false := by with_unfolding_all rfl) : Tst X B mu l (.Compare e [.Lt] [f] pos) (decide (a < b)) := tst_cmp he hf (fun _ _ _ _ h => lt_int h) hm
theorem tst_gt (he : Ev X B mu l e (VI a)) (hf : Ev X B mu l f (VI b)) (hm : behindInMarks .Gt f = false := by with_unfolding_all rfl) : Tst X B mu l (.Compare e [.Gt] [f] pos) (decide (b < a)) := tst_cmp he hf (fun _ _ _ _ h => gt_int h) hm
theorem tst_le (he : Ev X B mu l e (VI a)) (hf : Ev X B mu l f (VI b)) (hm : behindInMarks .LtE f = false := by with_unfolding_all rfl) : Tst X B mu l (.Compare e [.LtE] [f] pos) (decide (a ≤ b)) := tst_cmp he hf (fun _ _ _ _ h => le_int h) hm
theorem tst_ge (he : Ev X B mu l e (VI a)) (hf : Ev X B mu l f (VI b)) (hm : behindInMarks .GtE f = false := by with_unfolding_all rfl) : Tst X B mu l (.Compare e [.GtE] [f] pos) (decide (b ≤ a)) := tst_cmp he hf (fun _ _ _ _ h => ge_int h) hm
theorem tst_eq (he : Ev X B mu l e (VI a)) (hf : Ev X B mu l f (VI b)) (hm : behindInMarks .Eq f = false := by with_unfolding_all rfl) : Tst X B mu l (.Compare e [.Eq] [f] pos) (a == b) := tst_cmp he hf (fun _ _ _ _ h => eq_int h) hm
theorem tst_ne (he : Ev X B mu l e (VI a)) (hf : Ev X B mu l f (VI b)) (hm : behindInMarks .NotEq f = false := by with_unfolding_all rfl) : Tst X B mu l (.Compare e [.NotEq] [f] pos) (a != b) := tst_cmp he hf (fun _ _ _ _ h => ne_int h) hm
end
theorem tst_not {e : Expr} {pos : Pos} {b : Bool} (h : Tst X B mu l e b) : Tst X B mu l (.UnaryOp .Not e pos) (!b) := .mk fun s _ Q _ S k => isTrue_not (h.run s _ _ rfl S fun s' S' => k s' S')
theorem tst_and_nil {pos : Pos} : Tst X B mu l (.BoolOp .And [] pos) true := .mk fun _ _ _ _ S k => isTrue_and_nil (k _ S)
theorem tst_and {e : Expr} {r : List Expr} {pos : Pos} {a b : Bool} (he : Tst X B mu l e a) (hr : a = true → Tst X B mu l (.BoolOp .And r pos) b) : Tst X B mu l (.BoolOp .And (e :: r) pos) (a && b) := by
  refine .mk fun s whole Q _ S k => ?_
  refine isTrue_and (he.run s _ _ rfl S fun s' S' => ?_)
  cases a with
  | true =>
    refine ite_tt ?_
    have hx : ∀ (w1 w2 : Sem Value), isTrue (.BoolOp .And r pos) X.c.env w1 = isTrue (.BoolOp .And r pos) X.c.env w2 := fun _ _ => rfl
    rw [hx whole (eval (.BoolOp .And r pos) X.c.env)]
    exact (hr rfl).run s' _ _ rfl S' fun s'' S'' => by simpa using k s'' S''
  | false => exact ite_ff (k s' S')
theorem tst_or_nil {pos : Pos} : Tst X B mu l (.BoolOp .Or [] pos) false := .mk fun _ _ _ _ S k => isTrue_or_nil (k _ S)
theorem tst_or {e : Expr} {r : List Expr} {pos : Pos} {a b : Bool} (he : Tst X B mu l e a) (hr : a = false → Tst X B mu l (.BoolOp .Or r pos) b) : Tst X B mu l (.BoolOp .Or (e :: r) pos) (a || b) := by
  refine .mk fun s whole Q _ S k => ?_
  refine isTrue_or (he.run s _ _ rfl S fun s' S' => ?_)
  cases a with
  | false =>
    refine ite_ff ?_
    have hx : ∀ (w1 w2 : Sem Value), isTrue (.BoolOp .Or r pos) X.c.env w1 = isTrue (.BoolOp .Or r pos) X.c.env w2 := fun _ _ => rfl
    rw [hx whole (eval (.BoolOp .Or r pos) X.c.env)]
    exact (hr rfl).run s' _ _ rfl S' fun s'' S'' => by simpa using k s'' S''
  | true => exact ite_tt (k s' S')
theorem tst_of {e : Expr} {b b' : Bool} (h : Tst X B mu l e b) (hb : b = b') : Tst X B mu l e b' := hb ▸ h
/-- a test that is a value of its own -/
theorem tst_bool {e : Expr} {b : Bool} (h : Ev X B mu l e (VB b)) (he : ∀ whole, isTrue e X.c.env whole = (do let v ← whole; standAt e.pos; holding [v] (truthy v)) := by intro _; rfl) : Tst X B mu l e b := by
  refine .mk fun s whole Q hw S k => ?_
  subst hw
  refine isTrue_plain (h.run s _ S fun v s' hv S' => ?_) (he _)
  subst hv
  exact wpAny_truthy_bool (k s' S')

-- argument rows
theorem evs_nil {P : PH → List Value → Prop} (h : P B []) : Evs X B mu l [] P := .mk fun _ _ _ S k => args_nil (k [] _ B h S (PH.le.refl _))
theorem evs_cons {e : Expr} {r : List Expr} {P : Value → Prop} {R : PH → List Value → Prop} (he : Ev X B mu l e P) (hr : ∀ v, P v → Evs X B mu l r (fun B' vs => R B' (v :: vs)))
    (hs : starEach (e :: r) X.c.env = (false, eval e X.c.env) :: starEach r X.c.env := by rfl) : Evs X B mu l (e :: r) R := by
  refine .mk fun s pos Q S k => ?_
  exact args_cons (he.run s _ S fun v s' p S' => (hr v p).run s' pos _ S' fun vs s'' B' p' S'' hb => k _ s'' B' p' S'' hb) hs
theorem evs_consB {e : Expr} {r : List Expr} {P : PH → Value → Prop} {R : PH → List Value → Prop} (he : EvB X B mu l e P) (hr : ∀ B' v, B.le B' → P B' v → Evs X B' mu l r (fun B'' vs => R B'' (v :: vs)))
    (hs : starEach (e :: r) X.c.env = (false, eval e X.c.env) :: starEach r X.c.env := by rfl) : Evs X B mu l (e :: r) R := by
  refine .mk fun s pos Q S k => ?_
  exact args_cons (he.run s _ S fun v s' B' p S' hb => (hr B' v hb p).run s' pos _ S' fun vs s'' B'' p' S'' hb' => k _ s'' B'' p' S'' (hb.trans hb')) hs

-- displays
theorem evb_tuple {es : List Expr} {k : Nat} {pos : Pos} {P : PH → List Value → Prop} (h : Evs X B mu l es P) (hz : ∀ B' vs, P B' vs → vs.length ≤ 1000000) :
    EvB X B mu l (.Tuple es k pos) (fun B' v => ∃ B₁ a vs, P B₁ vs ∧ B.le B₁ ∧ B₁.le B' ∧ v = .ref a ∧ B' a = some (tupOf vs)) := by
  refine .mk fun s Q S k => ?_
  refine Tuple_ (h.run s _ _ S fun vs s' B' p S' hb => ?_)
  exact r_newTuple S' (hz B' vs p) fun a s'' hn S'' hle => k _ s'' _ ⟨B', a, vs, p, hb, hle, rfl, PH.add_self _ _ _⟩ S'' (hb.trans hle)
theorem evb_list {es : List Expr} {pos : Pos} {P : PH → List Value → Prop} (h : Evs X B mu l es P) (hz : ∀ B' vs, P B' vs → vs.length ≤ 1000000) :
    EvB X B mu l (.List es pos) (fun B' v => ∃ B₁ a vs, P B₁ vs ∧ B.le B₁ ∧ B₁.le B' ∧ v = .ref a ∧ B' a = some (listOf vs.toArray 0)) := by
  refine .mk fun s Q S k => ?_
  refine List_ (h.run s _ _ S fun vs s' B' p S' hb => ?_)
  exact r_newList S' (hz B' vs p) fun a s'' hn S'' hle => k _ s'' _ ⟨B', a, vs, p, hb, hle, rfl, PH.add_self _ _ _⟩ S'' (hb.trans hle)

-- calls
theorem evb_call {x : Str} {p pos : Pos} {e : Expr} {r : List Expr} {f : Addr} {G : List (Str × Value)} {n : Nat} {P : PH → List Value → Prop} {post : PH → Value → Prop} (R : Room X.A n) (hG : X.c.G = G) (hv : Gk x (.ref f) G) (hf : IsFn X.c.W f)
    (ha : Evs X B mu l (e :: r) P) (h : ∀ B' vs, B.le B' → P B' vs → Fn X.prog X.w X.c.W n (.ref f) vs B' post)
    (he : starEach (e :: r) X.c.env = (false, eval e X.c.env) :: starEach r X.c.env := by rfl) : EvB X B mu l (.Call (.Name x p) (e :: r) [] pos) post := by
  refine .mk fun s Q S k => ?_
  exact r_callG S hG hv hf (ha.run s _ _ S fun vs s' B' p S' hb => ⟨_, _, _, S', S'.callF (h B' vs hb p) R fun v s'' B'' S'' hb' p' => k v s'' B'' p' S'' (hb.trans hb')⟩) he
theorem evb_callL {x : Str} {p pos : Pos} {e : Expr} {r : List Expr} {f : Addr} {n : Nat} {P : PH → List Value → Prop} {post : PH → Value → Prop} (R : Room X.A n) (hv : Lk x (.ref f) l) (hf : IsFn X.c.W f)
    (ha : Evs X B mu l (e :: r) P) (h : ∀ B' vs, B.le B' → P B' vs → Fn X.prog X.w X.c.W n (.ref f) vs B' post) (hd : (x == ("__debug__" : Str)) = false := by decide)
    (he : starEach (e :: r) X.c.env = (false, eval e X.c.env) :: starEach r X.c.env := by rfl) : EvB X B mu l (.Call (.Name x p) (e :: r) [] pos) post := by
  refine .mk fun s Q S k => ?_
  exact r_callL S hv hf (ha.run s _ _ S fun vs s' B' p S' hb => ⟨_, _, _, S', S'.callF (h B' vs hb p) R fun v s'' B'' S'' hb' p' => k v s'' B'' p' S'' (hb.trans hb')⟩) hd he
/-- len(e) of a frozen list of ints -/
theorem ev_len {e : Expr} {p pos : Pos} {a : Addr} {L : List Int} {G : List (Str × Value)} (hG : X.c.G = G) (hv : Gk "len" (.builtin "len") G) (he : Ev X B mu l e (VR a)) (hl : IL B a L) (hz : L.length ≤ 1000000)
    (hs : starEach [e] X.c.env = [(false, eval e X.c.env)] := by rfl) : Ev X B mu l (.Call (.Name "len" p) [e] [] pos) (VI L.length) := by
  refine .mk fun s Q S k => ?_
  refine r_callB S hG hv (args_cons (he.run s _ S fun v s' hv S' => args_nil ?_) hs) hs
  subst hv
  exact r_lenI S' hl hz fun t s'' S'' => k _ s'' ⟨t, rfl⟩ S''
theorem ev_lenN {e : Expr} {p pos : Pos} {a : Addr} {L : List Nat} {G : List (Str × Value)} (hG : X.c.G = G) (hv : Gk "len" (.builtin "len") G) (he : Ev X B mu l e (VR a)) (hl : NL B a L) (hz : L.length ≤ 1000000)
    (hs : starEach [e] X.c.env = [(false, eval e X.c.env)] := by rfl) : Ev X B mu l (.Call (.Name "len" p) [e] [] pos) (VI L.length) :=
  ev_vi (ev_len hG hv he hl (by simpa using hz) hs) (by simp)
end
end
end
section
open PySem PySem.W PyProof.Rows PySem.Calls
set_option maxRecDepth 100000
section

noncomputable def retOf : Flow → Value
  | .ret v => v
  | _ => .none
/-- the end of a def -/
noncomputable def FinK (post : PH → Value → Prop) (f : Flow) (B : PH) (_ : List (Addr × Obj)) (_ : Locs) : Prop := post B (retOf f)
noncomputable abbrev Kont := Flow → PH → List (Addr × Obj) → Locs → Prop
/-- what stands behind a statement -/
noncomputable def Then (X : Cx) (rest : List Stmt) (K : Kont) : Kont := fun f B mu l => match f with
  | .next => Ex X B mu l rest K
  | f => K f B mu l

section
variable {X : Cx} {B : PH} {mu its : List (Addr × Obj)} {l l' : Locs} {rest : List Stmt} {K : Kont}

theorem fn_of {W : Heap} {f : Addr} {name : Str} {params : Arguments} {body : List Stmt} {scope : Scope} {args : List Value} {post : PH → Value → Prop} {r : Nat} {prog : Program} {w : World} (ps : List Str) (rest : List Str) (G : List (Str × Value))
    (D : IsDef W f name params body scope)
    (hbind : ∀ pm cd doc, bindArgs (docDef name params body scope pm cd doc) ⟨args, []⟩ = pure (ps.zip args))
    (hnd : (ps ++ rest).Nodup)
    (hloc : ∀ x ∈ ps ++ rest, scope.names.lookup x = some .local)
    (hG : ∀ x ∈ G.map (·.1), scope.names.lookup x = some .globalImplicit ∧ (x == ("__debug__" : Str)) = false) (hGW : ∀ p ∈ G, GlobAt W p.1 p.2)
    (h : ∀ X : Cx, X.prog = prog → X.w = w → X.c.W = W → X.c.G = G → interactive X.c.env = false → Room X.A r → Ex X B [] ((ps.zip args).map (fun p => (p.1, some p.2)) ++ rest.map fun x => (x, none)) body (FinK post))
    (hlen : ps.length = args.length := by rfl)
    (hco : scope.isCoroutine = false := by rfl) (hgen : scope.isGenerator = false := by rfl) (hk : scope.kind = .function := by rfl)
    (hcell : ∀ x ∈ scope.names, x.2 ≠ .cell := by decide) : Fn prog w W (r + 1) (.ref f) args B post :=
  enter ps rest G D hbind hnd hloc hG hGW (fun c A s h1 _ h3 h4 R S => wpAny_mono ((h ⟨prog, w, A, c⟩ rfl rfl h1 h3 h4 R).run s S) (fun f s' ⟨B', mu', l', _, S', p⟩ => ⟨B', mu', l', S', by cases f <;> exact p⟩) fun _ _ x => x) hlen hco hgen hk hcell

theorem ex_nil (h : K .next B mu l) : Ex X B mu l [] K := .mk fun _ S => wpAny_execs_nil ⟨B, mu, l, PH.le.refl _, S, h⟩
theorem ex_weak {Bo : PH} {body : List Stmt} (hb : Bo.le B) (h : Ex X B mu l body K) : ∀ s, St X.c B mu l s → wpAny (model X.prog X.w) X.A (execs body X.c.env) (fun f s' => ∃ B' mu' l', Bo.le B' ∧ St X.c B' mu' l' s' ∧ K f B' mu' l') NoE s :=
  fun s S => wpAny_mono (h.run s S) (fun _ _ ⟨B', mu', l', a, b, c⟩ => ⟨B', mu', l', hb.trans a, b, c⟩) fun _ _ x => x
/-- one statement, then the rest -/
theorem ex_cons {st : Stmt} (h : ∀ s, St X.c B mu l s → wpAny (model X.prog X.w) X.A (exec st X.c.env) (fun f s' => ∃ B' mu' l', B.le B' ∧ St X.c B' mu' l' s' ∧ Then X rest K f B' mu' l') NoE s) : Ex X B mu l (st :: rest) K := by
  refine .mk fun s S => ?_
  refine wpAny_execs_cons (wpAny_mono (h s S) (fun f s' ⟨B', mu', l', hb, S', t⟩ => ?_) fun _ _ x => x)
  cases f with
  | next => exact ex_weak hb t s' S'
  | brk => exact ⟨B', mu', l', hb, S', t⟩
  | cont => exact ⟨B', mu', l', hb, S', t⟩
  | ret v => exact ⟨B', mu', l', hb, S', t⟩

theorem ex_ret {e : Expr} {pos : Pos} {P : PH → Value → Prop} (he : EvB X B mu l e P) (h : ∀ B' v, B.le B' → P B' v → K (.ret v) B' mu l) : Ex X B mu l (.Return (some e) pos :: rest) K :=
  ex_cons fun s S => wpAny_Return_some (he.run s _ S fun v s' B' p S' hb => ⟨B', mu, l, hb, S', h B' v hb p⟩)
theorem ex_asg {x : Str} {px pos : Pos} {e : Expr} {P : PH → Value → Prop} (he : EvB X B mu l e P) (h : ∀ B' v, B.le B' → P B' v → ∃ l', Put x v l l' ∧ Ex X B' mu l' rest K)
    (hs : swapsWith e (some (.Name x px)) pos.line X.c.env = pure false := by rfl) : Ex X B mu l (.Assign [.Name x px] e pos :: rest) K :=
  ex_cons fun s S => r_assign (he.run s _ S fun v s' B' p S' hb => let ⟨l', hp, k⟩ := h B' v hb p; ⟨B', mu, l, l', S', hp, fun s'' S'' => ⟨B', mu, l', hb, S'', k⟩⟩) hs
theorem ex_asgE {x : Str} {px pos : Pos} {e : Expr} {P : Value → Prop} (he : Ev X B mu l e P) (h : ∀ v, P v → ∃ l', Put x v l l' ∧ Ex X B mu l' rest K)
    (hs : swapsWith e (some (.Name x px)) pos.line X.c.env = pure false := by rfl) : Ex X B mu l (.Assign [.Name x px] e pos :: rest) K :=
  ex_asg he.up (fun B' v _ p => by obtain ⟨rfl, p⟩ := p; exact h v p) hs
theorem ex_asgI {x : Str} {px pos : Pos} {e : Expr} {i : Int} (he : Ev X B mu l e (VI i)) (h : ∀ t, ∃ l', Put x (.int i t) l l' ∧ Ex X B mu l' rest K)
    (hs : swapsWith e (some (.Name x px)) pos.line X.c.env = pure false := by rfl) : Ex X B mu l (.Assign [.Name x px] e pos :: rest) K :=
  ex_asgE he (fun v ⟨t, hv⟩ => by subst hv; exact h t) hs
theorem ex_augI {x : Str} {px pos : Pos} {op : Operator} {e : Expr} {a b r : Int} {t : Tok} (hx : Lk x (.int a t) l) (he : Ev X B mu l e (VI b))
    (ho : ∀ u s (Q : Value → Shared → Prop), St X.c B mu l s → (∀ t s', St X.c B mu l s' → Q (.int r t) s') → wpAny (model X.prog X.w) X.A (inplaceOp op (.int a t) (.int b u)) Q NoE s)
    (h : ∀ t, ∃ l', Put x (.int r t) l l' ∧ Ex X B mu l' rest K) : Ex X B mu l (.AugAssign (.Name x px) op e pos :: rest) K :=
  ex_cons fun s S => r_aug S hx (he.run s _ S fun v s' ⟨u, hv⟩ S' => by
    subst hv
    refine ho u s' _ S' fun t s'' S'' => ?_
    obtain ⟨l', hp, k⟩ := h t
    exact ⟨B, mu, l, l', S'', hp, fun s3 S3 => ⟨B, mu, l', PH.le.refl _, S3, k⟩⟩)
section
variable {x : Str} {px pos : Pos} {e : Expr} {a b : Int} {t : Tok}
theorem ex_iadd (hx : Lk x (.int a t) l) (he : Ev X B mu l e (VI b)) (h : ∀ t, ∃ l', Put x (.int (a + b) t) l l' ∧ Ex X B mu l' rest K) : Ex X B mu l (.AugAssign (.Name x px) .Add e pos :: rest) K := ex_augI hx he (fun _ _ _ S k => r_iadd S k) h
theorem ex_isub (hx : Lk x (.int a t) l) (he : Ev X B mu l e (VI b)) (h : ∀ t, ∃ l', Put x (.int (a - b) t) l l' ∧ Ex X B mu l' rest K) : Ex X B mu l (.AugAssign (.Name x px) .Sub e pos :: rest) K := ex_augI hx he (fun _ _ _ S k => r_isub S k) h
theorem ex_ishr (hx : Lk x (.int a t) l) (he : Ev X B mu l e (VI b)) (hb : 0 ≤ b) (h : ∀ t, ∃ l', Put x (.int (a.fdiv (2 ^ b.toNat)) t) l l' ∧ Ex X B mu l' rest K) : Ex X B mu l (.AugAssign (.Name x px) .RShift e pos :: rest) K := ex_augI hx he (fun _ _ _ S k => r_ishr S hb k) h
theorem ex_ifmod (hx : Lk x (.int a t) l) (he : Ev X B mu l e (VI b)) (hb : b ≠ 0) (h : ∀ t, ∃ l', Put x (.int (a.fmod b) t) l l' ∧ Ex X B mu l' rest K) : Ex X B mu l (.AugAssign (.Name x px) .Mod e pos :: rest) K := ex_augI hx he (fun _ _ _ S k => r_ifmod S hb k) h
end
theorem ex_if {t : Expr} {body orelse : List Stmt} {pos : Pos} {b : Bool} (ht : Tst X B mu l t b) (h1 : b = true → Ex X B mu l body (Then X rest K)) (h2 : b = false → Ex X B mu l orelse (Then X rest K)) : Ex X B mu l (.If t body orelse pos :: rest) K :=
  ex_cons fun s S => wpAny_If (ht.run s _ _ rfl S fun s' S' => by
    cases b with
    | true => exact ite_tt ((h1 rfl).run s' S')
    | false => exact ite_ff ((h2 rfl).run s' S'))
theorem ex_append {x : Str} {np ap pos pos' : Pos} {e : Expr} {a : Addr} {vs : List Value} {n : Nat} {P : PH → Value → Prop} (hi : interactive X.c.env = false) (hx : Lk x (.ref a) l) (he : EvB X B ((a, listOf vs.toArray n) :: mu) l e P) (hz : vs.length ≤ 1000000)
    (h : ∀ B' v n', B.le B' → P B' v → Ex X B' ((a, listOf (vs ++ [v]).toArray n') :: mu) l rest K)
    (hline : (ap.endLine == pos.line) = true := by rfl)
    (hd : (x == ("__debug__" : Str)) = false := by decide) (hst : backTo pos (starEach [e] X.c.env) = [(false, eval e X.c.env)] := by rfl)
    (hbase : attributeBase (.Name x np) "append" X.c.env (eval (.Name x np) X.c.env) = eval (.Name x np) X.c.env := by rfl)
    (hfew : ((backTo pos (starEach [e] X.c.env)).all (fun x => !x.1) && (backToKw pos (keywordEach [] X.c.env)).all (fun x => x.1.isSome)
      && decide (([e] : List Expr).length + ([] : List Keyword).length + (if ([] : List Keyword).isEmpty then 0 else 1) < 30)) = true := by rfl)
    (hs : swapsWith (.Call (.Attribute (.Name x np) "append" ap) [e] [] pos) none pos'.line X.c.env = pure false := by rfl) :
    Ex X B ((a, listOf vs.toArray n) :: mu) l (.Expr (.Call (.Attribute (.Name x np) "append" ap) [e] [] pos) pos' :: rest) K :=
  ex_cons fun s S => r_appendS S hx (he.run s _ S fun v s' B' p S' hb => ⟨B', mu, l, vs, n, S', hz, fun n' s'' S'' => ⟨B', _, l, hb, S'', h B' v n' hb p⟩⟩) hi hline hd hst hbase hfew hs
/-- a new list that is to be changed -/
theorem ex_asgList {x : Str} {px pos pos' : Pos} (h : ∀ a, ∃ l', Put x (.ref a) l l' ∧ Ex X B ((a, listOf ([] : List Value).toArray 0) :: mu) l' rest K) : Ex X B mu l (.Assign [.Name x px] (.List [] pos') pos :: rest) K :=
  ex_cons fun s S => r_assign (List_ (args_nil (r_newListM S (by simp) fun a s' S' => let ⟨l', hp, k⟩ := h a; ⟨B, _, l, l', S', hp, fun s'' S'' => ⟨B, _, l', PH.le.refl _, S'', k⟩⟩))) rfl

-- two and three targets
theorem ex_asgT2 {x y : Str} {px py pt pos : Pos} {k : Nat} {e : Expr} {P : PH → Value → Value → Prop} (R : X.A.handled = none) (he : EvB X B mu l e (fun B' v => ∃ a u1 u2, v = .ref a ∧ B' a = some (tupOf [u1, u2]) ∧ P B' u1 u2))
    (h : ∀ B' u1 u2, B.le B' → P B' u1 u2 → ∃ l₁ l₂, Put x u1 l l₁ ∧ Put y u2 l₁ l₂ ∧ Ex X B' mu l₂ rest K)
    (hs : swapsWithSole [.Tuple [.Name x px, .Name y py] k pt] e pos.line X.c.env = pure false := by rfl) (hw : swappedStores [.Tuple [.Name x px, .Name y py] k pt] e X.c.env = pure none := by rfl) :
    Ex X B mu l (.Assign [.Tuple [.Name x px, .Name y py] k pt] e pos :: rest) K :=
  ex_cons fun s S => Assign_Tuple (he.run s _ S fun v s' B' ⟨a, u1, u2, hv, ht, p⟩ S' hb => by
    subst hv
    obtain ⟨l₁, l₂, h1, h2, k⟩ := h B' u1 u2 hb p
    exact r_asgTup2 R S' ht h1 h2 fun s'' S'' => ⟨B', mu, l₂, hb, S'', k⟩) hs hw

theorem kind_block {env : Env} (h : env.scope.kind = .function) : env.blockKind = .function := by unfold Env.blockKind; rw [h]; rfl
/-- a frame whose names are these alone -/
noncomputable def env0 (names : List Str) : Env := { scope := { kind := .function, names := names.map fun x => (x, .local), isGenerator := false, isCoroutine := false }, locals := 0, globals := 0, cells := [] }
theorem env0_block (names : List Str) : (env0 names).blockKind = .function := rfl
theorem swapped2 {env : Env} {x y : Str} {px py p : Pos} {k k' : Nat} {p' : Pos} {vs : List Expr} (hk : env.scope.kind = .function) (hx : env.kindOf x = (env0 [x, y]).kindOf x) (hy : env.kindOf y = (env0 [x, y]).kindOf y) :
    swappedStores [.Tuple [.Name x px, .Name y py] k p] (.Tuple vs k' p') env = swappedStores [.Tuple [.Name x px, .Name y py] k p] (.Tuple vs k' p') (env0 [x, y]) := by
  unfold swappedStores
  simp only [kind_block hk, env0_block, List.filterMap_cons, List.filterMap_nil, hx, hy]
  rfl
theorem swapped3 {env : Env} {x y z : Str} {px py pz p : Pos} {k k' : Nat} {p' : Pos} {vs : List Expr} (hk : env.scope.kind = .function) (hx : env.kindOf x = (env0 [x, y, z]).kindOf x) (hy : env.kindOf y = (env0 [x, y, z]).kindOf y) (hz : env.kindOf z = (env0 [x, y, z]).kindOf z) :
    swappedStores [.Tuple [.Name x px, .Name y py, .Name z pz] k p] (.Tuple vs k' p') env = swappedStores [.Tuple [.Name x px, .Name y py, .Name z pz] k p] (.Tuple vs k' p') (env0 [x, y, z]) := by
  unfold swappedStores
  simp only [kind_block hk, env0_block, List.filterMap_cons, List.filterMap_nil, hx, hy, hz]
  rfl
theorem kind0 {x : Str} : ∀ {names : List Str}, x ∈ names → (env0 names).kindOf x = some .local
  | y :: r, h => by
    show List.lookup x ((y, NameKind.local) :: r.map fun x => (x, NameKind.local)) = _
    rw [List.lookup_cons]
    by_cases hx : x = y
    · have : (x == y) = true := by simpa using hx
      rw [this]
    · have : (x == y) = false := by simpa using hx
      rw [this]
      exact kind0 (names := r) ((List.mem_cons.mp h).resolve_left hx)

theorem bindN {c : Fx} {B : PH} {mu : List (Addr × Obj)} {l l' : Locs} {s : Shared} {prog : Program} {w : World} {A : Around} {E : Value → Shared → Prop} {x : Str} {v : Value} {Q : Unit → Shared → Prop} (S : St c B mu l s) (hp : Put x v l l') (h : ∀ s', St c B mu l' s' → Q () s') :
    wpAny (model prog w) A (bindName c.env x v) Q E s := wpAny_bindName (r_store S hp h)

theorem inOrder_nil {M : Model} {A : Around} {E : Value → Shared → Prop} {Q : Unit → Shared → Prop} {s : Shared} (h : Q () s) : wpAny M A (assignInOrder [] []) Q E s := wpAny_pure h
theorem inOrder_cons {M : Model} {A : Around} {E : Value → Shared → Prop} {Q : Unit → Shared → Prop} {s : Shared} {t : Value → Sem Unit} {ts : List (Value → Sem Unit)} {x : Value} {xs : List Value} (h : wpAny M A (t x) (fun _ s' => wpAny M A (assignInOrder ts xs) Q E s') E s) :
    wpAny M A (assignInOrder (t :: ts) (x :: xs)) Q E s := by
  show wpAny M A (do holding xs (t x); assignInOrder ts xs) Q E s
  exact wpAny_bind (wpAny_holding h)
theorem r_unpack {c : Fx} {B : PH} {mu : List (Addr × Obj)} {l : Locs} {s : Shared} {prog : Program} {w : World} {A : Around} {E : Value → Shared → Prop} {a : Addr} {vs : List Value} {n : Nat} {Q : List Value → Shared → Prop} (hh : A.handled = none) (S : St c B mu l s) (ht : B a = some (tupOf vs)) (hn : vs.length = n)
    (h : ∀ s', St c B mu l s' → Q vs s') : wpAny (model prog w) A (unpackItems (.ref a) n none) Q E s := by
  subst hn
  have := wpAny_unpackItems_tuple (prog := prog) (w := w) (A := A) (E := E) (Q := Q) hh (S.isTup ht) fun h' he => h _ (S.heap' fun b o e => he b o (Nat.ne_of_lt (Heap.lt_size e)) e)
  rwa [List.size_toArray] at this
end
end
end
section
open PySem PySem.W PyProof.Rows PySem.Calls
set_option maxRecDepth 100000
section

/-- where a turn of a loop ends -/
noncomputable def Lp (its : List (Addr × Obj)) (I : PH → List (Addr × Obj) → Locs → Prop) (K : Kont) : Kont := fun f B mu l => match f with
  | .next | .cont => ∃ mu₃, mu = mu₃ ++ its ∧ I B mu₃ l
  | .brk => False
  | .ret v => K (.ret v) B mu l

section
variable {X : Cx} {B : PH} {mu its : List (Addr × Obj)} {l l' : Locs} {rest body : List Stmt} {K : Kont} {Inv : Nat → PH → List (Addr × Obj) → Locs → Prop}

/-- the turn's end, as the loops of the base want it -/
theorem turn_of {B₁ B₀ : PH} {l₁ : Locs} {I : PH → List (Addr × Obj) → Locs → Prop} {s : Shared} (hb : B₀.le B₁) (h : Ex X B₁ (mu ++ its) l₁ body (Lp its I K)) (S : St X.c B₁ (mu ++ its) l₁ s) :
    wpAny (model X.prog X.w) X.A (execs body X.c.env) (fun f s₃ => match f with
        | .next | .cont => ∃ B₃ mu₃ l₃, St X.c B₃ (mu₃ ++ its) l₃ s₃ ∧ B₁.le B₃ ∧ I B₃ mu₃ l₃
        | .brk => False
        | .ret v => ∃ B' mu' l', B₀.le B' ∧ St X.c B' mu' l' s₃ ∧ Then X rest K (.ret v) B' mu' l') NoE s := by
  refine wpAny_mono (h.run s S) (fun f s' ⟨B', mu', l', hb', S', k⟩ => ?_) fun _ _ x => x
  cases f with
  | next => obtain ⟨mu₃, rfl, i⟩ := k; exact ⟨B', mu₃, l', S', hb', i⟩
  | cont => obtain ⟨mu₃, rfl, i⟩ := k; exact ⟨B', mu₃, l', S', hb', i⟩
  | brk => exact k
  | ret v => exact ⟨B', mu', l', hb.trans hb', S', k⟩

/-- what comes behind, by a name -/
theorem ex_abs {P : Kont} (h : ∀ K : Kont, (∀ f B mu l, P f B mu l → K f B mu l) → Ex X B mu l body K) : Ex X B mu l body P := h P fun _ _ _ _ h => h
theorem ex_forR {x : Str} {px pos : Pos} {iter : Expr} {a b k : Int} {n : Nat} (R : X.A.handled = none)
    (he : ∀ s (Q : Value → Shared → Prop), St X.c B mu l s → (∀ r s' t u v, St X.c B mu l s' → IsRange s'.heap r a b k t u v → Q (.ref r) s') → wpAny (model X.prog X.w) X.A (eval iter X.c.env) Q NoE s)
    (hsmall : Builtin.Range.small a b k = true) (hn : Builtin.Range.rangeSize a b k = n) (Inv : Nat → PH → List (Addr × Obj) → Locs → Prop) (hI : Inv 0 B mu l)
    (step : ∀ i tk B₁ mu₁ l₁ its, i < n → B.le B₁ → Inv i B₁ mu₁ l₁ → ∀ J : PH → List (Addr × Obj) → Locs → Prop, (∀ B mu l, Inv (i + 1) B mu l → J B mu l) → ∃ l₂, Put x (.int (a + i * k) tk) l₁ l₂ ∧ Ex X B₁ (mu₁ ++ its) l₂ body (Lp its J K))
    (fin : ∀ B₁ mu₁ l₁, B.le B₁ → Inv n B₁ mu₁ l₁ → Ex X B₁ mu₁ l₁ rest K)
    (hs : ∀ x, foldedSetIterable iter X.c.env x = pure x := by intro _; rfl) : Ex X B mu l (.For (.Name x px) iter body [] pos :: rest) K :=
  ex_cons fun s S => wpAny_For (he s _ S fun r s' t u v S' hr =>
    loop_range R (fun _ _ => rfl) S' hr hsmall hn Inv hI (fun i tk B₁ mu₁ l₁ its s₁ hi hb hJ S₁ => by
      obtain ⟨l₂, hp, k⟩ := step i tk B₁ mu₁ l₁ its hi hb hJ _ fun _ _ _ h => h
      exact r_asgName S₁ hp fun s₂ S₂ => turn_of hb k S₂) fun B₁ mu₁ l₁ s₁ hb hJ S₁ => ⟨B₁, mu₁, l₁, hb, S₁, fin B₁ mu₁ l₁ hb hJ⟩) hs

theorem new_none {s : Shared} : s.heap.get? s.heap.objs.size = none := by
  cases e : s.heap.get? s.heap.objs.size with
  | none => rfl
  | some x => exact absurd (Heap.lt_size e) (Nat.lt_irrefl _)
theorem ev_range1 {p pos : Pos} {e : Expr} {b : Int} {G : List (Str × Value)} (hG : X.c.G = G) (hv : Gk "range" (.type "range") G) (he : Ev X B mu l e (VI b)) (hs : starEach [e] X.c.env = [(false, eval e X.c.env)] := by rfl) :
    ∀ s (Q : Value → Shared → Prop), St X.c B mu l s → (∀ r s' t u v, St X.c B mu l s' → IsRange s'.heap r 0 b 1 t u v → Q (.ref r) s') → wpAny (model X.prog X.w) X.A (eval (.Call (.Name "range" p) [e] [] pos) X.c.env) Q NoE s := by
  intro s Q S k
  refine r_callT S hG hv (args_cons (he.run s _ S fun v s' ⟨t, hv⟩ S' => args_nil ?_) hs) hs
  subst hv
  exact call_range_1 (k _ _ _ _ _ (S'.heap (s'.toks + 1 + 1) fun b o e => Heap.get?_push_of_some _ e) (IsRange.new ..))
theorem ev_range2 {p pos : Pos} {e f : Expr} {a b : Int} {G : List (Str × Value)} (hG : X.c.G = G) (hv : Gk "range" (.type "range") G) (he : Ev X B mu l e (VI a)) (hf : Ev X B mu l f (VI b)) (h1 : starEach [e, f] X.c.env = (false, eval e X.c.env) :: starEach [f] X.c.env := by rfl) (h2 : starEach [f] X.c.env = [(false, eval f X.c.env)] := by rfl) :
    ∀ s (Q : Value → Shared → Prop), St X.c B mu l s → (∀ r s' t u v, St X.c B mu l s' → IsRange s'.heap r a b 1 t u v → Q (.ref r) s') → wpAny (model X.prog X.w) X.A (eval (.Call (.Name "range" p) [e, f] [] pos) X.c.env) Q NoE s := by
  intro s Q S k
  refine r_callT S hG hv (args_cons (he.run s _ S fun v s' ⟨t, hv⟩ S' => args_cons (hf.run s' _ S' fun u s'' ⟨t', hu⟩ S'' => args_nil ?_) h2) h1) h1 (by rw [h2]; rfl)
  subst hv hu
  exact call_range_2 (k _ _ _ _ _ (S''.heap (s''.toks + 1) fun b o e => Heap.get?_push_of_some _ e) (IsRange.new ..))
theorem ev_range3 {p pos : Pos} {e f g : Expr} {a b c : Int} {G : List (Str × Value)} (hG : X.c.G = G) (hv : Gk "range" (.type "range") G) (he : Ev X B mu l e (VI a)) (hf : Ev X B mu l f (VI b)) (hg : Ev X B mu l g (VI c)) (hc : c ≠ 0) (hc2 : c.natAbs < 1000000) (h1 : starEach [e, f, g] X.c.env = (false, eval e X.c.env) :: starEach [f, g] X.c.env := by rfl) (h2 : starEach [f, g] X.c.env = (false, eval f X.c.env) :: starEach [g] X.c.env := by rfl) (h3 : starEach [g] X.c.env = [(false, eval g X.c.env)] := by rfl) :
    ∀ s (Q : Value → Shared → Prop), St X.c B mu l s → (∀ r s' t u v, St X.c B mu l s' → IsRange s'.heap r a b c t u v → Q (.ref r) s') → wpAny (model X.prog X.w) X.A (eval (.Call (.Name "range" p) [e, f, g] [] pos) X.c.env) Q NoE s := by
  intro s Q S k
  refine r_callT S hG hv (args_cons (he.run s _ S fun v s' ⟨t, hv⟩ S' => args_cons (hf.run s' _ S' fun u s'' ⟨t', hu⟩ S'' => args_cons (hg.run s'' _ S'' fun x s3 ⟨t3, hx⟩ S3 => args_nil ?_) h3) h2) h1) h1 (by rw [h2, h3]; rfl)
  subst hv hu hx
  exact call_range_3 hc (k _ _ _ _ _ (S3.heap s3.toks fun b o e => Heap.get?_push_of_some _ e) (IsRange.new ..)) (Or.inl (PyProof.noPylong_small (by omega)))

theorem range_up {a b : Int} (ha : 0 ≤ a) (hab : a ≤ b) (hb : b ≤ 1000000) : Builtin.Range.small a b 1 = true ∧ Builtin.Range.rangeSize a b 1 = ((b - a).toNat : Nat) :=
  ⟨small_one (by omega) (by omega) (by omega) (by omega), by rw [rangeSize_one]; split <;> omega⟩
theorem range_down {n : Nat} (hn : n ≤ 1000000) : Builtin.Range.small ((n : Int) - 1) (-1) (-1) = true ∧ Builtin.Range.rangeSize ((n : Int) - 1) (-1) (-1) = (n : Nat) := by
  have e : Builtin.Range.rangeSize ((n : Int) - 1) (-1) (-1) = (n : Nat) := by
    unfold Builtin.Range.rangeSize
    rw [if_neg (by decide)]
    split
    · rw [show (- -1 : Int) = 1 by decide, Int.ediv_one]; omega
    · omega
  refine ⟨?_, e⟩
  unfold Builtin.Range.small
  rw [e]
  have h1 : Builtin.Range.rangeFitsLong ((n : Int) - 1) = true := by unfold Builtin.Range.rangeFitsLong; simp only [Bool.and_eq_true, decide_eq_true_eq]; omega
  have h2 : Builtin.Range.rangeFitsLong ((n : Nat) : Int) = true := by unfold Builtin.Range.rangeFitsLong; simp only [Bool.and_eq_true, decide_eq_true_eq]; omega
  rw [h1, h2]
  have h3 : Builtin.Range.rangeFitsLong (-1) = true := by decide
  have h4 : Builtin.Range.rangeFitsLong (-1 + (-1 + 1)) = true := by decide
  rw [h3, h4]
  simp

/-- for x in range(a, b), over noughts and up -/
theorem ex_forUp {x : Str} {px pos : Pos} {iter : Expr} {a b : Nat} (R : X.A.handled = none)
    (he : ∀ s (Q : Value → Shared → Prop), St X.c B mu l s → (∀ r s' t u v, St X.c B mu l s' → IsRange s'.heap r (a : Int) (b : Int) 1 t u v → Q (.ref r) s') → wpAny (model X.prog X.w) X.A (eval iter X.c.env) Q NoE s)
    (hab : a ≤ b) (hb : b ≤ 1000000) (Inv : Nat → PH → List (Addr × Obj) → Locs → Prop) (hI : Inv a B mu l)
    (step : ∀ i tk B₁ mu₁ l₁ its, a ≤ i → i < b → B.le B₁ → Inv i B₁ mu₁ l₁ → ∀ J : PH → List (Addr × Obj) → Locs → Prop, (∀ B mu l, Inv (i + 1) B mu l → J B mu l) → ∃ l₂, Put x (.int i tk) l₁ l₂ ∧ Ex X B₁ (mu₁ ++ its) l₂ body (Lp its J K))
    (fin : ∀ B₁ mu₁ l₁, B.le B₁ → Inv b B₁ mu₁ l₁ → Ex X B₁ mu₁ l₁ rest K)
    (hs : ∀ x, foldedSetIterable iter X.c.env x = pure x := by intro _; rfl) : Ex X B mu l (.For (.Name x px) iter body [] pos :: rest) K := by
  obtain ⟨h1, h2⟩ := range_up (a := a) (b := b) (by omega) (by omega) (by omega)
  have h3 : ((b : Int) - a).toNat = b - a := by omega
  rw [h3] at h2
  refine ex_forR R he h1 h2 (fun i => Inv (a + i)) hI (fun i tk B₁ mu₁ l₁ its hi hB hJ J hj => ?_) (fun B₁ mu₁ l₁ hB hJ => fin B₁ mu₁ l₁ hB (by rwa [show a + (b - a) = b by omega] at hJ)) hs
  have := step (a + i) tk B₁ mu₁ l₁ its (by omega) (by omega) hB hJ J hj
  rw [show (a : Int) + (i : Int) * 1 = ((a + i : Nat) : Int) by push_cast; omega]
  exact this
/-- for x in range(n - 1, -1, -1) -/
theorem ex_forDown {x : Str} {px pos : Pos} {iter : Expr} {n : Nat} (R : X.A.handled = none)
    (he : ∀ s (Q : Value → Shared → Prop), St X.c B mu l s → (∀ r s' t u v, St X.c B mu l s' → IsRange s'.heap r ((n : Int) - 1) (-1) (-1) t u v → Q (.ref r) s') → wpAny (model X.prog X.w) X.A (eval iter X.c.env) Q NoE s)
    (hn : n ≤ 1000000) (Inv : Nat → PH → List (Addr × Obj) → Locs → Prop) (hI : Inv n B mu l)
    (step : ∀ i tk B₁ mu₁ l₁ its, i < n → B.le B₁ → Inv (i + 1) B₁ mu₁ l₁ → ∀ J : PH → List (Addr × Obj) → Locs → Prop, (∀ B mu l, Inv i B mu l → J B mu l) → ∃ l₂, Put x (.int i tk) l₁ l₂ ∧ Ex X B₁ (mu₁ ++ its) l₂ body (Lp its J K))
    (fin : ∀ B₁ mu₁ l₁, B.le B₁ → Inv 0 B₁ mu₁ l₁ → Ex X B₁ mu₁ l₁ rest K)
    (hs : ∀ x, foldedSetIterable iter X.c.env x = pure x := by intro _; rfl) : Ex X B mu l (.For (.Name x px) iter body [] pos :: rest) K := by
  obtain ⟨h1, h2⟩ := range_down hn
  refine ex_forR R he h1 h2 (fun i => Inv (n - i)) hI (fun i tk B₁ mu₁ l₁ its hi hB hJ J hj => ?_) (fun B₁ mu₁ l₁ hB hJ => fin B₁ mu₁ l₁ hB (by rwa [Nat.sub_self] at hJ)) hs
  have := step (n - (i + 1)) tk B₁ mu₁ l₁ its (by omega) hB (by rwa [show n - (i + 1) + 1 = n - i by omega]) J hj
  rw [show (n : Int) - 1 + (i : Int) * -1 = ((n - (i + 1) : Nat) : Int) by omega]
  exact this

theorem ex_forL {x : Str} {px pos : Pos} {iter : Expr} {P : PH → Addr → List Value → Prop} (R : X.A.handled = none)
    (he : EvB X B mu l iter (fun B' v => ∃ a vs n, v = .ref a ∧ B' a = some (listOf (List.toArray vs) n) ∧ P B' a vs)) (Inv : Addr → List Value → Nat → PH → List (Addr × Obj) → Locs → Prop)
    (h : ∀ B' a vs, B.le B' → P B' a vs → Inv a vs 0 B' mu l ∧
      (∀ i v B₁ mu₁ l₁ its, vs[i]? = some v → B'.le B₁ → Inv a vs i B₁ mu₁ l₁ → ∀ J : PH → List (Addr × Obj) → Locs → Prop, (∀ B mu l, Inv a vs (i + 1) B mu l → J B mu l) → ∃ l₂, Put x v l₁ l₂ ∧ Ex X B₁ (mu₁ ++ its) l₂ body (Lp its J K)) ∧
      (∀ B₁ mu₁ l₁, B'.le B₁ → Inv a vs vs.length B₁ mu₁ l₁ → Ex X B₁ mu₁ l₁ rest K))
    (hs : ∀ x, foldedSetIterable iter X.c.env x = pure x := by intro _; rfl) : Ex X B mu l (.For (.Name x px) iter body [] pos :: rest) K :=
  ex_cons fun s S => wpAny_For (he.run s _ S fun v s' B' ⟨a, vs, n, hv, hl, p⟩ S' hb => by
    subst hv
    obtain ⟨hI, step, fin⟩ := h B' a vs hb p
    exact loop_list R (fun _ _ => rfl) S' hl (Inv a vs) hI (fun i v B₁ mu₁ l₁ its s₁ hv hb' hJ S₁ => by
      obtain ⟨l₂, hp, k⟩ := step i v B₁ mu₁ l₁ its hv hb' hJ _ fun _ _ _ h => h
      exact r_asgName S₁ hp fun s₂ S₂ => turn_of (hb.trans hb') k S₂) fun B₁ mu₁ l₁ s₁ hb' hJ S₁ => ⟨B₁, mu₁, l₁, hb.trans hb', S₁, fin B₁ mu₁ l₁ hb' hJ⟩) hs

theorem ex_forE {x y : Str} {px py pt p ep pos : Pos} {x1 : Nat} {e : Expr} {a : Addr} {vs : List Value} {en : Nat} {G : List (Str × Value)} (R : X.A.handled = none) (hG : X.c.G = G) (hv : Gk "enumerate" (.type "enumerate") G)
    (he : Ev X B mu l e (VR a)) (hl : B a = some (listOf vs.toArray en)) (Inv : Nat → PH → List (Addr × Obj) → Locs → Prop) (hI : Inv 0 B mu l)
    (step : ∀ i v tk B₁ B₂ mu₁ l₁ its, vs[i]? = some v → B.le B₁ → B₁.le B₂ → Inv i B₁ mu₁ l₁ → ∀ J : PH → List (Addr × Obj) → Locs → Prop, (∀ B mu l, Inv (i + 1) B mu l → J B mu l) → ∃ l₂ l₃, Put x (.int i tk) l₁ l₂ ∧ Put y v l₂ l₃ ∧ Ex X B₂ (mu₁ ++ its) l₃ body (Lp its J K))
    (fin : ∀ B₁ mu₁ l₁, B.le B₁ → Inv vs.length B₁ mu₁ l₁ → Ex X B₁ mu₁ l₁ rest K) (hst : starEach [e] X.c.env = [(false, eval e X.c.env)] := by rfl) :
    Ex X B mu l (.For (.Tuple [.Name x px, .Name y py] x1 pt) (.Call (.Name "enumerate" p) [e] [] ep) body [] pos :: rest) K :=
  ex_cons fun s S => wpAny_For (r_callT S hG hv (args_cons (he.run s _ S fun v s' hv S' => args_nil (by
    subst hv
    exact loop_enum R S' hl Inv hI (fun i v tk p B₁ B₂ mu₁ l₁ its s₁ hv hb hb' hJ hp S₁ => by
      obtain ⟨l₂, l₃, h1, h2, k⟩ := step i v tk B₁ B₂ mu₁ l₁ its hv hb hb' hJ _ fun _ _ _ h => h
      exact r_asgTup2 R S₁ hp h1 h2 fun s₂ S₂ => turn_of (hb.trans hb') k S₂) fun B₁ mu₁ l₁ s₁ hb hJ S₁ => ⟨B₁, mu₁, l₁, hb, S₁, fin B₁ mu₁ l₁ hb hJ⟩)) hst) hst) fun _ => rfl

/-- where a turn of a while ends -/
noncomputable def Lw (J : PH → List (Addr × Obj) → Locs → Prop) (K : Kont) : Kont := fun f B' mu' l' => match f with
  | .next | .cont => J B' mu' l'
  | .brk => False
  | .ret v => K (.ret v) B' mu' l'
theorem ex_while {t : Expr} {pos : Pos} (Inv : Nat → PH → List (Addr × Obj) → Locs → Prop) (n : Nat) (hI : Inv n B mu l)
    (step : ∀ n B₁ mu₁ l₁, B.le B₁ → Inv n B₁ mu₁ l₁ → ∃ b, Tst X B₁ mu₁ l₁ t b ∧ (b = true → ∀ J : PH → List (Addr × Obj) → Locs → Prop, (∀ m B mu l, m < n → Inv m B mu l → J B mu l) → Ex X B₁ mu₁ l₁ body (Lw J K)) ∧ (b = false → Ex X B₁ mu₁ l₁ rest K)) :
    Ex X B mu l (.While t body [] pos :: rest) K := by
  refine ex_cons fun s S => ?_
  refine r_while (Q := fun f s' => ∃ B' mu' l', B.le B' ∧ St X.c B' mu' l' s' ∧ Then X rest K f B' mu' l') S Inv (fun B₁ mu₁ l₁ => Ex X B₁ mu₁ l₁ rest K) n hI (fun n B₁ mu₁ l₁ s₁ hb hJ S₁ => ?_) fun B₁ mu₁ l₁ s₁ hb k S₁ => ⟨B₁, mu₁, l₁, hb, S₁, k⟩
  obtain ⟨b, ht, h1, h2⟩ := step n B₁ mu₁ l₁ hb hJ
  refine ht.run s₁ _ _ rfl S₁ fun s₂ S₂ => ?_
  cases b with
  | false => exact ite_ff ⟨B₁, mu₁, l₁, S₂, PH.le.refl _, h2 rfl⟩
  | true =>
    refine ite_tt (wpAny_mono ((h1 rfl (fun B' mu' l' => ∃ m, m < n ∧ Inv m B' mu' l') fun m _ _ _ hm hi => ⟨m, hm, hi⟩).run s₂ S₂) (fun f s' ⟨B', mu', l', hb', S', k⟩ => ?_) fun _ _ x => x)
    cases f with
    | next => obtain ⟨m, hm, i⟩ := k; exact ⟨m, B', mu', l', hm, S', hb', i⟩
    | cont => obtain ⟨m, hm, i⟩ := k; exact ⟨m, B', mu', l', hm, S', hb', i⟩
    | brk => exact k
    | ret v => exact ⟨B', mu', l', hb.trans hb', S', k⟩
end
end
end
section
open PySem PySem.W PyProof.Rows PySem.Calls
set_option maxRecDepth 100000
section
noncomputable abbrev prg : Program := Challenge.rw_xm0422_01.row.prog
noncomputable abbrev pw : Program := Challenge.pw_xm0422_01
noncomputable def ourBuiltins : List Str := ["len", "range", "enumerate", "abs", "int", "sum", "max", "sorted", "list", "repr", "set"]

structure Wd (mg : Str → Option Value) (W : Heap) : Prop where
  g : W.Ns mainGlobals mg
  b : ∃ mb, W.Ns builtinsNs mb ∧ ∀ x : Str, x ≠ "__name__" → mb x = bootBuiltins x
  lim : W.NoLimit
  fn : ∀ d ∈ recsOf pw, ∃ a o pm code doc, mg d.name = some (.ref a) ∧ W.get? a = some o ∧ o.data = .func (docDef d.name d.params d.body d.scope pm code doc) ∧ W.CodeRec code d.name
  free : ∀ x ∈ ourBuiltins, mg x = none
noncomputable def adr (mg : Str → Option Value) (x : Str) : Addr := match mg x with
  | some (.ref a) => a
  | _ => 0

section
variable {mg : Str → Option Value} {W : Heap}
theorem isDef {name : Str} {params : Arguments} {body : List Stmt} {scope : Scope} {r : Option Expr} {ts : Option Scope} {bd : Str} {pos : Pos} (X : Wd mg W) (j k : Nat)
    (_e1 : pw.main.body[j]? = some (.FunctionDef name params body [] r [] scope ts bd pos)) (e2 : (recsOf pw)[k]? = some ⟨name, params, body, scope, pos⟩) : IsDef W (adr mg name) name params body scope := by
  obtain ⟨a, o, pm, cd, doc, h1, h2, h3, h4⟩ := X.fn _ (List.mem_of_getElem? e2)
  have : adr mg name = a := by unfold adr; rw [h1]
  rw [this]
  exact ⟨X.lim, o, pm, cd, doc, h2, h3, h4⟩
theorem globF (X : Wd mg W) (k : Nat) (x : Str) (e : ((recsOf pw)[k]?.map (·.name)) = some x) : GlobAt W x (.ref (adr mg x)) ∧ IsFn W (adr mg x) := by
  cases h : (recsOf pw)[k]? with
  | none => rw [h] at e; cases e
  | some d =>
    rw [h] at e
    have e' : d.name = x := Option.some.inj e
    subst e'
    obtain ⟨a, o, pm, cd, doc, h1, h2, h3, h4⟩ := X.fn _ (List.mem_of_getElem? h)
    have : adr mg d.name = a := by unfold adr; rw [h1]
    rw [this]
    exact ⟨.inl ⟨mg, X.g, h1⟩, o, _, h2, h3⟩
theorem globB {x : Str} {v : Value} (X : Wd mg W) (h : x ∈ ourBuiltins) (hv : bootBuiltins x = some v) (hn : x ≠ "__name__") : GlobAt W x v :=
  let ⟨mb, h1, h2⟩ := X.b
  .inr ⟨mg, mb, X.g, X.free x h, h1, (h2 x hn).trans hv⟩
theorem g_len (X : Wd mg W) : GlobAt W "len" (.builtin "len") := globB X (by decide +kernel) (by decide +kernel) (by decide +kernel)
theorem g_range (X : Wd mg W) : GlobAt W "range" (.type "range") := globB X (by decide +kernel) (by decide +kernel) (by decide +kernel)
theorem g_enumerate (X : Wd mg W) : GlobAt W "enumerate" (.type "enumerate") := globB X (by decide +kernel) (by decide +kernel) (by decide +kernel)
theorem g_abs (X : Wd mg W) : GlobAt W "abs" (.builtin "abs") := globB X (by decide +kernel) (by decide +kernel) (by decide +kernel)
theorem f_normal (X : Wd mg W) : GlobAt W "normal" (.ref (adr mg "normal")) ∧ IsFn W (adr mg "normal") := globF X 0 "normal" (by kernel_rfl)
theorem f_compare (X : Wd mg W) : GlobAt W "compare" (.ref (adr mg "compare")) ∧ IsFn W (adr mg "compare") := globF X 1 "compare" (by kernel_rfl)
theorem f_add (X : Wd mg W) : GlobAt W "add" (.ref (adr mg "add")) ∧ IsFn W (adr mg "add") := globF X 2 "add" (by kernel_rfl)
theorem f_sub (X : Wd mg W) : GlobAt W "sub" (.ref (adr mg "sub")) ∧ IsFn W (adr mg "sub") := globF X 3 "sub" (by kernel_rfl)
theorem f_add_limb (X : Wd mg W) : GlobAt W "add_limb" (.ref (adr mg "add_limb")) ∧ IsFn W (adr mg "add_limb") := globF X 4 "add_limb" (by kernel_rfl)
theorem f_divrem_limb (X : Wd mg W) : GlobAt W "divrem_limb" (.ref (adr mg "divrem_limb")) ∧ IsFn W (adr mg "divrem_limb") := globF X 5 "divrem_limb" (by kernel_rfl)
theorem f_signed (X : Wd mg W) : GlobAt W "signed" (.ref (adr mg "signed")) ∧ IsFn W (adr mg "signed") := globF X 9 "signed" (by kernel_rfl)
theorem f_s_neg (X : Wd mg W) : GlobAt W "s_neg" (.ref (adr mg "s_neg")) ∧ IsFn W (adr mg "s_neg") := globF X 10 "s_neg" (by kernel_rfl)
theorem f_s_add (X : Wd mg W) : GlobAt W "s_add" (.ref (adr mg "s_add")) ∧ IsFn W (adr mg "s_add") := globF X 11 "s_add" (by kernel_rfl)
theorem f_s_sub (X : Wd mg W) : GlobAt W "s_sub" (.ref (adr mg "s_sub")) ∧ IsFn W (adr mg "s_sub") := globF X 12 "s_sub" (by kernel_rfl)
theorem f_s_mul (X : Wd mg W) : GlobAt W "s_mul" (.ref (adr mg "s_mul")) ∧ IsFn W (adr mg "s_mul") := globF X 13 "s_mul" (by kernel_rfl)
theorem f_tdiv (X : Wd mg W) : GlobAt W "tdiv" (.ref (adr mg "tdiv")) ∧ IsFn W (adr mg "tdiv") := globF X 14 "tdiv" (by kernel_rfl)
theorem f_fdiv (X : Wd mg W) : GlobAt W "fdiv" (.ref (adr mg "fdiv")) ∧ IsFn W (adr mg "fdiv") := globF X 15 "fdiv" (by kernel_rfl)
theorem f_mul_school (X : Wd mg W) : GlobAt W "mul_school" (.ref (adr mg "mul_school")) ∧ IsFn W (adr mg "mul_school") := globF X 16 "mul_school" (by kernel_rfl)
theorem f_divrem_small (X : Wd mg W) : GlobAt W "divrem_small" (.ref (adr mg "divrem_small")) ∧ IsFn W (adr mg "divrem_small") := globF X 17 "divrem_small" (by kernel_rfl)
theorem f_divrem_school (X : Wd mg W) : GlobAt W "divrem_school" (.ref (adr mg "divrem_school")) ∧ IsFn W (adr mg "divrem_school") := globF X 22 "divrem_school" (by kernel_rfl)
theorem f_mirrored (X : Wd mg W) : GlobAt W "_law_mirrored" (.ref (adr mg "_law_mirrored")) ∧ IsFn W (adr mg "_law_mirrored") := globF X 23 "_law_mirrored" (by kernel_rfl)
theorem f_limbs (X : Wd mg W) : GlobAt W "_law_limbs" (.ref (adr mg "_law_limbs")) ∧ IsFn W (adr mg "_law_limbs") := globF X 24 "_law_limbs" (by kernel_rfl)
theorem f_lsigned (X : Wd mg W) : GlobAt W "_law_signed" (.ref (adr mg "_law_signed")) ∧ IsFn W (adr mg "_law_signed") := globF X 25 "_law_signed" (by kernel_rfl)
theorem f_digits (X : Wd mg W) : GlobAt W "_law_digits" (.ref (adr mg "_law_digits")) ∧ IsFn W (adr mg "_law_digits") := globF X 26 "_law_digits" (by kernel_rfl)
theorem f_read (X : Wd mg W) : GlobAt W "_law_read" (.ref (adr mg "_law_read")) ∧ IsFn W (adr mg "_law_read") := globF X 27 "_law_read" (by kernel_rfl)
theorem f_more (X : Wd mg W) : GlobAt W "_law_more" (.ref (adr mg "_law_more")) ∧ IsFn W (adr mg "_law_more") := globF X 28 "_law_more" (by kernel_rfl)
theorem f_pdigits (X : Wd mg W) : GlobAt W "_law_pair_digits" (.ref (adr mg "_law_pair_digits")) ∧ IsFn W (adr mg "_law_pair_digits") := globF X 29 "_law_pair_digits" (by kernel_rfl)
theorem f_pread (X : Wd mg W) : GlobAt W "_law_pair_read" (.ref (adr mg "_law_pair_read")) ∧ IsFn W (adr mg "_law_pair_read") := globF X 30 "_law_pair_read" (by kernel_rfl)
theorem f_rows (X : Wd mg W) : GlobAt W "_law_rows" (.ref (adr mg "_law_rows")) ∧ IsFn W (adr mg "_law_rows") := globF X 31 "_law_rows" (by kernel_rfl)

theorem gnil : ∀ p ∈ ([] : List (Str × Value)), GlobAt W p.1 p.2 := fun _ h => nomatch h
theorem gcons {x : Str} {v : Value} {r : List (Str × Value)} (h : GlobAt W x v) (hr : ∀ p ∈ r, GlobAt W p.1 p.2) : ∀ p ∈ ((x, v) :: r), GlobAt W p.1 p.2 := fun p hp => by
  rcases List.mem_cons.mp hp with rfl | hp
  · exact h
  · exact hr p hp
end

section
variable {X : Cx} {B : PH} {mu its : List (Addr × Obj)} {l l' : Locs}
/-- a[lo:hi] of a frozen list -/
theorem evb_slice {e : Expr} {lower upper : Option Expr} {p pos : Pos} {a : Addr} {vs : List Value} {n : Nat} {lo hi : Option Int} (hl : B a = some (listOf vs.toArray n)) (hz : vs.length ≤ 1000000) (he : Ev X B mu l e (VR a))
    (h1 : ∀ s (Q : Value → Shared → Prop), St X.c B mu l s → (∀ v s', IsPart v lo → St X.c B mu l s' → Q v s') → wpAny (model X.prog X.w) X.A (evalPart lower X.c.env) Q NoE s)
    (h2 : ∀ s (Q : Value → Shared → Prop), St X.c B mu l s → (∀ v s', IsPart v hi → St X.c B mu l s' → Q v s') → wpAny (model X.prog X.w) X.A (evalPart upper X.c.env) Q NoE s)
    (ht : ∀ o r, letTemporaryGo e o r = pure () := by intro _ _; rfl) :
    EvB X B mu l (.Subscript e (.Slice lower upper none p) pos) (fun B' v => ∃ r, v = .ref r ∧ B' r = some (listOf (slicePick vs.toArray lo hi none).toList.toArray 0)) := by
  refine .mk fun s Q S k => ?_
  refine wpAny_Subscript_list_slice (he.run s _ S fun v s1 hv S1 => h1 s1 _ S1 fun v1 s2 p1 S2 => h2 s2 _ S2 fun v2 s3 p2 S3 => ?_) ht
  subst hv
  refine ⟨a, vs.toArray, lo, hi, rfl, S3.isList hl, by rw [List.size_toArray, sizeLine_eq]; omega, p1, p2, ?_⟩
  have S4 := S3.heap' (h := s3.heap.push { cls := .type "slice", data := .fields #[v1, v2, .none] }) fun b o e => Heap.get?_push_of_some _ e
  obtain ⟨S5, hle, _⟩ := S4.alloc (o := listOf (slicePick vs.toArray lo hi none).toList.toArray 0) rfl
  have e : (s3.heap.push { cls := .type "slice", data := .fields #[v1, v2, .none] }).objs.size = s3.heap.objs.size + 1 := Heap.size_push ..
  have := k _ _ _ ⟨_, rfl, PH.add_self _ _ _⟩ S5 hle
  rw [Array.toArray_toList] at this
  rw [← e]
  exact this
theorem part_none : ∀ s (Q : Value → Shared → Prop), St X.c B mu l s → (∀ v s', IsPart v none → St X.c B mu l s' → Q v s') → wpAny (model X.prog X.w) X.A (evalPart none X.c.env) Q NoE s := fun s Q S k => by
  rw [evalPart_none]; exact wpAny_pure (k _ s .none S)
theorem part_int {e : Expr} {i : Int} (he : Ev X B mu l e (VI i)) : ∀ s (Q : Value → Shared → Prop), St X.c B mu l s → (∀ v s', IsPart v (some i) → St X.c B mu l s' → Q v s') → wpAny (model X.prog X.w) X.A (evalPart (some e) X.c.env) Q NoE s := fun s Q S k => by
  rw [evalPart_some]
  exact he.run s _ S fun v s' ⟨t, hv⟩ S' => by subst hv; exact k _ s' (.int i t) S'
end
end
end
section
open PySem PySem.W PyProof.Rows PySem.Calls
set_option maxRecDepth 100000
section
section
variable {X : Cx} {B : PH} {mu its : List (Addr × Obj)} {l l' : Locs} {rest : List Stmt} {K : Kont}

/-- from here on the list at the head is as it is -/
theorem ex_freeze {a : Addr} {o : Obj} {body : List Stmt} (h : B.le (B.add a o) → Ex X (B.add a o) mu l body K) : Ex X B ((a, o) :: mu) l body K :=
  .mk fun s S => let ⟨S', hb⟩ := S.freeze; ex_weak hb (h hb) s S'
/-- a call whose new things are of no weight -/
theorem EvB.down {e : Expr} {P : PH → Value → Prop} {P' : Value → Prop} (h : EvB X B mu l e P) (hp : ∀ B' v, B.le B' → P B' v → P' v) : Ev X B mu l e P' :=
  .mk fun s _ S k => h.run s _ S fun v s' B' p S' hb => k v s' (hp B' v hb p) (S'.less hb S.ext)

theorem ev_nameB {x : Str} {pos : Pos} {b : Bool} (hv : Lk x (.bool b) l) (hd : (x == ("__debug__" : Str)) = false := by decide) : Ev X B mu l (.Name x pos) (VB b) := ev_name hv rfl hd
/-- an expression that makes a list which is to be changed -/
structure EvM (X : Cx) (B : PH) (mu : List (Addr × Obj)) (l : Locs) (e : Expr) (P : List Value → Prop) : Prop where
  run : ∀ s (Q : Value → Shared → Prop), St X.c B mu l s → (∀ a vs n s', P vs → St X.c B ((a, listOf (List.toArray vs) n) :: mu) l s' → Q (.ref a) s') → wpAny (model X.prog X.w) X.A (eval e X.c.env) Q NoE s
theorem evm_nil {pos : Pos} : EvM X B mu l (.List [] pos) (fun vs => vs = []) :=
  .mk fun s _ S k => List_ (args_nil (r_newListM S (by simp) fun a s' S' => k a [] 0 s' rfl S'))
theorem foldl_app {α : Type} : ∀ (n : Nat) (acc v : List α), (List.replicate n v.toArray).foldl (fun x y => x ++ y) acc.toArray = (acc ++ (List.replicate n v).flatten).toArray
  | 0, acc, v => by simp
  | n + 1, acc, v => by
    rw [List.replicate_succ, List.foldl_cons]
    have : acc.toArray ++ v.toArray = (acc ++ v).toArray := by simp
    rw [this, foldl_app n]
    simp [List.replicate_succ, List.append_assoc]
/-- [0] * e -/
theorem flat_one {α : Type} : ∀ (n : Nat) (v : α), (List.replicate n [v]).flatten = List.replicate n v
  | 0, _ => rfl
  | n + 1, v => by simp only [List.replicate_succ, List.flatten_cons, List.cons_append, List.nil_append, flat_one n v]
theorem mul_zeros {prog : Program} {w : World} {A : Around} {E : Value → Shared → Prop} {c : Fx} {s : Shared} {a : Addr} {x : Int} {t u : Tok} {n : Nat} {Q : Value → Shared → Prop} (S : St c B mu l s) (hl : s.heap.get? a = some (listOf (List.toArray [Value.int 0 t]) 0)) (hx : x = n) (hn : n ≤ 100000)
    (h : ∀ b s', St c B ((b, listOf (List.replicate n (Value.int 0 t)).toArray 0) :: mu) l s' → Q (.ref b) s') : wpAny (model prog w) A (binaryOp .Mult (.ref a) (.int x u)) Q E s := by
  have hT : s.TypeIs (.ref a) "list" := ⟨_, hl, rfl⟩
  have ex : x.toNat = n := by rw [hx]; exact Int.toNat_natCast n
  have h1 : Builtin.List.listFitsIndex x = true := fitsIndex_of (by omega) (by omega)
  have e0 : (List.toArray [Value.int 0 t]).size * x.toNat = n := by rw [List.size_toArray, ex]; exact Nat.one_mul n
  have h2 : Builtin.List.listTooLong n = false := by unfold Builtin.List.listTooLong; rw [sizeLine_eq]; exact decide_eq_false (by omega)
  have hmul := AutoListH.list___mul___list_int_3 a (List.toArray [Value.int 0 t]) 0 x u (by rw [h1]; exact Bool.false_ne_true) (by rw [e0]; omega) (by rw [e0, h2]; exact Bool.false_ne_true)
  refine wpAny_binaryOp_repeat_ref (T := "list") (U := "int") (by decide) hT (fun s' => typeIs_int s' _ u) noFill_list_mul PySem.F.fills_int_mul PySem.F.slot_int_rmul repeat_list PySem.F.slot_int_index.lookup
    (call_meets PySem.F.slot_int_rmul (typeIs_int s _ u) PySem.F.entry_int_rmul (PySem.F.args_int_rmul_2 _ _) (int___rmul___int_list _ u a _ 0)
      ⟨hl, rfl, hT, call_meets PySem.F.slot_list_mul hT PySem.F.entry_list_mul (PySem.F.args_list_mul_2 _ _) hmul ⟨hl, ?_⟩⟩)
  have S4 := S.allocM (o := listOf (List.replicate n (Value.int 0 t)).toArray 0) rfl
  have e1 : (List.replicate n (List.toArray [Value.int 0 t])).foldl (fun x y => x ++ y) #[] = (List.replicate n (Value.int 0 t)).toArray := by
    refine (foldl_app n [] [Value.int 0 t]).trans ?_
    congr 1
    rw [List.nil_append]
    exact flat_one n _
  have := h s.heap.objs.size _ S4
  rw [ex, if_neg (by simp), e1]
  exact this
theorem zeros_are (t : Tok) : ∀ n : Nat, IntsAre (List.replicate n (Value.int 0 t)) (znat (List.replicate n 0))
  | 0 => .nil
  | n + 1 => .cons 0 t (zeros_are t n)
theorem evm_rep {e : Expr} {k : Nat} {p0 p1 pos : Pos} {n : Nat} (he : ∀ B', B.le B' → Ev X B' mu l e (VI n)) (hn : n ≤ 100000) (h1 : starEach [.Constant (.int 0) k p0] X.c.env = [(false, eval (.Constant (.int 0) k p0) X.c.env)] := by rfl) :
    EvM X B mu l (.BinOp (.List [.Constant (.int 0) k p0] p1) .Mult e pos) (fun vs => IntsAre vs (znat (List.replicate n 0))) := by
  refine .mk fun s Q S k => ?_
  refine wpAny_BinOp (List_ (args_cons (r_int S fun t s1 S1 => args_nil (r_newList S1 (by simp) fun a s2 hn2 S2 hb => (he _ hb).run s2 _ S2 fun v s3 ⟨u, hv⟩ S3 => ?_)) h1))
  subst hv
  exact mul_zeros (S3.less hb S1.ext) (S3.keep _ _ (PH.add_self B a (listOf (List.toArray [Value.int 0 t]) 0))) rfl hn fun b s' S' => k b _ 0 s' (zeros_are t n) S'

/-- a row of arguments of which some may be new lists -/
structure EvsM (X : Cx) (B : PH) (mu : List (Addr × Obj)) (l : Locs) (es : List Expr) (R : PH → List (Addr × Obj) → List Value → Prop) : Prop where
  run : ∀ s pos (Q : List Value → Shared → Prop), St X.c B mu l s → (∀ vs s' B' mu', R B' mu' vs → St X.c B' mu' l s' → B.le B' → Q vs s') → wpAny (model X.prog X.w) X.A (spliced (backTo pos (starEach es X.c.env))) Q NoE s
theorem Evs.m {es : List Expr} {R : PH → List Value → Prop} (h : Evs X B mu l es R) : EvsM X B mu l es (fun B' mu' vs => mu' = mu ∧ R B' vs) := .mk fun s pos _ S k => h.run s pos _ S fun vs s' B' p S' hb => k vs s' B' mu ⟨rfl, p⟩ S' hb
theorem evsm_new {e : Expr} {r : List Expr} {P : List Value → Prop} {R : PH → List (Addr × Obj) → List Value → Prop} (he : EvM X B mu l e P) (hr : ∀ a vs n, P vs → EvsM X B ((a, listOf (List.toArray vs) n) :: mu) l r (fun B' mu' us => R B' mu' (.ref a :: us)))
    (hs : starEach (e :: r) X.c.env = (false, eval e X.c.env) :: starEach r X.c.env := by rfl) : EvsM X B mu l (e :: r) R :=
  .mk fun s pos _ S k => args_cons (he.run s _ S fun a vs n s' p S' => (hr a vs n p).run s' pos _ S' fun us s'' B' mu' p' S'' hb => k _ s'' B' mu' p' S'' hb) hs
theorem evsm_cons {e : Expr} {r : List Expr} {P : PH → Value → Prop} {R : PH → List (Addr × Obj) → List Value → Prop} (he : EvB X B mu l e P) (hr : ∀ B' v, B.le B' → P B' v → EvsM X B' mu l r (fun B' mu' us => R B' mu' (v :: us)))
    (hs : starEach (e :: r) X.c.env = (false, eval e X.c.env) :: starEach r X.c.env := by rfl) : EvsM X B mu l (e :: r) R :=
  .mk fun s pos _ S k => args_cons (he.run s _ S fun v s' B' p S' hb => (hr B' v hb p).run s' pos _ S' fun us s'' B'' mu' p' S'' hb' => k _ s'' B'' mu' p' S'' (hb.trans hb')) hs
theorem evsm_nil {R : PH → List (Addr × Obj) → List Value → Prop} (h : R B mu []) : EvsM X B mu l [] R := .mk fun s _ _ S k => args_nil (k [] s B mu h S (PH.le.refl _))

/-- x, y = (e, f), of which some may be new lists -/
theorem ex_swap2m {x y : Str} {px py pt p' pos : Pos} {k k' : Nat} {e f : Expr} {P : PH → List (Addr × Obj) → List Value → Prop} (R : X.A.handled = none) (he : EvsM X B mu l [e, f] P)
    (h : ∀ B' mu' vs, B.le B' → P B' mu' vs → ∃ u1 u2 l₁ l₂, vs = [u1, u2] ∧ Put y u2 l l₁ ∧ Put x u1 l₁ l₂ ∧ Ex X B' mu' l₂ rest K)
    (hx : x ∈ l.map (·.1) := by simp) (hy : y ∈ l.map (·.1) := by simp)
    (hw : swappedStores [.Tuple [.Name x px, .Name y py] k pt] (.Tuple [e, f] k' p') (env0 [x, y]) = pure (some [x, y]) := by rfl)
    (hs : swapsWithSole [.Tuple [.Name x px, .Name y py] k pt] (.Tuple [e, f] k' p') pos.line X.c.env = pure false := by rfl) :
    Ex X B mu l (.Assign [.Tuple [.Name x px, .Name y py] k pt] (.Tuple [e, f] k' p') pos :: rest) K := by
  refine ex_cons fun s S => ?_
  have hw' := (swapped2 (px := px) (py := py) (p := pt) (k := k) (k' := k') (p' := p') (vs := [e, f]) S.ok.kind ((S.kinds x hx).trans (kind0 (by simp)).symm) ((S.kinds y hy).trans (kind0 (by simp)).symm)).trans hw
  refine Assign_Tuple_swapped (Tuple_ (he.run s _ _ S fun vs s' B' mu' p S' hb => ?_)) hs hw'
  obtain ⟨u1, u2, l₁, l₂, rfl, h1, h2, k⟩ := h B' mu' vs hb p
  refine r_newTuple S' (by simp) fun a s'' hn S'' hle => ?_
  refine r_unpack R S'' (PH.add_self _ _ _) rfl fun s3 S3 => ?_
  simp only [List.reverse_cons, List.reverse_nil, List.nil_append, List.cons_append, List.map_cons, List.map_nil]
  refine inOrder_cons (bindN S3 h1 fun s4 S4 => inOrder_cons (bindN S4 h2 fun s5 S5 => inOrder_nil ?_))
  exact ⟨B', mu', l₂, hb, S5.less hle S'.ext, k⟩
theorem ex_swap3m {x y z : Str} {px py pz pt p' pos : Pos} {k k' : Nat} {e f g : Expr} {P : PH → List (Addr × Obj) → List Value → Prop} (R : X.A.handled = none) (he : EvsM X B mu l [e, f, g] P)
    (h : ∀ B' mu' vs, B.le B' → P B' mu' vs → ∃ u1 u2 u3 l₁ l₂ l₃, vs = [u1, u2, u3] ∧ Put z u3 l l₁ ∧ Put y u2 l₁ l₂ ∧ Put x u1 l₂ l₃ ∧ Ex X B' mu' l₃ rest K)
    (hx : x ∈ l.map (·.1) := by simp) (hy : y ∈ l.map (·.1) := by simp) (hz : z ∈ l.map (·.1) := by simp)
    (hw : swappedStores [.Tuple [.Name x px, .Name y py, .Name z pz] k pt] (.Tuple [e, f, g] k' p') (env0 [x, y, z]) = pure (some [x, y, z]) := by rfl)
    (hs : swapsWithSole [.Tuple [.Name x px, .Name y py, .Name z pz] k pt] (.Tuple [e, f, g] k' p') pos.line X.c.env = pure false := by rfl) :
    Ex X B mu l (.Assign [.Tuple [.Name x px, .Name y py, .Name z pz] k pt] (.Tuple [e, f, g] k' p') pos :: rest) K := by
  refine ex_cons fun s S => ?_
  have hw' := (swapped3 (px := px) (py := py) (pz := pz) (p := pt) (k := k) (k' := k') (p' := p') (vs := [e, f, g]) S.ok.kind ((S.kinds x hx).trans (kind0 (by simp)).symm) ((S.kinds y hy).trans (kind0 (by simp)).symm) ((S.kinds z hz).trans (kind0 (by simp)).symm)).trans hw
  refine Assign_Tuple_swapped (Tuple_ (he.run s _ _ S fun vs s' B' mu' p S' hb => ?_)) hs hw'
  obtain ⟨u1, u2, u3, l₁, l₂, l₃, rfl, h1, h2, h3, k⟩ := h B' mu' vs hb p
  refine r_newTuple S' (by simp) fun a s'' hn S'' hle => ?_
  refine r_unpack R S'' (PH.add_self _ _ _) rfl fun s3 S3 => ?_
  simp only [List.reverse_cons, List.reverse_nil, List.nil_append, List.cons_append, List.map_cons, List.map_nil]
  refine inOrder_cons (bindN S3 h1 fun s4 S4 => inOrder_cons (bindN S4 h2 fun s5 S5 => inOrder_cons (bindN S5 h3 fun s6 S6 => inOrder_nil ?_)))
  exact ⟨B', mu', l₃, hb, S6.less hle S'.ext, k⟩

/-- x, y = (new list, int) -/
theorem ex_new2 {x y : Str} {px py pt p' pos : Pos} {k k' : Nat} {e f : Expr} {P : List Value → Prop} {i : Int} (R : X.A.handled = none) (he : EvM X B mu l e P) (hf : ∀ p, Ev X B (p :: mu) l f (VI i))
    (h : ∀ a vs n t, P vs → ∃ l₁ l₂, Put y (.int i t) l l₁ ∧ Put x (.ref a) l₁ l₂ ∧ Ex X B ((a, listOf (List.toArray vs) n) :: mu) l₂ rest K)
    (hx : x ∈ l.map (·.1) := by simp) (hy : y ∈ l.map (·.1) := by simp)
    (hw : swappedStores [.Tuple [.Name x px, .Name y py] k pt] (.Tuple [e, f] k' p') (env0 [x, y]) = pure (some [x, y]) := by rfl)
    (hs : swapsWithSole [.Tuple [.Name x px, .Name y py] k pt] (.Tuple [e, f] k' p') pos.line X.c.env = pure false := by rfl)
    (h1 : starEach [e, f] X.c.env = (false, eval e X.c.env) :: starEach [f] X.c.env := by rfl) (h2 : starEach [f] X.c.env = (false, eval f X.c.env) :: starEach [] X.c.env := by rfl) :
    Ex X B mu l (.Assign [.Tuple [.Name x px, .Name y py] k pt] (.Tuple [e, f] k' p') pos :: rest) K :=
  ex_swap2m (P := fun B' mu' us => B' = B ∧ ∃ a vs n t, P vs ∧ mu' = (a, listOf (List.toArray vs) n) :: mu ∧ us = [.ref a, .int i t]) R
    (evsm_new he (fun a vs n p => evsm_cons (hf _).up (fun B' v _ hv => evsm_nil ⟨hv.1, hv.2.elim fun t hv => ⟨a, vs, n, t, p, rfl, by rw [hv]⟩⟩) h2) h1)
    (fun B' mu' us _ hh => by obtain ⟨hB, a, vs, n, t, p, hm, hu⟩ := hh; subst hB hm hu; obtain ⟨l₁, l₂, g1, g2, g3⟩ := h a vs n t p; exact ⟨_, _, _, _, rfl, g1, g2, g3⟩) hx hy hw hs
theorem ex_new3 {x y z : Str} {px py pz pt p' pos : Pos} {k k' : Nat} {e f g : Expr} {P : List Value → Prop} {i j : Int} (R : X.A.handled = none) (he : EvM X B mu l e P) (hf : ∀ p, Ev X B (p :: mu) l f (VI i)) (hg : ∀ p, Ev X B (p :: mu) l g (VI j))
    (h : ∀ a vs n t u, P vs → ∃ l₁ l₂ l₃, Put z (.int j u) l l₁ ∧ Put y (.int i t) l₁ l₂ ∧ Put x (.ref a) l₂ l₃ ∧ Ex X B ((a, listOf (List.toArray vs) n) :: mu) l₃ rest K)
    (hx : x ∈ l.map (·.1) := by simp) (hy : y ∈ l.map (·.1) := by simp) (hz : z ∈ l.map (·.1) := by simp)
    (hw : swappedStores [.Tuple [.Name x px, .Name y py, .Name z pz] k pt] (.Tuple [e, f, g] k' p') (env0 [x, y, z]) = pure (some [x, y, z]) := by rfl)
    (hs : swapsWithSole [.Tuple [.Name x px, .Name y py, .Name z pz] k pt] (.Tuple [e, f, g] k' p') pos.line X.c.env = pure false := by rfl)
    (h1 : starEach [e, f, g] X.c.env = (false, eval e X.c.env) :: starEach [f, g] X.c.env := by rfl) (h2 : starEach [f, g] X.c.env = (false, eval f X.c.env) :: starEach [g] X.c.env := by rfl) (h3 : starEach [g] X.c.env = (false, eval g X.c.env) :: starEach [] X.c.env := by rfl) :
    Ex X B mu l (.Assign [.Tuple [.Name x px, .Name y py, .Name z pz] k pt] (.Tuple [e, f, g] k' p') pos :: rest) K :=
  ex_swap3m (P := fun B' mu' us => B' = B ∧ ∃ a vs n t u, P vs ∧ mu' = (a, listOf (List.toArray vs) n) :: mu ∧ us = [.ref a, .int i t, .int j u]) R
    (evsm_new he (fun a vs n p => evsm_cons (hf _).up (fun B' v _ hv => by obtain ⟨hB, t, hv⟩ := hv; subst hB; exact evsm_cons (hg _).up (fun B' v' _ hv' => evsm_nil ⟨hv'.1, hv'.2.elim fun u hv' => ⟨a, vs, n, t, u, p, rfl, by rw [hv, hv']⟩⟩) h3) h2) h1)
    (fun B' mu' us _ hh => by obtain ⟨hB, a, vs, n, t, u, p, hm, hu⟩ := hh; subst hB hm hu; obtain ⟨l₁, l₂, l₃, g1, g2, g3, g4⟩ := h a vs n t u p; exact ⟨_, _, _, _, _, _, rfl, g1, g2, g3, g4⟩) hx hy hz hw hs

/-- an int put behind a list of nats -/
theorem ex_appN {x : Str} {np ap pos pos' : Pos} {e : Expr} {a : Addr} {vs : List Value} {n : Nat} {L : List Nat} {d : Nat} (hI : IntsAre vs (znat L)) (hi : interactive X.c.env = false) (hx : Lk x (.ref a) l) (he : Ev X B ((a, listOf vs.toArray n) :: mu) l e (VI d)) (hz : L.length ≤ 100000)
    (h : ∀ vs' n', IntsAre vs' (znat (L ++ [d])) → Ex X B ((a, listOf (List.toArray vs') n') :: mu) l rest K)
    (hline : (ap.endLine == pos.line) = true := by rfl)
    (hd : (x == ("__debug__" : Str)) = false := by decide) (hst : backTo pos (starEach [e] X.c.env) = [(false, eval e X.c.env)] := by rfl)
    (hbase : attributeBase (.Name x np) "append" X.c.env (eval (.Name x np) X.c.env) = eval (.Name x np) X.c.env := by rfl)
    (hfew : ((backTo pos (starEach [e] X.c.env)).all (fun x => !x.1) && (backToKw pos (keywordEach [] X.c.env)).all (fun x => x.1.isSome)
      && decide (([e] : List Expr).length + ([] : List Keyword).length + (if ([] : List Keyword).isEmpty then 0 else 1) < 30)) = true := by rfl)
    (hs : swapsWith (.Call (.Attribute (.Name x np) "append" ap) [e] [] pos) none pos'.line X.c.env = pure false := by rfl) :
    Ex X B ((a, listOf vs.toArray n) :: mu) l (.Expr (.Call (.Attribute (.Name x np) "append" ap) [e] [] pos) pos' :: rest) K :=
  ex_append hi hx he.up (by have := hI.length; rw [List.length_map] at this; omega) (fun B' v n' _ ⟨hB, t, hv⟩ => by
    subst hB hv
    exact h _ n' (by rw [znat, List.map_append]; exact intsAre_snoc hI d t)) hline hd hst hbase hfew hs

theorem r_setM {prog : Program} {w : World} {A : Around} {E : Value → Shared → Prop} {c : Fx} {s : Shared} {a : Addr} {vs : List Value} {n : Nat} {k : Int} {u : Tok} {v : Value} {Q : Unit → Shared → Prop} (S : St c B ((a, listOf vs.toArray n) :: mu) l s) (h0 : 0 ≤ k) (hk : k < vs.length) (hz : vs.length ≤ 1000000)
    (h : ∀ n' s', St c B ((a, listOf (vs.set k.toNat v).toArray n') :: mu) l s' → Q () s') : wpAny (model prog w) A (setItem (.ref a) (.int k u) v) Q E s := by
  have ho := (S.cur _ List.mem_cons_self).1
  have hl := S.isListM
  unfold setItem
  try with_reducible refine wpAny_holding ?_
  first | refine wpAny_bind (wpAny_pure ?_) | skip
  refine wpAny_bind (wpAny_sequenceKey hl.typeIs (by decide) ?_)
  refine wpAny_bind (wpAny_callSpecial?_slot (name := Str.ofString "__setitem__") hl.typeIs slot_list_setitem
    (wpAny_call_entry slot_list_setitem hl.typeIs entry_list_setitem ?_ (args_list_setitem _ _ _)))
  show wpAny _ _ (Builtin.List.listSubscript? (.int k u) >>= _) _ _ s
  refine wpAny_bind (wpAny_listSubscript_int (fitsIndex_of h0 (by omega)) ?_)
  obtain ⟨j, rfl⟩ := Int.eq_ofNat_of_zero_le h0
  have hj : j < vs.toArray.size := by rw [List.size_toArray]; omega
  have hx' : vs.toArray[j]? = some vs.toArray[j] := Array.getElem?_eq_getElem hj
  show wpAny _ _ ((seqItemAt a j >>= fun r => pure (r.map (j, ·))) >>= _) _ _ s
  refine wpAny_bind (wpAny_bind (wpAny_seqItemAt ho rfl (wpAny_pure ?_)))
  rw [hx']
  show wpAny _ _ (setSeqItemAt a j v >>= _) _ _ s
  obtain ⟨n', hn'⟩ := mapSeq_listOf (·.setIfInBounds j v) vs n
  have e := Heap.get?_update_self (Obj.mapSeq (·.setIfInBounds j v)) ho rfl
  have fin : Q () { s with heap := s.heap.update a (Obj.mapSeq (·.setIfInBounds j v)) } := by
    refine h n' _ (S.upd s.toks (Heap.SameBut.update ..).extBut (e.trans ?_))
    rw [hn']
    simp
  refine wpAny_bind (wpAny_setSeqItemAt ho rfl ?_)
  first
    | exact wpAny_bind (wpAny_pure (wpAny_pure ⟨.none, rfl, wpAny_pure fin⟩))
    | exact wpAny_pure ⟨.none, rfl, wpAny_pure fin⟩

theorem intsAre_set {vs : List Value} {ns : List Int} (h : IntsAre vs ns) (j : Nat) (k : Int) (t : Tok) : IntsAre (vs.set j (.int k t)) (ns.set j k) := by
  induction h generalizing j with
  | nil => exact .nil
  | cons n t' _ ih => cases j with
    | zero => exact .cons _ _ ‹_›
    | succ j => exact .cons _ _ (ih j)
/-- x[i] = e, x a list of nats -/
theorem ex_setN {x : Str} {np ip pos : Pos} {i e : Expr} {a : Addr} {vs : List Value} {n : Nat} {L : List Nat} {k d : Nat} (hI : IntsAre vs (znat L)) (hx : Lk x (.ref a) l) (he : Ev X B ((a, listOf vs.toArray n) :: mu) l e (VI d)) (hi : Ev X B ((a, listOf vs.toArray n) :: mu) l i (VI k)) (hk : k < L.length) (hz : L.length ≤ 1000000)
    (h : ∀ vs' n', IntsAre vs' (znat (L.set k d)) → Ex X B ((a, listOf (List.toArray vs') n') :: mu) l rest K) (hd : (x == ("__debug__" : Str)) = false := by decide)
    (hs : swapsWith e (some (.Subscript (.Name x np) i ip)) pos.line X.c.env = pure false := by rfl) :
    Ex X B ((a, listOf vs.toArray n) :: mu) l (.Assign [.Subscript (.Name x np) i ip] e pos :: rest) K := by
  have hlen := hI.length
  rw [List.length_map] at hlen
  refine ex_cons fun s S => wpAny_Assign_Subscript (he.run s _ S fun v s1 ⟨t, hv⟩ S1 => r_name S1 hx (hi.run s1 _ S1 fun kv s2 ⟨u, hu⟩ S2 => ?_) hd) hs
  subst hv hu
  exact r_setM S2 (by omega) (by omega) (by omega) fun n' s3 S3 => ⟨B, _, l, PH.le.refl _, S3, h _ n' (by
    have := intsAre_set hI k d t
    rw [znat, List.map_set]
    exact this)⟩

-- values that are bools
theorem ev_andB {e f : Expr} {pos : Pos} {b d : Bool} (he : Ev X B mu l e (VB b)) (hf : b = true → Ev X B mu l f (VB d)) : Ev X B mu l (.BoolOp .And [e, f] pos) (VB (b && d)) := by
  refine .mk fun s Q S k => BoolOp_and (he.run s _ S fun v s' hv S' => ?_)
  subst hv
  refine wpAny_truthy_bool ?_
  cases b with
  | true => exact ite_tt (BoolOp_one ((hf rfl).run s' _ S' fun v s'' hv S'' => k v s'' (by rw [hv]; rfl) S''))
  | false => exact ite_ff (k _ s' rfl S')
theorem ev_notB {e : Expr} {pos : Pos} {b : Bool} (he : Ev X B mu l e (VB b)) : Ev X B mu l (.UnaryOp .Not e pos) (VB (!b)) := by
  refine .mk fun s Q S k => UnaryOp_ (he.run s _ S fun v s' hv S' => not_of ?_)
  subst hv
  exact wpAny_truthy_bool (k _ s' rfl S')
theorem ev_cmp {op : CmpOp} {e f : Expr} {pos : Pos} {P P' : Value → Prop} {r : Bool} (he : Ev X B mu l e P) (hf : Ev X B mu l f P')
    (h : ∀ v u, P v → P' u → ∀ s (Q : Value → Shared → Prop), Q (.bool r) s → wpAny (model X.prog X.w) X.A (compareOp op v u) Q NoE s) (hm : behindInMarks op f = false := by with_unfolding_all rfl) : Ev X B mu l (.Compare e [op] [f] pos) (VB r) :=
  .mk fun s Q S k => wpAny_Compare1 (he.run s _ S fun v s' hv S' => hf.run s' _ S' fun u s'' hu S'' => h v u hv hu s'' _ (k _ s'' rfl S'')) hm
theorem tst_cmpv {op : CmpOp} {e f : Expr} {pos : Pos} {P P' : Value → Prop} {r : Bool} (he : Ev X B mu l e P) (hf : Ev X B mu l f P')
    (h : ∀ v u, P v → P' u → ∀ s (Q : Value → Shared → Prop), Q (.bool r) s → wpAny (model X.prog X.w) X.A (compareOp op v u) Q NoE s) (hm : behindInMarks op f = false := by with_unfolding_all rfl) : Tst X B mu l (.Compare e [op] [f] pos) r :=
  .mk fun s whole Q hw S k => wpAny_isTrue_Compare1 (he.run s _ S fun v s' hv S' => hf.run s' _ S' fun u s'' hu S'' => h v u hv hu s'' _ (wpAny_truthy_bool (k s'' S''))) hm
section
variable {e f : Expr} {pos : Pos} {a b : Int} {c d : Bool}
theorem ev_gt (he : Ev X B mu l e (VI a)) (hf : Ev X B mu l f (VI b)) (hm : behindInMarks .Gt f = false := by with_unfolding_all rfl) : Ev X B mu l (.Compare e [.Gt] [f] pos) (VB (decide (b < a))) := ev_cmp he hf (by rintro _ _ ⟨t, rfl⟩ ⟨u, rfl⟩ s Q h; exact gt_int h) hm
theorem ev_lt (he : Ev X B mu l e (VI a)) (hf : Ev X B mu l f (VI b)) (hm : behindInMarks .Lt f = false := by with_unfolding_all rfl) : Ev X B mu l (.Compare e [.Lt] [f] pos) (VB (decide (a < b))) := ev_cmp he hf (by rintro _ _ ⟨t, rfl⟩ ⟨u, rfl⟩ s Q h; exact lt_int h) hm
theorem ev_neB (he : Ev X B mu l e (VB c)) (hf : Ev X B mu l f (VB d)) (hm : behindInMarks .NotEq f = false := by with_unfolding_all rfl) : Ev X B mu l (.Compare e [.NotEq] [f] pos) (VB (c != d)) := ev_cmp he hf (by rintro _ _ rfl rfl s Q h; exact ne_bool h) hm
theorem tst_neB (he : Ev X B mu l e (VB c)) (hf : Ev X B mu l f (VB d)) (hm : behindInMarks .NotEq f = false := by with_unfolding_all rfl) : Tst X B mu l (.Compare e [.NotEq] [f] pos) (c != d) := tst_cmpv he hf (by rintro _ _ rfl rfl s Q h; exact ne_bool h) hm
theorem tst_eqB (he : Ev X B mu l e (VB c)) (hf : Ev X B mu l f (VB d)) (hm : behindInMarks .Eq f = false := by with_unfolding_all rfl) : Tst X B mu l (.Compare e [.Eq] [f] pos) (c == d) := tst_cmpv he hf (by rintro _ _ rfl rfl s Q h; exact eq_bool h) hm
end
theorem evb_if {c e f : Expr} {pos : Pos} {b : Bool} {P : PH → Value → Prop} (hc : Tst X B mu l c b) (he : b = true → EvB X B mu l e P) (hf : b = false → EvB X B mu l f P) : EvB X B mu l (.IfExp c e f pos) P := by
  refine .mk fun s Q S k => ?_
  refine IfExp_ (hc.run s _ _ rfl S fun s' S' => ?_)
  cases b with
  | true => exact (he rfl).run s' Q S' k
  | false => exact (hf rfl).run s' Q S' k
theorem ev_abs {e : Expr} {p pos : Pos} {i : Int} {G : List (Str × Value)} (hG : X.c.G = G) (hv : Gk "abs" (.builtin "abs") G) (he : Ev X B mu l e (VI i))
    (hs : starEach [e] X.c.env = [(false, eval e X.c.env)] := by rfl) : Ev X B mu l (.Call (.Name "abs" p) [e] [] pos) (VI i.natAbs) := by
  refine .mk fun s Q S k => ?_
  refine r_callB S hG hv (args_cons (he.run s _ S fun v s' ⟨t, hv⟩ S' => args_nil ?_) hs) hs
  subst hv
  exact call_abs_int fun u tk => k _ _ ⟨u, by rw [show (if i < 0 then -i else i) = (i.natAbs : Int) by split <;> omega]⟩ (S'.tok tk)

-- nats
theorem bitAnd_mask (c w : Nat) : Builtin.bitAnd (c : Int) ((1 : Int) * 2 ^ (w : Int).toNat - 1) = ((c % 2 ^ w : Nat) : Int) := by
  have h1 : (1 : Int) * 2 ^ (w : Int).toNat - 1 = ((2 ^ w - 1 : Nat) : Int) := by
    rw [Int.toNat_natCast, Int.one_mul]
    have : 0 < 2 ^ w := Nat.two_pow_pos w
    have e : ((2 ^ w : Nat) : Int) = 2 ^ w := by push_cast; rfl
    omega
  rw [h1, bitAnd_pp (Int.natCast_nonneg _) (Int.natCast_nonneg _), Int.toNat_natCast, Int.toNat_natCast, Nat.and_two_pow_sub_one_eq_mod]
theorem fdiv_pow (c w : Nat) : Int.fdiv (c : Int) (2 ^ (w : Int).toNat) = ((c / 2 ^ w : Nat) : Int) := by
  have e : ((2 ^ w : Nat) : Int) = 2 ^ w := by push_cast; rfl
  rw [Int.toNat_natCast, ← e, Int.fdiv_eq_ediv_of_nonneg _ (Int.natCast_nonneg _)]
  rfl
theorem bitOr_shl (r w b : Nat) (hb : b < 2 ^ w) : Builtin.bitOr ((r : Int) * 2 ^ (w : Int).toNat) (b : Int) = ((r * 2 ^ w + b : Nat) : Int) := by
  have h1 : (r : Int) * 2 ^ (w : Int).toNat = ((r * 2 ^ w : Nat) : Int) := by rw [Int.toNat_natCast]; push_cast; rfl
  have h2 := nat_or_add_and (r * 2 ^ w) b
  have h3 := Nat.shiftLeft_add_eq_or_of_lt hb r
  rw [Nat.shiftLeft_eq] at h3
  rw [h1, bitOr_and, bitAnd_pp (Int.natCast_nonneg _) (Int.natCast_nonneg _), Int.toNat_natCast, Int.toNat_natCast]
  omega

theorem ex_ifJ {t : Expr} {body orelse : List Stmt} {pos : Pos} {b : Bool} (J : PH → List (Addr × Obj) → Locs → Prop) (ht : Tst X B mu l t b) (h1 : b = true → Ex X B mu l body (fun f B' mu' l' => f = .next ∧ J B' mu' l')) (h2 : b = false → Ex X B mu l orelse (fun f B' mu' l' => f = .next ∧ J B' mu' l'))
    (h : ∀ B' mu' l', B.le B' → J B' mu' l' → Ex X B' mu' l' rest K) : Ex X B mu l (.If t body orelse pos :: rest) K := by
  have key : ∀ body', Ex X B mu l body' (fun f B' mu' l' => f = .next ∧ J B' mu' l') → ∀ s, St X.c B mu l s → wpAny (model X.prog X.w) X.A (execs body' X.c.env) (fun f s' => ∃ B' mu' l', B.le B' ∧ St X.c B' mu' l' s' ∧ Then X rest K f B' mu' l') NoE s := fun body' hb s S =>
    wpAny_mono (hb.run s S) (fun f s' ⟨B', mu', l', hB, S', hf, j⟩ => by subst hf; exact ⟨B', mu', l', hB, S', h B' mu' l' hB j⟩) fun _ _ x => x
  exact ex_cons fun s S => wpAny_If (ht.run s _ _ rfl S fun s' S' => by
    cases b with
    | true => exact ite_tt (key _ (h1 rfl) s' S')
    | false => exact ite_ff (key _ (h2 rfl) s' S'))
theorem evs2 {e f : Expr} {P P' : Value → Prop} (he : Ev X B mu l e P) (hf : Ev X B mu l f P') (h1 : starEach [e, f] X.c.env = (false, eval e X.c.env) :: starEach [f] X.c.env := by rfl) (h2 : starEach [f] X.c.env = (false, eval f X.c.env) :: starEach [] X.c.env := by rfl) :
    Evs X B mu l [e, f] (fun B' vs => B' = B ∧ ∃ u v, vs = [u, v] ∧ P u ∧ P' v) := evs_cons he (fun u hu => evs_cons hf (fun v hv => evs_nil ⟨rfl, u, v, rfl, hu, hv⟩) h2) h1
theorem evs3 {e f g : Expr} {P P' P'' : Value → Prop} (he : Ev X B mu l e P) (hf : Ev X B mu l f P') (hg : Ev X B mu l g P'') (h1 : starEach [e, f, g] X.c.env = (false, eval e X.c.env) :: starEach [f, g] X.c.env := by rfl) (h2 : starEach [f, g] X.c.env = (false, eval f X.c.env) :: starEach [g] X.c.env := by rfl) (h3 : starEach [g] X.c.env = (false, eval g X.c.env) :: starEach [] X.c.env := by rfl) :
    Evs X B mu l [e, f, g] (fun B' vs => B' = B ∧ ∃ u v z, vs = [u, v, z] ∧ P u ∧ P' v ∧ P'' z) := evs_cons he (fun u hu => evs_cons hf (fun v hv => evs_cons hg (fun z hz => evs_nil ⟨rfl, u, v, z, rfl, hu, hv, hz⟩) h3) h2) h1
theorem evs1 {e : Expr} {P : Value → Prop} (he : Ev X B mu l e P) (h1 : starEach [e] X.c.env = (false, eval e X.c.env) :: starEach [] X.c.env := by rfl) :
    Evs X B mu l [e] (fun B' vs => B' = B ∧ ∃ u, vs = [u] ∧ P u) := evs_cons he (fun u hu => evs_nil ⟨rfl, u, rfl, hu⟩) h1
section
variable {x : Str} {px pos : Pos} {e : Expr} {a b : Nat} {t : Tok}
theorem ex_iaddN (hx : Lk x (.int a t) l) (he : Ev X B mu l e (VI b)) (h : ∀ t, ∃ l', Put x (.int (a + b : Nat) t) l l' ∧ Ex X B mu l' rest K) : Ex X B mu l (.AugAssign (.Name x px) .Add e pos :: rest) K := ex_iadd hx he h
theorem ex_ishrN (hx : Lk x (.int a t) l) (he : Ev X B mu l e (VI b)) (h : ∀ t, ∃ l', Put x (.int (a / 2 ^ b : Nat) t) l l' ∧ Ex X B mu l' rest K) : Ex X B mu l (.AugAssign (.Name x px) .RShift e pos :: rest) K := ex_ishr hx he (Int.natCast_nonneg b) (by rw [fdiv_pow]; exact h)
end
theorem ev_maskN {e f : Expr} {pos : Pos} {c w : Nat} (he : Ev X B mu l e (VI c)) (hf : Ev X B mu l f (VI ((1 : Int) * 2 ^ (w : Int).toNat - 1))) : Ev X B mu l (.BinOp e .BitAnd f pos) (VI (c % 2 ^ w : Nat)) := ev_vi (ev_and he hf) (bitAnd_mask c w)
theorem ev_addN {e f : Expr} {pos : Pos} {a b : Nat} (he : Ev X B mu l e (VI a)) (hf : Ev X B mu l f (VI b)) : Ev X B mu l (.BinOp e .Add f pos) (VI (a + b : Nat)) := ev_add he hf
theorem ev_oneShl {e : Expr} {k : Nat} {p pos : Pos} {w : Nat} (he : Ev X B mu l e (VI w)) (hw : w ≤ 1000000) : Ev X B mu l (.BinOp (.Constant (.int 1) k p) .LShift e pos) (VI ((1 : Int) * 2 ^ (w : Int).toNat)) := ev_shl ev_int he (Int.natCast_nonneg w) (by omega) (by decide)

theorem ints_at {vs : List Value} {L : List Nat} (h : IntsAre vs (znat L)) {i : Nat} {v : Value} (e : vs[i]? = some v) : i < L.length ∧ ∃ t, v = .int (L.getD i 0 : Nat) t := by
  have hl := h.length
  rw [List.length_map] at hl
  obtain ⟨hi, rfl⟩ := List.getElem?_eq_some_iff.mp e
  have hi' : i < L.length := by omega
  obtain ⟨t, ht⟩ := h.get i ((znat L).getD i 0) (by rw [List.getD_eq_getElem?_getD, List.getElem?_eq_getElem (by rw [List.length_map]; exact hi')]; rfl)
  rw [getD_znat] at ht
  exact ⟨hi', t, Option.some.inj (e.symm.trans ht)⟩
/-- for x in a, a frozen list of nats -/
theorem ex_forN {x : Str} {px pos : Pos} {iter : Expr} {body : List Stmt} {a : Addr} {L : List Nat} (R : X.A.handled = none) (he : Ev X B mu l iter (VR a)) (hl : NL B a L) (Inv : Nat → PH → List (Addr × Obj) → Locs → Prop) (hI : Inv 0 B mu l)
    (step : ∀ i tk B₁ mu₁ l₁ its, i < L.length → B.le B₁ → Inv i B₁ mu₁ l₁ → ∀ J : PH → List (Addr × Obj) → Locs → Prop, (∀ B mu l, Inv (i + 1) B mu l → J B mu l) → ∃ l₂, Put x (.int (L.getD i 0 : Nat) tk) l₁ l₂ ∧ Ex X B₁ (mu₁ ++ its) l₂ body (Lp its J K))
    (fin : ∀ B₁ mu₁ l₁, B.le B₁ → Inv L.length B₁ mu₁ l₁ → Ex X B₁ mu₁ l₁ rest K)
    (hs : ∀ x, foldedSetIterable iter X.c.env x = pure x := by intro _; rfl) : Ex X B mu l (.For (.Name x px) iter body [] pos :: rest) K := by
  obtain ⟨vs, n, hB, hv⟩ := hl
  have hlen := hv.length
  rw [List.length_map] at hlen
  refine ex_forL (P := fun B' a' vs' => B' = B ∧ vs' = vs) R (he.up.mono fun B' v _ ⟨h1, h2⟩ => ⟨a, vs, n, h2, by rw [h1]; exact hB, h1, rfl⟩) (fun _ _ => Inv) (fun B' a' vs' _ ⟨h1, h2⟩ => ?_) hs
  subst h1 h2
  refine ⟨hI, fun i v B₁ mu₁ l₁ its hv' hb hJ => ?_, fun B₁ mu₁ l₁ hb hJ => fin B₁ mu₁ l₁ hb (by rwa [hlen] at hJ)⟩
  obtain ⟨hi, t, rfl⟩ := ints_at hv hv'
  exact step i t B₁ mu₁ l₁ its hi hb hJ
theorem ex_forEN {x y : Str} {px py pt p ep pos : Pos} {x1 : Nat} {e : Expr} {body : List Stmt} {a : Addr} {L : List Nat} {G : List (Str × Value)} (R : X.A.handled = none) (hG : X.c.G = G) (hv : Gk "enumerate" (.type "enumerate") G)
    (he : Ev X B mu l e (VR a)) (hl : NL B a L) (Inv : Nat → PH → List (Addr × Obj) → Locs → Prop) (hI : Inv 0 B mu l)
    (step : ∀ i tk tk' B₁ mu₁ l₁ its, i < L.length → B.le B₁ → Inv i B₁ mu₁ l₁ → ∀ J : PH → List (Addr × Obj) → Locs → Prop, (∀ B mu l, Inv (i + 1) B mu l → J B mu l) → ∃ l₂ l₃, Put x (.int i tk) l₁ l₂ ∧ Put y (.int (L.getD i 0 : Nat) tk') l₂ l₃ ∧ Ex X B₁ (mu₁ ++ its) l₃ body (Lp its J K))
    (hup : ∀ i B₁ B₂ mu₁ l₁, B₁.le B₂ → Inv i B₁ mu₁ l₁ → Inv i B₂ mu₁ l₁)
    (fin : ∀ B₁ mu₁ l₁, B.le B₁ → Inv L.length B₁ mu₁ l₁ → Ex X B₁ mu₁ l₁ rest K) (hst : starEach [e] X.c.env = [(false, eval e X.c.env)] := by rfl) :
    Ex X B mu l (.For (.Tuple [.Name x px, .Name y py] x1 pt) (.Call (.Name "enumerate" p) [e] [] ep) body [] pos :: rest) K := by
  obtain ⟨vs, n, hB, hvs⟩ := hl
  have hlen := hvs.length
  rw [List.length_map] at hlen
  refine ex_forE R hG hv he hB Inv hI (fun i v tk B₁ B₂ mu₁ l₁ its hv' hb hb' hJ => ?_) (fun B₁ mu₁ l₁ hb hJ => fin B₁ mu₁ l₁ hb (by rwa [hlen] at hJ)) hst
  obtain ⟨hi, t, rfl⟩ := ints_at hvs hv'
  exact step i tk t B₂ mu₁ l₁ its hi (hb.trans hb') (hup i B₁ B₂ mu₁ l₁ hb' hJ)

/-- a call whose new things are of no weight -/
theorem ev_call {x : Str} {p pos : Pos} {e : Expr} {r : List Expr} {f : Addr} {G : List (Str × Value)} {n : Nat} {P : PH → List Value → Prop} (post : Value → Prop) (R : Room X.A n) (hG : X.c.G = G) (hv : Gk x (.ref f) G) (hf : IsFn X.c.W f)
    (ha : Evs X B mu l (e :: r) P) (h : ∀ B' vs, B.le B' → P B' vs → Fn X.prog X.w X.c.W n (.ref f) vs B' (fun _ v => post v))
    (he : starEach (e :: r) X.c.env = (false, eval e X.c.env) :: starEach r X.c.env := by rfl) : Ev X B mu l (.Call (.Name x p) (e :: r) [] pos) post :=
  (evb_call (post := fun _ v => post v) R hG hv hf ha h he).down fun _ _ _ h => h

theorem evs4 {e f g k : Expr} {P P' P'' P3 : Value → Prop} (he : Ev X B mu l e P) (hf : Ev X B mu l f P') (hg : Ev X B mu l g P'') (hk : Ev X B mu l k P3) (h1 : starEach [e, f, g, k] X.c.env = (false, eval e X.c.env) :: starEach [f, g, k] X.c.env := by rfl) (h2 : starEach [f, g, k] X.c.env = (false, eval f X.c.env) :: starEach [g, k] X.c.env := by rfl) (h3 : starEach [g, k] X.c.env = (false, eval g X.c.env) :: starEach [k] X.c.env := by rfl) (h4 : starEach [k] X.c.env = (false, eval k X.c.env) :: starEach [] X.c.env := by rfl) :
    Evs X B mu l [e, f, g, k] (fun B' vs => B' = B ∧ ∃ u v z t, vs = [u, v, z, t] ∧ P u ∧ P' v ∧ P'' z ∧ P3 t) := evs_cons he (fun u hu => evs_cons hf (fun v hv => evs_cons hg (fun z hz => evs_cons hk (fun t ht => evs_nil ⟨rfl, u, v, z, t, rfl, hu, hv, hz, ht⟩) h4) h3) h2) h1
end
end
end
section
open PySem PySem.W PyProof.Rows PySem.Calls
set_option maxRecDepth 100000
section
section
variable {X : Cx} {B : PH} {mu : List (Addr × Obj)} {l : Locs} {rest : List Stmt} {K : Kont}

/-- e[::-1] of a frozen list -/
theorem evb_rev {e : Expr} {k : Nat} {p0 p1 p pos : Pos} {a : Addr} {vs : List Value} {n : Nat} (hl : B a = some (listOf vs.toArray n)) (hz : vs.length ≤ 1000000) (he : Ev X B mu l e (VR a))
    (ht : ∀ o r, letTemporaryGo e o r = pure () := by intro _ _; rfl) :
    EvB X B mu l (.Subscript e (.Slice none none (some (.UnaryOp .USub (.Constant (.int 1) k p0) p1)) p) pos) (fun B' v => ∃ r, v = .ref r ∧ B' r = some (listOf vs.reverse.toArray 0)) := by
  refine .mk fun s Q S k' => ?_
  refine wpAny_Subscript_Slice_step (T := "list") list_getitem_lookup (he.run s _ S fun v s1 hv S1 => wpAny_Slice (part_none s1 _ S1 fun v1 s2 p1 S2 => part_none s2 _ S2 fun v2 s3 p2 S3 => part_int (ev_neg ev_int) s3 _ S3 fun v3 s4 p3 S4 => ?_)) ht
  subst hv
  have hL := S4.isList hl
  refine ⟨(hL.push _).typeIs, wpAny_getItem_list_slice (hL.push _) (Heap.IsSliceOf.new ..) p1 p2 p3 (by decide) ?_ (by rw [List.size_toArray, sizeLine_eq]; omega)⟩
  have S5 := S4.heap' (h := s4.heap.push { cls := .type "slice", data := .fields #[v1, v2, v3] }) fun b o e => Heap.get?_push_of_some _ e
  obtain ⟨S6, hle, _⟩ := S5.alloc (o := listOf vs.reverse.toArray 0) rfl
  have := k' _ _ _ ⟨_, rfl, PH.add_self _ _ _⟩ S6 hle
  have e1 : slicePick vs.toArray none none (some (-1)) = vs.reverse.toArray := pick_back vs
  rw [e1]
  exact this

/-- len of the list at the head -/
theorem ev_lenM {e : Expr} {p pos : Pos} {a : Addr} {vs : List Value} {n : Nat} {G : List (Str × Value)} (hG : X.c.G = G) (hv : Gk "len" (.builtin "len") G) (he : Ev X B ((a, listOf vs.toArray n) :: mu) l e (VR a)) (hz : vs.length ≤ 1000000)
    (hs : starEach [e] X.c.env = [(false, eval e X.c.env)] := by rfl) : Ev X B ((a, listOf vs.toArray n) :: mu) l (.Call (.Name "len" p) [e] [] pos) (VI vs.length) := by
  refine .mk fun s Q S k => ?_
  refine r_callB S hG hv (args_cons (he.run s _ S fun v s' hv S' => args_nil ?_) hs) hs
  subst hv
  exact r_len S' S'.isListM hz fun t s'' S'' => k _ s'' ⟨t, rfl⟩ S''
/-- x[-1] of the list at the head -/
theorem ev_lastM {e : Expr} {k : Nat} {p0 p1 pos : Pos} {a : Addr} {vs : List Value} {n : Nat} {L : List Nat} (hI : IntsAre vs (znat L)) (he : Ev X B ((a, listOf vs.toArray n) :: mu) l e (VR a)) (h0 : 0 < L.length) (hz : L.length ≤ 1000000)
    (hs : ∀ k u, subscripted (.UnaryOp .USub (.Constant (.int 1) k p0) p1) false (.ref a) (.int (-1) u) = operate [.ref a, .int (-1) u] (getItem (.ref a) (.int (-1) u)) := by intro _ _; with_unfolding_all rfl) :
    Ev X B ((a, listOf vs.toArray n) :: mu) l (.Subscript e (.UnaryOp .USub (.Constant (.int 1) k p0) p1) pos) (VI ((L.getD (L.length - 1) 0 : Nat) : Int)) :=
  ev_at he (ev_neg ev_int) fun u s Q S k' => by
    have hlen := hI.length
    rw [List.length_map] at hlen
    obtain ⟨t, ht⟩ := hI.get (L.length - 1) ((znat L).getD (L.length - 1) 0) (by rw [List.getD_eq_getElem?_getD, List.getElem?_eq_getElem (by rw [List.length_map]; omega)]; rfl)
    have hL := S.isListM
    refine tail_any hL.typeIs slot_list_getitem.lookup (wpAny_getItem_list_neg hL (by decide) (by rw [List.size_toArray]; omega) (by decide) ?_ (k' _ s ⟨t, rfl⟩ S)) (hs _ u)
    rw [List.size_toArray, show ((-1 : Int) + (vs.length : Int)).toNat = L.length - 1 by omega, ← getD_znat]
    simpa using ht
/-- x != [] of the list at the head -/
theorem tst_neNil {e : Expr} {p pos : Pos} {a : Addr} {vs : List Value} {n : Nat} {L : List Int} (R : Room X.A 6) (hI : IntsAre vs L) (he : Ev X B ((a, listOf vs.toArray n) :: mu) l e (VR a)) (hm : behindInMarks .NotEq (.List [] p) = false := by with_unfolding_all rfl) :
    Tst X B ((a, listOf vs.toArray n) :: mu) l (.Compare e [.NotEq] [.List [] p] pos) (!decide (L = [])) := by
  refine .mk fun s whole Q hw S k => ?_
  refine wpAny_isTrue_Compare1 (he.run s _ S fun v s' hv S' => List_ (args_nil (r_newList S' (by simp) fun b s'' hn S'' hle => ?_))) hm
  subst hv
  exact ne_ints (vs := vs) (us := []) S''.isListM hI (S''.isList (PH.add_self _ _ _)) .nil (by have := R.u; omega) (wpAny_truthy_bool (k s'' (S''.less hle S'.ext)))
/-- x.pop(), the statement -/
theorem ex_pop {x : Str} {np ap pos pos' : Pos} {a : Addr} {vs : List Value} {i : Int} {t : Tok} {n : Nat} (hi : interactive X.c.env = false) (hx : Lk x (.ref a) l) (hz : vs.length ≤ 100000)
    (h : ∀ n', Ex X B ((a, listOf vs.toArray n') :: mu) l rest K) (hd : (x == ("__debug__" : Str)) = false := by decide)
    (hline : (ap.endLine == pos.line) = true := by rfl)
    (hbase : attributeBase (.Name x np) "pop" X.c.env (eval (.Name x np) X.c.env) = eval (.Name x np) X.c.env := by rfl)
    (hs : swapsWith (.Call (.Attribute (.Name x np) "pop" ap) [] [] pos) none pos'.line X.c.env = pure false := by rfl) :
    Ex X B ((a, listOf (vs ++ [Value.int i t]).toArray n) :: mu) l (.Expr (.Call (.Attribute (.Name x np) "pop" ap) [] [] pos) pos' :: rest) K := by
  refine ex_cons fun s S => wpAny_Expr (wpAny_Call_method (T := "list") (id := "list.pop") hbase rfl hline PySem.F.plainAttrs_list PySem.F.slot_list_pop PySem.F.type_list_pop (r_name S hx ?_ hd)) hi hs
  have ho := (S.cur _ List.mem_cons_self).1
  have hk : (vs ++ [Value.int i t]).toArray.size - 1 = vs.length := by rw [List.size_toArray, List.length_append]; rfl
  refine ⟨⟨_, ho, rfl⟩, fun b e => by cases e; exact ⟨_, ho, rfl⟩, PySem.P.pop_list ho (y := .int i t) (by rw [hk]; simp) ?_ (by rw [List.size_toArray, List.length_append, sizeLine_eq]; simp; omega)⟩
  obtain ⟨n', hn'⟩ := mapSeq_listOf (fun xs => xs.eraseIdxIfInBounds ((vs ++ [Value.int i t]).toArray.size - 1)) (vs ++ [Value.int i t]) n
  refine ⟨B, (a, listOf vs.toArray n') :: mu, l, PH.le.refl _, S.upd s.toks (Heap.SameBut.update ..).extBut ((Heap.get?_update_self _ ho rfl).trans ?_), h n'⟩
  rw [hn', hk]
  congr 2
  exact drop_last vs (.int i t)
/-- x.extend(e), the statement -/
theorem ex_extend {x : Str} {np ap pos pos' : Pos} {e : Expr} {a : Addr} {vs : List Value} {n : Nat} {P : PH → List Value → Prop} (hi : interactive X.c.env = false) (hx : Lk x (.ref a) l)
    (he : EvB X B ((a, listOf vs.toArray n) :: mu) l e (fun B' v => ∃ b us k, v = .ref b ∧ B' b = some (listOf (List.toArray us) k) ∧ us.length ≤ 100000 ∧ P B' us)) (hz : vs.length ≤ 100000)
    (h : ∀ B' us n', B.le B' → P B' us → Ex X B' ((a, listOf (vs ++ us).toArray n') :: mu) l rest K) (hd : (x == ("__debug__" : Str)) = false := by decide)
    (hline : (ap.endLine == pos.line) = true := by rfl) (hst : backTo pos (starEach [e] X.c.env) = [(false, eval e X.c.env)] := by rfl)
    (hbase : attributeBase (.Name x np) "extend" X.c.env (eval (.Name x np) X.c.env) = eval (.Name x np) X.c.env := by rfl)
    (hs : swapsWith (.Call (.Attribute (.Name x np) "extend" ap) [e] [] pos) none pos'.line X.c.env = pure false := by rfl) :
    Ex X B ((a, listOf vs.toArray n) :: mu) l (.Expr (.Call (.Attribute (.Name x np) "extend" ap) [e] [] pos) pos' :: rest) K := by
  refine ex_cons fun s S => wpAny_Expr (wpAny_Call_method (T := "list") (id := "list.extend") hbase (by rw [hst]; rfl) hline PySem.F.plainAttrs_list PySem.F.slot_list_extend (by show builtinType _ = _; rw [builtinType_eq_fast]; kernel_rfl) (r_name S hx ?_ hd)) hi hs
  have ho := (S.cur _ List.mem_cons_self).1
  refine ⟨⟨_, ho, rfl⟩, fun b e => by cases e; exact ⟨_, ho, rfl⟩, ?_⟩
  rw [hst]
  refine PySem.P.extend_list (he.run s _ S fun v s' B' ⟨b, us, k, hv, hb, hu, p⟩ S' hB => ?_)
  have ho' := (S'.cur _ List.mem_cons_self).1
  have hsz : vs.toArray.size + us.toArray.size ≤ sizeLine := by rw [List.size_toArray, List.size_toArray, sizeLine_eq]; omega
  refine ⟨b, vs.toArray, us.toArray, n, k, by rw [List.size_toArray, sizeLine_eq]; omega, Nat.le_succ_of_le hsz, extend_door hsz, hv, ho', S'.keep _ _ hb, ?_⟩
  obtain ⟨n', hn'⟩ := mapSeq_listOf (fun xs => xs ++ us.toArray) vs n
  refine ⟨B', (a, listOf (vs ++ us).toArray n') :: mu, l, hB, S'.upd s'.toks (Heap.SameBut.update ..).extBut ((Heap.get?_update_self _ ho' rfl).trans ?_), h B' us n' hB p⟩
  rw [hn']
  congr 2
  simp

/-- x[i], y = (e, f) -/
theorem ex_setSwap {x y : Str} {np ip py pt p' pos : Pos} {kt k' : Nat} {i e f : Expr} {a : Addr} {vs : List Value} {n : Nat} {L : List Nat} {k d : Nat} {j : Int} (R : X.A.handled = none) (hI : IntsAre vs (znat L)) (hx : Lk x (.ref a) l)
    (he : Ev X B ((a, listOf vs.toArray n) :: mu) l e (VI d)) (hf : Ev X B ((a, listOf vs.toArray n) :: mu) l f (VI j)) (hi : Ev X B ((a, listOf vs.toArray n) :: mu) l i (VI k)) (hk : k < L.length) (hz : L.length ≤ 1000000)
    (h : ∀ vs' n' t, IntsAre vs' (znat (L.set k d)) → ∃ l', Put y (.int j t) l l' ∧ Ex X B ((a, listOf (List.toArray vs') n') :: mu) l' rest K) (hd : (x == ("__debug__" : Str)) = false := by decide)
    (h1 : starEach [e, f] X.c.env = (false, eval e X.c.env) :: starEach [f] X.c.env := by rfl) (h2 : starEach [f] X.c.env = (false, eval f X.c.env) :: starEach [] X.c.env := by rfl)
    (hs : swapsWithSole [.Tuple [.Subscript (.Name x np) i ip, .Name y py] kt pt] (.Tuple [e, f] k' p') pos.line X.c.env = pure false := by rfl)
    (hw : swappedStores [.Tuple [.Subscript (.Name x np) i ip, .Name y py] kt pt] (.Tuple [e, f] k' p') X.c.env = pure none) :
    Ex X B ((a, listOf vs.toArray n) :: mu) l (.Assign [.Tuple [.Subscript (.Name x np) i ip, .Name y py] kt pt] (.Tuple [e, f] k' p') pos :: rest) K := by
  have hlen := hI.length
  rw [List.length_map] at hlen
  refine ex_cons fun s S => Assign_Tuple (Tuple_ ((evs2 he hf h1 h2).run s _ _ S fun us s1 B1 ⟨hB1, u, v, hus, ⟨t, hu⟩, t', hv⟩ S1 _ => ?_)) hs hw
  subst hB1 hus hu hv
  refine r_newTuple S1 (by simp) fun p s2 hn S2 hle => ?_
  refine wpAny_assign_Tuple R (S2.isTup (PH.add_self _ _ _)) rfl rfl fun h' hh => ?_
  have S3 : St X.c B1 ((a, listOf vs.toArray n) :: mu) l { s2 with heap := h' } := (S2.heap' fun b o e => hh b o (Nat.ne_of_lt (Heap.lt_size e)) e).less hle S1.ext
  refine inOrder_cons ?_
  show wpAny _ _ (assign (.Subscript (.Name x np) i ip) X.c.env _) _ _ _
  rw [assign_Subscript]
  refine wpAny_bind (wpAny_holding (r_name S3 hx (wpAny_bind (wpAny_holding (hi.run _ _ S3 fun kv s4 ⟨u4, hu4⟩ S4 => wpAny_bind (wpAny_standAt (wpAny_bind (wpAny_holding ?_)))))) hd))
  subst hu4
  refine r_setM S4 (Int.natCast_nonneg _) (by omega) (by omega) fun n' s5 S5 => wpAny_release ?_
  obtain ⟨l', hp, kk⟩ := h _ n' t' (by have := intsAre_set hI k d t; rw [znat, List.map_set]; exact this)
  exact inOrder_cons (r_asgName S5 hp fun s6 S6 => inOrder_nil ⟨B1, _, l', PH.le.refl _, S6, kk⟩)

/-- e[:], a copy that is to be changed -/
theorem evm_copy {e : Expr} {p pos : Pos} {a : Addr} {vs : List Value} {n : Nat} (hl : B a = some (listOf vs.toArray n)) (hz : vs.length ≤ 1000000) (he : Ev X B mu l e (VR a))
    (ht : ∀ o r, letTemporaryGo e o r = pure () := by intro _ _; rfl) : EvM X B mu l (.Subscript e (.Slice none none none p) pos) (fun us => us = vs) := by
  refine .mk fun s Q S k => ?_
  refine wpAny_Subscript_list_slice (he.run s _ S fun v s1 hv S1 => part_none s1 _ S1 fun v1 s2 p1 S2 => part_none s2 _ S2 fun v2 s3 p2 S3 => ?_) ht
  subst hv
  refine ⟨a, vs.toArray, none, none, rfl, S3.isList hl, by rw [List.size_toArray, sizeLine_eq]; omega, p1, p2, ?_⟩
  have S4 := S3.heap' (h := s3.heap.push { cls := .type "slice", data := .fields #[v1, v2, .none] }) fun b o e => Heap.get?_push_of_some _ e
  have S5 := S4.allocM (o := listOf vs.toArray 0) rfl
  have e : (s3.heap.push { cls := .type "slice", data := .fields #[v1, v2, .none] }).objs.size = s3.heap.objs.size + 1 := Heap.size_push ..
  rw [slicePick_all, ← e]
  exact k _ vs 0 _ rfl S5
end
/-- the list found, the same at both ends of an if -/
inductive FoundJ (f : Addr) (L : List Nat) (B : PH) : PH → List (Addr × Obj) → Locs → Prop
  | mk (vs : List Value) (n : Nat) (F : List Nat) (l : Locs) : Lk "found" (.ref f) l → IntsAre vs (znat F) → F = L → FoundJ f L B B [(f, listOf (List.toArray vs) n)] l
end
end
section
open PySem PySem.W PyProof.Rows PySem.Calls
set_option maxRecDepth 100000
section

/-- a heap in which these places are empty -/
noncomputable def wipe (h : Heap) : List Addr → Heap
  | [] => h
  | a :: r => wipe { h with objs := h.objs.setIfInBounds a { cls := .none, data := .freed } } r
theorem wipe1_get (h : Heap) (a b : Addr) : ({ h with objs := h.objs.setIfInBounds a { cls := .none, data := .freed } } : Heap).get? b = if b = a then none else h.get? b := by
  show (match (h.objs.setIfInBounds a { cls := .none, data := .freed })[b]? with | some ⟨_, _, .freed, _⟩ => none | o => o) = _
  rw [Array.getElem?_setIfInBounds]
  by_cases hb : b = a
  · subst hb
    rw [if_pos rfl, if_pos rfl]
    by_cases hb : b < h.objs.size
    · rw [if_pos hb]
    · rw [if_neg hb]
  · have hba : a ≠ b := fun e => hb e.symm
    rw [if_neg hba, if_neg hb]
    rfl
theorem wipe_get : ∀ (as : List Addr) (h : Heap) (b : Addr), (wipe h as).get? b = if b ∈ as then none else h.get? b
  | [], h, b => by simp [wipe]
  | a :: r, h, b => by
    rw [wipe, wipe_get r, wipe1_get]
    by_cases h1 : b ∈ r
    · simp [h1]
    · by_cases h2 : b = a <;> simp [h1, h2]
theorem wipe_of {as : List Addr} {h : Heap} {b : Addr} {o : Obj} (e : (wipe h as).get? b = some o) : b ∉ as ∧ h.get? b = some o := by
  rw [wipe_get] at e
  by_cases hb : b ∈ as
  · rw [if_pos hb] at e; cases e
  · rw [if_neg hb] at e; exact ⟨hb, e⟩
theorem wipe_to {as : List Addr} {h : Heap} {b : Addr} {o : Obj} (hb : b ∉ as) (e : h.get? b = some o) : (wipe h as).get? b = some o := by rw [wipe_get, if_neg hb]; exact e

/-- what a name stands for in the frames within -/
noncomputable def Gl (c : Fx) (p : Str × Value) : Prop := p ∈ c.G ∨ ((p.1 == ("__debug__" : Str)) = false ∧ c.env.globals = mainGlobals ∧ c.env.builtins = builtinsNs ∧ GlobAt c.W p.1 p.2)

section
variable {c : Fx} {B : PH} {mv mu0 : List (Addr × Obj)} {l : Locs} {s : Shared}

/-- a frame within: its names are new, these objects are its own -/
theorem St.nest {env' : Env} {G' : List (Str × Value)} {names : List Str} {h₁ : Heap} {tk : Nat} {D : Addr} (S : St c B (mv ++ mu0) l s)
    (hkind : env'.scope.kind = .function) (hgl : env'.globals = c.env.globals) (hbl : env'.builtins = c.env.builtins)
    (hG : ∀ p ∈ G', env'.kindOf p.1 = some .globalImplicit ∧ Gl c p) (hloc : ∀ x ∈ names, env'.kindOf x = some .local) (hnd : names.Nodup)
    (hns : h₁.Ns env'.locals (fun _ => none)) (hk : ∀ b o, s.heap.get? b = some o → h₁.get? b = some o) (hC : s.heap.get? env'.locals = none)
    (hD : s.heap.get? D = none) (hDo : h₁.get? D = some (listOf ([] : List Value).toArray 0)) (hDC : D ≠ env'.locals) :
    St ⟨env', c.W, { s with heap := wipe s.heap (mv.map (·.1)) }, B, G'⟩ B ((D, listOf ([] : List Value).toArray 0) :: mv) (names.map fun x => (x, none)) { s with heap := h₁, toks := tk } := by
  have own : ∀ b, b ∈ mv.map (·.1) → b ≠ c.env.locals ∧ B b = none ∧ c.s₀.heap.get? b = none ∧ ∃ o, s.heap.get? b = some o := fun b hb => by
    obtain ⟨p, hp, rfl⟩ := List.mem_map.mp hb
    have := S.cur p (List.mem_append_left _ hp)
    exact ⟨this.2.1, this.2.2.1, this.2.2.2, _, this.1⟩
  have nB : ∀ b, s.heap.get? b = none → B b = none := fun b hb => by
    cases e : B b with
    | none => rfl
    | some o => rw [S.keep _ _ e] at hb; cases hb
  have nw : ∀ b, s.heap.get? b = none → (wipe s.heap (mv.map (·.1))).get? b = none := fun b hb => by rw [wipe_get]; split <;> first | rfl | exact hb
  refine ⟨⟨hkind, fun p hp => ?_, fun b o e => ?_, fun b o e => ?_⟩, ⟨h₁, tk, rfl⟩, ?_, ?_, ?_, fun b o e => hk b o (wipe_of e).2, fun b o e => hk b o (S.keep b o e), PH.le.refl _, fun b o e => .inl e, nB _ hC, nw _ hC, fun p hp => ?_, ?_⟩
  · obtain ⟨h1, h2⟩ := hG p hp
    have e : loadGlobal env' p.1 = loadGlobal c.env p.1 := by unfold loadGlobal; rw [hgl, hbl]
    rcases h2 with h2 | ⟨h3, h5, h6, h7⟩
    rotate_left
    · exact ⟨h1, h3, fun M A Q E s' hw hq => e ▸ loads h5 h6 h7 hw hq⟩
    obtain ⟨_, h3, h4⟩ := S.ok.gl p h2
    refine ⟨h1, h3, fun M A Q E s' hw hq => ?_⟩
    have e : loadGlobal env' p.1 = loadGlobal c.env p.1 := by unfold loadGlobal; rw [hgl, hbl]
    rw [e]
    exact h4 M A Q E s' hw hq
  · have h0 := S.ok.w _ _ e
    refine wipe_to (fun hb => ?_) (S.old _ _ h0)
    rw [(own _ hb).2.2.1] at h0; cases h0
  · refine wipe_to (fun hb => ?_) (S.keep _ _ e)
    have e' : B b = some o := e
    rw [(own _ hb).2.1] at e'; cases e'
  · have e : lk (names.map fun x => (x, none)) = fun _ => none := by
      funext x
      clear hloc hnd
      induction names with
      | nil => rfl
      | cons y r ih => simp only [List.map_cons, lk]; split <;> first | rfl | exact ih
    rw [e]; exact hns
  · rw [List.map_map, show ((fun x : Str × Option Value => x.1) ∘ fun x => (x, (none : Option Value))) = id from rfl, List.map_id]; exact hnd
  · rw [List.map_map, show ((fun x : Str × Option Value => x.1) ∘ fun x => (x, (none : Option Value))) = id from rfl, List.map_id]; exact hloc
  · rcases List.mem_cons.mp hp with rfl | hp
    · exact ⟨hDo, hDC, nB _ hD, nw _ hD⟩
    · have := S.cur p (List.mem_append_left _ hp)
      refine ⟨hk _ _ this.1, fun q => ?_, this.2.2.1, ?_⟩
      · have q' : p.1 = env'.locals := q
        rw [← q', this.1] at hC; cases hC
      · show (wipe s.heap (mv.map (·.1))).get? p.1 = none
        rw [wipe_get, if_pos (List.mem_map.mpr ⟨p, hp, rfl⟩)]
  · rw [List.map_cons, List.nodup_cons]
    refine ⟨fun hm => ?_, ?_⟩
    · obtain ⟨_, _, _, o, ho⟩ := own D hm
      rw [ho] at hD; cases hD
    · have := S.mnd
      rw [List.map_append] at this
      exact (List.nodup_append.mp this).1

theorem St.unnest {env' : Env} {G' : List (Str × Value)} {l' : Locs} {s' : Shared} {B' : PH} {mv' : List (Addr × Obj)} {D : Addr} {o : Obj} {h'' : Heap} (S : St c B (mv ++ mu0) l s)
    (S' : St ⟨env', c.W, { s with heap := wipe s.heap (mv.map (·.1)) }, B, G'⟩ B' ((D, o) :: mv') l' s') (hm : ∀ b ∈ mv'.map (·.1), b ∈ mv.map (·.1)) (hs : Heap.SameBut env'.locals s'.heap h'') :
    St c B' ((D, o) :: (mv' ++ mu0)) l { s' with heap := h'' } := by
  have own : ∀ b, b ∈ mv.map (·.1) → b ≠ c.env.locals ∧ B b = none ∧ c.s₀.heap.get? b = none ∧ ∃ o, s.heap.get? b = some o := fun b hb => by
    obtain ⟨p, hp, rfl⟩ := List.mem_map.mp hb
    have := S.cur p (List.mem_append_left _ hp)
    exact ⟨this.2.1, this.2.2.1, this.2.2.2, _, this.1⟩
  have nd := S.mnd
  rw [List.map_append] at nd
  have dis := (List.nodup_append.mp nd).2.2
  have offL := S'.offL
  simp only at offL
  have key : ∀ b x, b ∉ mv.map (·.1) → s.heap.get? b = some x → h''.get? b = some x ∧ (wipe s.heap (mv.map (·.1))).get? b = some x := fun b x hb e => by
    have h1 := wipe_to hb e
    refine ⟨hs.extBut b x (fun q => ?_) (S'.old b x h1), h1⟩
    rw [q, offL] at h1; cases h1
  obtain ⟨oL, es, ep, hL, hrest⟩ := id S.ns
  have hLn : c.env.locals ∉ mv.map (·.1) := fun hb => (own _ hb).1 rfl
  have kL := key _ _ hLn hL
  have c0 : ∀ b x, c.s₀.heap.get? b = some x → b ∉ mv.map (·.1) ∧ s.heap.get? b = some x := fun b x e => ⟨(fun hb => by rw [(own b hb).2.2.1] at e; cases e), S.old b x e⟩
  have fr : ∀ b x, B' b = some x → B b = some x ∨ (wipe s.heap (mv.map (·.1))).get? b = none := fun b x e => S'.fresh b x e
  have nB' : ∀ b x, (wipe s.heap (mv.map (·.1))).get? b = some x → B b = none → B' b = none := fun b x e hb => by
    cases e' : B' b with
    | none => rfl
    | some y =>
      rcases fr b y e' with g | g
      · rw [hb] at g; cases g
      · rw [e] at g; cases g
  obtain ⟨hu, tu, eu⟩ := S'.up
  obtain ⟨hS, tS, eS⟩ := S.up
  refine ⟨S.ok, ⟨h'', s'.toks, by rw [eu, eS]⟩, ?_, S.nd, S.kinds, fun b x e => (key b x (c0 b x e).1 (c0 b x e).2).1, fun b x e => hs.extBut b x (fun q => ?_) (S'.keep b x e), S.ext.trans S'.ext, fun b x e => ?_, nB' _ _ kL.2 S.off, S.offL, fun p hp => ?_, ?_⟩
  · exact S.ns.at' fun o' e => (key _ _ hLn e).1
  · have := S'.off
    simp only at this
    rw [q, this] at e; cases e
  · rcases fr b x e with g | g
    · exact S.fresh b x g
    · refine .inr ?_
      cases e' : c.s₀.heap.get? b with
      | none => rfl
      | some y => rw [(key b y (c0 b y e').1 (c0 b y e').2).2] at g; cases g
  · have fromIn : ∀ p ∈ (D, o) :: mv', h''.get? p.1 = some p.2 ∧ B' p.1 = none := fun p hp => by
      have := S'.cur p hp
      exact ⟨hs.extBut _ _ this.2.1 this.1, this.2.2.1⟩
    rcases List.mem_cons.mp hp with rfl | hp
    · have h1 := fromIn (D, o) (.head _)
      have h2 := (S'.cur (D, o) (.head _)).2.2.2
      simp only at h2
      refine ⟨h1.1, fun q => ?_, h1.2, ?_⟩
      · simp only at q; rw [q, kL.2] at h2; cases h2
      · cases e' : c.s₀.heap.get? D with
        | none => rfl
        | some y => rw [(key D y (c0 D y e').1 (c0 D y e').2).2] at h2; cases h2
    · rcases List.mem_append.mp hp with hp | hp
      · have h1 := fromIn p (List.mem_cons_of_mem _ hp)
        have h2 := own p.1 (hm _ (List.mem_map.mpr ⟨p, hp, rfl⟩))
        exact ⟨h1.1, h2.1, h1.2, h2.2.2.1⟩
      · have h1 := S.cur p (List.mem_append_right _ hp)
        have h2 : p.1 ∉ mv.map (·.1) := fun hb => dis _ hb _ (List.mem_map.mpr ⟨p, hp, rfl⟩) rfl
        have h3 := key _ _ h2 h1.1
        exact ⟨h3.1, h1.2.1, nB' _ _ h3.2 h1.2.2.1, h1.2.2.2⟩
  · have n1 := S'.mnd
    rw [List.map_cons, List.nodup_cons] at n1
    have h2 := (S'.cur (D, o) (.head _)).2.2.2
    simp only at h2
    rw [List.map_cons, List.nodup_cons, List.map_append, List.nodup_append]
    refine ⟨fun hm' => ?_, n1.2, (List.nodup_append.mp nd).2.1, fun x hx y hy => dis x (hm x hx) y hy⟩
    rcases List.mem_append.mp hm' with hm' | hm'
    · exact n1.1 hm'
    · obtain ⟨p, hp, q⟩ := List.mem_map.mp hm'
      have h1 := S.cur p (List.mem_append_right _ hp)
      have h3 : p.1 ∉ mv.map (·.1) := fun hb => dis _ hb _ (List.mem_map.mpr ⟨p, hp, rfl⟩) rfl
      have q' : p.1 = D := q
      rw [← q', (key _ _ h3 h1.1).2] at h2; cases h2
end

theorem compLoop_own {prog : Program} {w : World} {A : Around} {R : Result → Shared → Prop} {s : Shared} {elt target iter : Expr} {ifs : List Expr} {scope : Scope} {pos : Pos} {it acc : Value} {env : Env} (I : Nat → Shared → Prop)
    (turn : ∀ n s, I n s → wpAny (model prog w) A (pyNext it) (fun r s₁ => match r with
      | none => R (.ok .next) s₁
      | some v => wpAny (model prog w) A (letOwnedTupleGo target it v) (fun _ s₁ => wpAny (model prog w) A (assign target env v) (fun _ s₂ =>
          wpAny (model prog w) A (forIn ifs true fun c r => if r = true then do let ok ← isTrue c env (eval c env); pure (ForInStep.yield ok) else pure (ForInStep.yield r)) (fun ok s₃ =>
            if ok = true then wpAny (model prog w) A (eval elt env) (fun x s₄ =>
              wpAny (model prog w) A (call (.builtin "list.append") [acc, x]) (fun _ s₅ => ∃ m, m < n ∧ I m s₅) NoE s₄) NoE s₃
            else ∃ m, m < n ∧ I m s₃) NoE s₂) NoE s₁) NoE s₁) NoE s)
    (n : Nat) (h : I n s) :
    codeAny (model prog w) A (.compLoop (.ListComp elt [⟨target, iter, ifs, 0⟩] scope pos) 0 it acc env) R s := by
  refine codeAny_loop rfl I (fun n s hI => ?_) n h
  show wpAny _ A ((compTurn (.ListComp elt [⟨target, iter, ifs, 0⟩] scope pos) 0 it acc env).onRaise (fun x => do noteFrame x env; theTreesLotGoes x)) _ _ s
  refine wpAny_noted ?_
  rw [compTurn_list]
  refine wpAny_bind (wpAny_standAt (wpAny_bind (wpAny_mono (turn n s hI) (fun r s₁ h₁ => ?_) fun _ _ h' => h'.elim)))
  cases r with
  | none => exact wpAny_pure h₁
  | some v =>
    refine wpAny_bind (wpAny_mono h₁ (fun _ s₁ h₁ => ?_) fun _ _ h' => h'.elim)
    refine wpAny_bind (wpAny_mono h₁ (fun _ s₂ h₂ => wpAny_bind (wpAny_mono h₂ (fun ok s₃ h₃ => ?_) fun _ _ h' => h'.elim)) fun _ _ h' => h'.elim)
    cases ok with
    | false => exact wpAny_pure ⟨rfl, h₃⟩
    | true =>
      exact wpAny_bind (wpAny_bind (wpAny_mono h₃ (fun x s₄ h₄ => wpAny_bind (wpAny_mono h₄ (fun _ s₅ h₅ => wpAny_pure (wpAny_pure ⟨rfl, h₅⟩)) fun _ _ h' => h'.elim)) fun _ _ h' => h'.elim))

/-- one turn of a comprehension, in its own frame -/
inductive Turned (c : Fx) (B₀ : PH) (names : List Str) (as : List Addr) (p : Addr × Obj) (its : List (Addr × Obj)) (I : PH → List (Addr × Obj) → Prop) (s : Shared) : Prop
  | mk (B : PH) (mv : List (Addr × Obj)) (l : Locs) : B₀.le B → l.map (·.1) = names → mv.map (·.1) = as → St c B (p :: (mv ++ its)) l s → I B mv → Turned c B₀ names as p its I s
noncomputable def Turn (prog : Program) (w : World) (A : Around) (c : Fx) (scope : Scope) (cl : List (Str × Addr)) (names : List Str) (G' : List (Str × Value)) (target elt : Expr) (ifs : List Expr) (Inv : Nat → PH → List (Addr × Obj) → List Value → Prop) (mv : List (Addr × Obj)) (B : PH) (n : Nat) (P : Nat → PH → PH → Value → Prop) : Prop :=
  ∀ (c' : Fx) i v B₃ B₄ mv₁ us l₁ its D n' s', c'.W = c.W → c'.G = G' → c'.env.cells = cl → (∀ x, c'.env.kindOf x = (relabel scope c.env).names.lookup x) → i < n → B.le B₃ → B₃.le B₄ → Inv i B₃ mv₁ us → P i B₃ B₄ v → l₁.map (·.1) = names → mv₁.map (·.1) = mv.map (·.1) →
    St c' B₄ ((D, listOf (List.toArray us) n') :: (mv₁ ++ its)) l₁ s' → wpAny (model prog w) A (assign target c'.env v) (fun _ s₃ =>
      wpAny (model prog w) A (forIn ifs true fun c r => if r = true then do let ok ← isTrue c c'.env (eval c c'.env); pure (ForInStep.yield ok) else pure (ForInStep.yield r)) (fun ok s₄ =>
        if ok = true then wpAny (model prog w) A (eval elt c'.env) (fun u s₅ => Turned c' B₄ names (mv.map (·.1)) (D, listOf (List.toArray us) n') its (fun B mv => Inv (i + 1) B mv (us ++ [u])) s₅) NoE s₄
        else Turned c' B₄ names (mv.map (·.1)) (D, listOf (List.toArray us) n') its (fun B mv => Inv (i + 1) B mv us) s₄) NoE s₃) NoE s'

/-- behind a comprehension, its frame still there -/
structure Aft (c : Fx) (B : PH) (mu : List (Addr × Obj)) (l : Locs) (s : Shared) (C : Addr) : Prop where
  now : St c B mu l s
  away : ∀ h'', Heap.SameBut C s.heap h'' → St c B mu l { s with heap := h'' }
  ns : ∃ m, s.heap.Ns C m
  ne : c.env.locals ≠ C
  nb : B C = none
  n0 : c.s₀.heap.get? C = none
  nm : ∀ p ∈ mu, p.1 ≠ C
/-- something of no weight changes -/
theorem St.junk {c : Fx} {B : PH} {mu : List (Addr × Obj)} {l : Locs} {s : Shared} {C : Addr} {h : Heap} (S : St c B mu l s) (hs : Heap.ExtBut C s.heap h) (hC : c.env.locals ≠ C) (hB : B C = none) (h0 : c.s₀.heap.get? C = none) (hm : ∀ p ∈ mu, p.1 ≠ C) : St c B mu l { s with heap := h } := by
  obtain ⟨h', tk', rfl⟩ := S.up
  exact ⟨S.ok, ⟨h, tk', rfl⟩, S.ns.extBut hs hC, S.nd, S.kinds, fun b o e => hs b o (fun q => by rw [q, h0] at e; cases e) (S.old b o e), fun b o e => hs b o (fun q => by rw [q, hB] at e; cases e) (S.keep b o e), S.ext, S.fresh, S.off, S.offL,
    fun p hp => ⟨hs _ _ (hm p hp) (S.cur p hp).1, (S.cur p hp).2⟩, S.mnd⟩
inductive CompAt (prog : Program) (w : World) (A : Around) (c : Fx) (scope : Scope) (cl : List (Str × Addr)) (names : List Str) (G' : List (Str × Value)) (target elt : Expr) (ifs : List Expr) (mv mu0 : List (Addr × Obj)) (l : Locs)
    (Fin : PH → List (Addr × Obj) → List Value → Addr → Nat → Prop) (it : Value) (s : Shared) : Prop
  | mk (B : PH) (its : List (Addr × Obj)) (n : Nat) (H : Nat → List (Addr × Obj) → Prop) (P : Nat → PH → PH → Value → Prop) (Inv : Nat → PH → List (Addr × Obj) → List Value → Prop) : St c B ((mv ++ mu0) ++ its) l s → H 0 its → Src prog w A target it n H P B → n ≤ 100000 → Inv 0 B mv [] →
      Turn prog w A c scope cl names G' target elt ifs Inv mv B n P →
      (∀ B₃ mv₁ us D n', B.le B₃ → mv₁.map (·.1) = mv.map (·.1) → Inv n B₃ mv₁ us → us.length ≤ n → Fin B₃ mv₁ us D n') → CompAt prog w A c scope cl names G' target elt ifs mv mu0 l Fin it s
theorem CompAt.imp {prog : Program} {w : World} {A : Around} {c : Fx} {scope : Scope} {cl : List (Str × Addr)} {names : List Str} {G' : List (Str × Value)} {target elt : Expr} {ifs : List Expr} {mv mu0 : List (Addr × Obj)} {l : Locs} {F F' : PH → List (Addr × Obj) → List Value → Addr → Nat → Prop} {it : Value} {s : Shared}
    (h : CompAt prog w A c scope cl names G' target elt ifs mv mu0 l F it s) (k : ∀ B mv us D n, F B mv us D n → F' B mv us D n) : CompAt prog w A c scope cl names G' target elt ifs mv mu0 l F' it s := by
  obtain ⟨B, its, n, H, P, Inv, S, h0, X, hn, hI, T, hQ⟩ := h
  exact ⟨B, its, n, H, P, Inv, S, h0, X, hn, hI, T, fun _ _ _ _ _ a b d e => k _ _ _ _ _ (hQ _ _ _ _ _ a b d e)⟩
inductive CompInv (c : Fx) (n : Nat) (B₀ : PH) (names : List Str) (as : List Addr) (H : Nat → List (Addr × Obj) → Prop) (Inv : Nat → PH → List (Addr × Obj) → List Value → Prop) (D : Addr) (k : Nat) (s : Shared) : Prop
  | mk (i : Nat) (B : PH) (mv its : List (Addr × Obj)) (us : List Value) (m : Nat) (l : Locs) : k = n + 1 - i → i ≤ n → us.length ≤ i → B₀.le B → l.map (·.1) = names → mv.map (·.1) = as → St c B ((D, listOf (List.toArray us) m) :: (mv ++ its)) l s → H i its → Inv i B mv us → CompInv c n B₀ names as H Inv D k s
theorem r_compG {prog : Program} {w : World} {A : Around} {c : Fx} {mv mu0 : List (Addr × Obj)} {l : Locs} {s : Shared} {elt target iter : Expr} {ifs : List Expr} {scope : Scope} {pos : Pos} {cl : List (Str × Addr)} {Q : Value → Shared → Prop} {use : Option (Value → Sem Unit)} (names : List Str) (G' : List (Str × Value))
    (hh : A.handled = none) (hclos : closureFor scope c.env = pure cl) (hnd : names.Nodup) (hloc : ∀ x ∈ names, scope.names.lookup x = some .local)
    (hG : ∀ p ∈ G', (relabel scope c.env).names.lookup p.1 = some .globalImplicit ∧ Gl c p)
    (h : wpAny (model prog w) A (eval iter c.env) (fun xv s₁ => wpAny (model prog w) A (pyIter xv) (CompAt prog w A c scope cl names G' target elt ifs mv mu0 l fun B₃ mv₁ us D n' => ∀ s' C, Aft c B₃ ((D, listOf (List.toArray us) n') :: (mv₁ ++ mu0)) l s' C → compPost (model prog w) A NoE use Q (.ref D) C (.ok .next) s') NoE s₁) NoE s)
    (hcell : ∀ y ∈ scope.names, y.2 ≠ .cell := by decide) (hkind : scope.kind = .function := by rfl) (hnames : ∀ y ∈ scope.names, y.2 = .local → scope.names.lookup y.1 = some .local := by decide)
    (hs : ∀ x, foldedSetIterable iter c.env x = pure x := by intro _; rfl) :
    wpAny (model prog w) A (comprehension (.ListComp elt [⟨target, iter, ifs, 0⟩] scope pos) scope c.env (firstIterPos [⟨target, iter, ifs, 0⟩] pos) (newList []) false (eval iter c.env) use) Q NoE s := by
  refine wpAny_comprehension_free (use := use) rfl hs hclos hkind hnames (wpAny_mono h (fun xv s₁ h₁ => wpAny_mono h₁ (fun it s₂ h₂ => ?_) fun _ _ e => e) fun _ _ e => e)
  obtain ⟨B, its, n, H, P, Inv, S, h0, X, hn, hI, T, hQ⟩ := h₂
  have Sp : St c B ((mv ++ its) ++ mu0) l s₂ := S.perm (by
    rw [List.append_assoc, List.append_assoc]
    exact List.Perm.append_left mv List.perm_append_comm)
  refine wpAny_newObj_type (wpAny_newFunctionEnv hcell (by intro y hy; simp at hy) (fun h₁ hns₁ hsb₁ => ?_) hkind)
  dsimp only at hns₁ hsb₁ ⊢
  generalize hH2 : s₂.heap.push { cls := .type "list", dict := none, data := .seq ([] : List Value).toArray } = H2 at hns₁ hsb₁ ⊢
  have hC : H2.objs.size = s₂.heap.objs.size + 1 := by rw [← hH2, Heap.size_push]
  have hDC : s₂.heap.objs.size ≠ H2.objs.size := by rw [hC]; exact Nat.ne_of_lt (Nat.lt_succ_self _)
  have below : ∀ b, b < s₂.heap.objs.size → b ≠ H2.objs.size := fun b hb => by rw [hC]; exact Nat.ne_of_lt (Nat.lt_succ_of_lt hb)
  have old : ∀ b o, s₂.heap.get? b = some o → h₁.get? b = some o := fun b o e => hsb₁.extBut b o (below b (Heap.lt_size e)) (Heap.get?_push_of_some _ (hH2 ▸ Heap.get?_push_of_some _ e))
  have hacc : h₁.get? s₂.heap.objs.size = some (listOf ([] : List Value).toArray 0) := hsb₁.extBut _ _ hDC (Heap.get?_push_of_some _ (hH2 ▸ Heap.get?_push_size _ rfl))
  have fresh : ∀ a, s₂.heap.objs.size ≤ a → s₂.heap.get? a = none := fun a ha => by
    cases e : s₂.heap.get? a with
    | none => rfl
    | some o' => exact absurd (Heap.lt_size e) (Nat.not_lt.mpr ha)
  have hx : ∀ x, (compEnvC scope cl H2.objs.size c.env).kindOf x = (relabel scope c.env).names.lookup x := fun x => rfl
  have N := Sp.nest (env' := compEnvC scope cl H2.objs.size c.env) (G' := G') (names := names) (h₁ := h₁) (tk := s₂.toks + ([] : List (Str × Value)).length) (D := s₂.heap.objs.size) hkind rfl rfl
    (fun p hp => ⟨(hG p hp).1, (hG p hp).2⟩) (fun x hx => lookup_relabel_local (hloc x hx)) hnd hns₁ old (fresh _ (by show _ ≤ H2.objs.size; rw [hC]; exact Nat.le_succ _)) (fresh _ (Nat.le_refl _)) hacc hDC
  generalize hc' : (⟨compEnvC scope cl H2.objs.size c.env, c.W, { s₂ with heap := wipe s₂.heap ((mv ++ its).map (·.1)) }, B, G'⟩ : Fx) = c' at N
  have henv : c'.env = compEnvC scope cl H2.objs.size c.env := by rw [← hc']
  have hW' : c'.W = c.W := by rw [← hc']
  have hG' : c'.G = G' := by rw [← hc']
  have loop : ∀ s₃ : Shared, s₃ = { s₂ with heap := h₁, toks := s₂.toks + ([] : List (Str × Value)).length } →
      codeAny (model prog w) A (.compLoop (.ListComp elt [⟨target, iter, ifs, 0⟩] scope pos) 0 it (.ref s₂.heap.objs.size) (compEnvC scope cl H2.objs.size c.env))
        (compPost (model prog w) A NoE use Q (.ref s₂.heap.objs.size) H2.objs.size) s₃ := by
    rintro s₃ rfl
    refine compLoop_own (CompInv c' n B names (mv.map (·.1)) H Inv s₂.heap.objs.size) ?_ (n + 1)
      ⟨0, B, mv, its, [], 0, _, rfl, Nat.zero_le _, Nat.le_refl _, PH.le.refl _, by rw [List.map_map, show ((fun x : Str × Option Value => x.1) ∘ fun x => (x, (none : Option Value))) = id from rfl, List.map_id], rfl, N, h0, hI⟩
    rintro k s' ⟨i, B₁, mv₁, its, us, nn, l₁, rfl, hi, hul, hB, hl1, hmv, S₁, hH, hJ⟩
    by_cases hlt : i < n
    · refine wpAny_mono (X.next c' i B₁ ((s₂.heap.objs.size, listOf (List.toArray us) nn) :: mv₁) l₁ its s' (fun v s₃ => ∃ B₂ its', B₁.le B₂ ∧ St c' B₂ ((s₂.heap.objs.size, listOf (List.toArray us) nn) :: (mv₁ ++ its')) l₁ s₃ ∧ H (i + 1) its' ∧ P i B₁ B₂ v) hlt hB S₁ hH fun v B₂ its' s'' a b d e => ⟨B₂, its', a, b, d, e⟩) (fun r s₃ h₃ => ?_) fun _ _ x => x
      cases r with
      | none => exact h₃.elim
      | some v =>
        refine wpAny_mono h₃ (fun _ s₄ h₄ => ?_) fun _ _ x => x
        obtain ⟨B₂, its', hB₂, S₂, hH₂, hP⟩ := h₄
        have turn := T c' i v B₁ B₂ mv₁ us l₁ its' s₂.heap.objs.size nn s₄ hW' hG' (by rw [henv]; rfl) (fun x => by rw [henv]; rfl) hlt hB hB₂ hJ hP hl1 hmv S₂
        rw [henv] at turn
        refine wpAny_mono turn (fun _ s₅ h₅ => wpAny_mono h₅ (fun ok s₆ h₆ => ?_) fun _ _ x => x) fun _ _ x => x
        cases ok with
        | true =>
          simp only [if_true] at h₆ ⊢
          refine wpAny_mono h₆ (fun u s₇ h₇ => ?_) fun _ _ x => x
          obtain ⟨B₅, mv₂, l₂, hB₅, hl2, hm2, S₅, hI₅⟩ := h₇
          refine r_append S₅ (by omega) fun n'' s₈ S₈ => ⟨n + 1 - (i + 1), by omega, i + 1, B₅, mv₂, its', us ++ [u], n'', l₂, rfl, hlt, by rw [List.length_append]; simp; omega, hB.trans (hB₂.trans hB₅), hl2, hm2, S₈, hH₂, hI₅⟩
        | false =>
          simp only [Bool.false_eq_true, if_false] at h₆ ⊢
          obtain ⟨B₅, mv₂, l₂, hB₅, hl2, hm2, S₅, hI₅⟩ := h₆
          exact ⟨n + 1 - (i + 1), by omega, i + 1, B₅, mv₂, its', us, nn, l₂, rfl, hlt, by omega, hB.trans (hB₂.trans hB₅), hl2, hm2, S₅, hH₂, hI₅⟩
    · have hin : i = n := by omega
      subst hin
      refine wpAny_mono (X.done c' B₁ ((s₂.heap.objs.size, listOf (List.toArray us) nn) :: mv₁) l₁ its s' (fun s₃ => St c' B₁ ((s₂.heap.objs.size, listOf (List.toArray us) nn) :: mv₁) l₁ s₃) hB S₁ hH fun s' h => h) (fun r s₃ h₃ => ?_) fun _ _ x => x
      obtain ⟨rfl, S₃⟩ := h₃
      have hloc : c'.env.locals = H2.objs.size := by rw [henv]; rfl
      have fC : s₂.heap.get? H2.objs.size = none := fresh _ (by rw [hC]; exact Nat.le_succ _)
      have hns : ∃ m, s₃.heap.Ns H2.objs.size m := ⟨lk l₁, by rw [← hloc]; exact S₃.ns⟩
      have hoff : B₁ H2.objs.size = none := by rw [← hloc]; exact S₃.off
      have hD : s₂.heap.objs.size ≠ H2.objs.size := hDC
      subst hc'
      have U : ∀ h'', Heap.SameBut H2.objs.size s₃.heap h'' → St c B₁ ((s₂.heap.objs.size, listOf (List.toArray us) nn) :: (mv₁ ++ mu0)) l { s₃ with heap := h'' } := fun h'' hs'' =>
        Sp.unnest S₃ (fun b hb => by rw [hmv] at hb; rw [List.map_append]; exact List.mem_append_left _ hb) hs''
      refine hQ B₁ mv₁ us _ nn hB hmv hJ hul _ H2.objs.size ⟨U _ (Heap.SameBut.refl ..), U, hns, ?_, hoff, ?_, fun p hp => ?_⟩
      · obtain ⟨oL, _, _, hL, _⟩ := Sp.ns
        intro q; rw [q, fC] at hL; cases hL
      · cases e : c.s₀.heap.get? H2.objs.size with
        | none => rfl
        | some o => rw [Sp.old _ _ e] at fC; cases fC
      · rcases List.mem_cons.mp hp with rfl | hp
        · exact hD
        · rcases List.mem_append.mp hp with hp | hp
          · have hm1 : p.1 ∈ mv.map (·.1) := by rw [← hmv]; exact List.mem_map.mpr ⟨p, hp, rfl⟩
            obtain ⟨q, hq, e⟩ := List.mem_map.mp hm1
            have := (Sp.cur q (List.mem_append_left _ (List.mem_append_left _ hq))).1
            intro e2; rw [e, e2, fC] at this; cases this
          · have := (Sp.cur p (List.mem_append_right _ hp)).1
            intro e2; rw [e2, fC] at this; cases this
  refine codeAny_compStart_list (loop _ rfl) ?_
  have N' : St c' B (((s₂.heap.objs.size, listOf ([] : List Value).toArray 0) :: mv) ++ its) (names.map fun x => (x, none)) { s₂ with heap := h₁, toks := s₂.toks + ([] : List (Str × Value)).length } := N
  exact X.self c' B _ _ its _ _ _ (PH.le.refl _) N' h0 (loop _ rfl)
theorem r_comp {prog : Program} {w : World} {A : Around} {c : Fx} {mv mu0 : List (Addr × Obj)} {l : Locs} {s : Shared} {elt target iter : Expr} {ifs : List Expr} {scope : Scope} {pos : Pos} {cl : List (Str × Addr)} {Q : Value → Shared → Prop} (names : List Str) (G' : List (Str × Value))
    (hh : A.handled = none) (hclos : closureFor scope c.env = pure cl) (hnd : names.Nodup) (hloc : ∀ x ∈ names, scope.names.lookup x = some .local)
    (hG : ∀ p ∈ G', (relabel scope c.env).names.lookup p.1 = some .globalImplicit ∧ Gl c p)
    (h : wpAny (model prog w) A (eval iter c.env) (fun xv s₁ => wpAny (model prog w) A (pyIter xv) (CompAt prog w A c scope cl names G' target elt ifs mv mu0 l fun B₃ mv₁ us D n' => ∀ s', St c B₃ ((D, listOf (List.toArray us) n') :: (mv₁ ++ mu0)) l s' → Q (.ref D) s') NoE s₁) NoE s)
    (hcell : ∀ y ∈ scope.names, y.2 ≠ .cell := by decide) (hkind : scope.kind = .function := by rfl) (hnames : ∀ y ∈ scope.names, y.2 = .local → scope.names.lookup y.1 = some .local := by decide)
    (hs : ∀ x, foldedSetIterable iter c.env x = pure x := by intro _; rfl) :
    wpAny (model prog w) A (eval (.ListComp elt [⟨target, iter, ifs, 0⟩] scope pos) c.env) Q NoE s := by
  rw [eval_ListComp]
  exact r_compG (use := none) names G' hh hclos hnd hloc hG (wpAny_mono h (fun _ _ h₁ => wpAny_mono h₁ (fun _ _ h₂ => h₂.imp fun _ _ _ _ _ k _ _ F => F.ns.imp fun _ hm => ⟨hm, fun h'' hs'' => k _ (F.away h'' hs'')⟩) fun _ _ x => x) fun _ _ x => x) hcell hkind hnames hs
/-- y = [..], y a local name -/
theorem r_compA {prog : Program} {w : World} {A : Around} {c : Fx} {mv mu0 : List (Addr × Obj)} {l : Locs} {s : Shared} {elt target iter : Expr} {ifs : List Expr} {scope : Scope} {pos py spos : Pos} {y : Str} {cl : List (Str × Addr)} {Q : Flow → Shared → Prop} (names : List Str) (G' : List (Str × Value))
    (hh : A.handled = none) (hclos : closureFor scope c.env = pure cl) (hnd : names.Nodup) (hloc : ∀ x ∈ names, scope.names.lookup x = some .local)
    (hG : ∀ p ∈ G', (relabel scope c.env).names.lookup p.1 = some .globalImplicit ∧ Gl c p)
    (h : wpAny (model prog w) A (eval iter c.env) (fun xv s₁ => wpAny (model prog w) A (pyIter xv) (CompAt prog w A c scope cl names G' target elt ifs mv mu0 l fun B₃ mv₁ us D n' => ∃ l₂, Put y (.ref D) l l₂ ∧ ∀ s', St c B₃ ((D, listOf (List.toArray us) n') :: (mv₁ ++ mu0)) l₂ s' → Q .next s') NoE s₁) NoE s)
    (hsw : swapsWith (.ListComp elt [⟨target, iter, ifs, 0⟩] scope pos) (some (.Name y py)) spos.line c.env = pure true)
    (hcell : ∀ y ∈ scope.names, y.2 ≠ .cell := by decide) (hkind : scope.kind = .function := by rfl) (hnames : ∀ y ∈ scope.names, y.2 = .local → scope.names.lookup y.1 = some .local := by decide)
    (hs : ∀ x, foldedSetIterable iter c.env x = pure x := by intro _; rfl) :
    wpAny (model prog w) A (exec (.Assign [.Name y py] (.ListComp elt [⟨target, iter, ifs, 0⟩] scope pos) spos) c.env) Q NoE s := by
  rw [exec_Assign_Name_used _ _ _ _ hsw]
  refine wpAny_bind (wpAny_standAt (wpAny_bind ?_))
  show wpAny _ A (do let _ ← comprehension (.ListComp elt [⟨target, iter, ifs, 0⟩] scope pos) scope c.env _ (newList []) false (eval iter c.env) (some (assign (.Name y py) c.env))) _ _ s
  refine wpAny_bind (wpAny_mono (r_compG (use := some (assign (.Name y py) c.env)) (Q := fun _ s' => Q .next s') names G' hh hclos hnd hloc hG (wpAny_mono h (fun _ _ h₁ => wpAny_mono h₁ (fun _ _ h₂ => h₂.imp fun B₃ mv₁ us D n' k s' C F => ?_) fun _ _ x => x) fun _ _ x => x) hcell hkind hnames hs) (fun _ s' hq => wpAny_pure (wpAny_pure hq)) fun _ _ x => x)
  obtain ⟨l₂, hp, kk⟩ := k
  have S := F.now
  show wpAny _ A (assign (.Name y py) c.env (.ref D)) _ _ _
  refine PySem.wpAny_assign_Name (wpAny_storeName_local (S.kinds y hp.mem) S.ns (fun h₂ hn₂ hs₂ => ?_) (by show (c.env.scope.kind == .class || (c.env.scope.kind == .module && c.env.locals != c.env.globals)) = false; rw [S.ok.kind]; rfl))
  obtain ⟨m, hm⟩ := F.ns
  have S2 := S.local (l' := l₂) (s'.toks + 1) ((hp.lk S.nd).symm ▸ hn₂) hs₂ hp.names
  exact ⟨m, hm.sameBut hs₂ (Ne.symm F.ne), fun h₃ hs₃ => kk _ (S2.junk hs₃.extBut F.ne F.nb F.n0 F.nm)⟩
end
end
section
open PySem PySem.W PyProof.Rows PySem.Calls
set_option maxRecDepth 100000
section

theorem bindL_all {kindOf : Str → Option NameKind} : ∀ (binds : List (Str × Value)) (m : Str → Option Value), (∀ p ∈ binds, kindOf p.1 = some .local) → bindL kindOf binds m = fun x => (binds.reverse.lookup x).or (m x)
  | [], m, _ => by funext x; rfl
  | (n, v) :: r, m, h => by
    have h1 : kindOf n = some .local := h (n, v) List.mem_cons_self
    show bindL kindOf r (if kindOf n = some .local then fun y => if y = n then some v else m y else m) = _
    rw [if_pos h1, bindL_all r _ fun p hp => h p (List.mem_cons_of_mem _ hp)]
    funext x
    rw [List.reverse_cons, List.lookup_append]
    cases r.reverse.lookup x with
    | some u => rfl
    | none =>
      simp only [Option.none_or, List.lookup_cons, List.lookup_nil]
      by_cases hx : x = n
      · simp [hx]
      · have : (x == n) = false := by simpa using hx
        simp [hx, this]
theorem bindC_all {kindOf : Str → Option NameKind} : ∀ (binds : List (Str × Value)) (m : Str → Option Value), (∀ p ∈ binds, kindOf p.1 = some .local) → bindC kindOf binds m = m
  | [], _, _ => rfl
  | (n, v) :: r, m, h => by
    show bindC kindOf r (if kindOf n = some .local then m else fun y => if y = n then some v else m y) = _
    rw [if_pos (h (n, v) List.mem_cons_self), bindC_all r _ fun p hp => h p (List.mem_cons_of_mem _ hp)]

/-- a def whose frame has cells, called here -/
theorem run_ofC {W : Heap} {f : Addr} {name : Str} {params : Arguments} {body : List Stmt} {scope : Scope} {args : List Value} {post : PH → Value → Prop} {r : Nat} {prog : Program} {w : World} {B : PH} {A : Around} (ps : List Str) (rest : List Str) (G : List (Str × Value))
    (D : IsDef W f name params body scope)
    (hbind : ∀ pm cd doc, bindArgs (docDef name params body scope pm cd doc) ⟨args, []⟩ = pure (ps.zip args))
    (hnd : (ps ++ rest).Nodup)
    (hloc : ∀ x ∈ ps ++ rest, scope.names.lookup x = some .local)
    (hG : ∀ x ∈ G.map (·.1), scope.names.lookup x = some .globalImplicit ∧ (x == ("__debug__" : Str)) = false) (hGW : ∀ p ∈ G, GlobAt W p.1 p.2)
    (hcn : ((cellsFrom 0 scope.names []).map (·.1)).Nodup) (hca : ∀ n, ((cellsFrom n scope.names []).map (·.2)).Nodup)
    (h : ∀ (X : Cx) (L : Addr) (cells : List (Addr × Obj)), (∃ env, X.A = A.deeper env) → X.c.env.globals = mainGlobals → X.c.env.builtins = builtinsNs → X.prog = prog → X.w = w → X.c.W = W → X.c.G = G → interactive X.c.env = false → Room X.A r → X.c.env.scope = scope → X.c.env.cells = cellsFrom (L + 1) scope.names [] → CellsAre (fun _ => none) (cellsFrom (L + 1) scope.names []) cells → (∀ p ∈ cells, X.c.B₀ p.1 = none) →
      Ex X B cells ((ps.zip args).map (fun p => (p.1, some p.2)) ++ rest.map fun x => (x, none)) body (FinK post))
    (hlen : ps.length = args.length := by rfl)
    (hco : scope.isCoroutine = false := by rfl) (hgen : scope.isGenerator = false := by rfl) (hk : scope.kind = .function := by rfl) :
    ∀ (E : Value → Shared → Prop) (Q : Value → Shared → Prop) (s : Shared), Room A (r + 1) → HLe W s.heap → B.on s.heap →
    (∀ v s' B', (∃ h tk, s' = { s with heap := h, toks := tk }) → HLe s.heap s'.heap → B.le B' → B'.on s'.heap → (∀ b o, B' b = some o → B b = some o ∨ s.heap.get? b = none) → post B' v → Q v s') →
    wpAny (model prog w) A (call (.ref f) args) Q E s := by
  intro E Q s R hw hb k
  obtain ⟨o, pm, cd, doc, ho, hdata, hcd⟩ := D.at_
  generalize hbs : ps.zip args = binds at hbind h
  have hps : binds.map (·.1) = ps := by rw [← hbs, List.map_fst_zip (by omega)]
  rw [← hps] at hnd hloc
  have nm : ((binds.map (fun p => (p.1, some p.2)) ++ rest.map fun x => (x, (none : Option Value))).map (·.1)) = binds.map (·.1) ++ rest := by simp [Function.comp_def]
  have hbl : ∀ p ∈ binds, scope.names.lookup p.1 = some .local := fun x hx => hloc _ (List.mem_append_left _ (List.mem_map.mpr ⟨x, hx, rfl⟩))
  refine wpAny_call (call_cellsN_ret (binds := binds) R.depth (hw _ _ ho) hdata (D.lim.keeps hw) (hcd.keeps hw) (hbind pm cd doc) (fun x hx => .inl (hbl x hx)) hcn (fun h₁ tk cells F N X => ?_) hco hgen hk)
  have hbl' : ∀ p ∈ binds, (envOfC name scope s.heap.objs.size f cd).kindOf p.1 = some .local := hbl
  rw [bindL_all _ _ hbl'] at F
  rw [bindC_all _ _ hbl'] at X
  generalize henv : envOfC name scope s.heap.objs.size f cd = env
  have e1 : env.scope = scope := by rw [← henv]; rfl
  have e2 : env.locals = s.heap.objs.size := by rw [← henv]; rfl
  have e3 : env.globals = mainGlobals := by rw [← henv]; rfl
  have e4 : env.builtins = builtinsNs := by rw [← henv]; rfl
  have e5 : interactive env = false := by rw [← henv]; unfold interactive; rw [show (envOfC name scope s.heap.objs.size f cd).scope.kind = .function from hk]; rfl
  have e6 : env.cells = cellsFrom (s.heap.objs.size + 1) scope.names [] := by rw [← henv]; rfl
  let c : Fx := ⟨env, W, s, B, G⟩
  have ok : c.Ok := ⟨by show env.scope.kind = _; rw [e1]; exact hk, fun p hp => ⟨by show env.scope.names.lookup p.1 = _; rw [e1]; exact (hG _ (List.mem_map.mpr ⟨p, hp, rfl⟩)).1, (hG _ (List.mem_map.mpr ⟨p, hp, rfl⟩)).2, fun M A Q E s hw h => loads e3 e4 (hGW p hp) hw h⟩, hw, hb⟩
  have nosz : ∀ B' : PH, B'.on s.heap → B' env.locals = none := fun B' hb' => by
    rw [e2]
    cases e : B' s.heap.objs.size with
    | none => rfl
    | some x => exact absurd (Heap.lt_size (hb' _ _ e)) (Nat.lt_irrefl _)
  have cm : ∀ {cs : List (Str × Addr)} {cells : List (Addr × Obj)} {cm : Str → Option Value}, CellsAre cm cs cells → cells.map (·.1) = cs.map (·.2) := fun X => by
    induction X with
    | nil => rfl
    | cons _ _ ih => simp only [List.map_cons, ih]
  have S : St c B cells (binds.map (fun p => (p.1, some p.2)) ++ rest.map fun x => (x, none)) { s with heap := h₁, toks := tk } := by
    refine ⟨ok, ⟨_, _, rfl⟩, ?_, ?_, ?_, F.keep, fun b o e => F.keep b o (hb b o e), PH.le.refl _, fun b o e => .inl e, nosz B hb, ?_, fun p hp => ?_, ?_⟩
    · rw [lk_init (hnd.sublist (List.sublist_append_left _ _))]
      show Heap.Ns h₁ env.locals _
      rw [e2]
      have := F.ns
      simp only [Option.or_none] at this
      exact this
    · rw [nm]; exact hnd
    · rw [nm]
      intro x hx
      show env.scope.names.lookup x = _
      rw [e1]; exact hloc x hx
    · show s.heap.get? env.locals = none
      rw [e2]
      cases e : s.heap.get? s.heap.objs.size with
      | none => rfl
      | some x => exact absurd (Heap.lt_size e) (Nat.lt_irrefl _)
    · have := N p hp
      refine ⟨this.1, by show p.1 ≠ env.locals; rw [e2]; exact this.2.1, ?_, this.2.2⟩
      cases e : B p.1 with
      | none => rfl
      | some x => rw [hb _ _ e] at this; cases this.2.2
    · rw [cm X]; exact hca _
  have Xr := h ⟨prog, w, A.deeper env, c⟩ s.heap.objs.size cells ⟨env, rfl⟩ e3 e4 rfl rfl rfl rfl e5 R.deeper e1 e6 X (fun p hp => (S.cur p hp).2.2.1)
  refine wpAny_mono (Xr.run _ S) (fun fl s' hf => ?_) fun _ _ x => x
  obtain ⟨B', mu, l, hB, S', hp⟩ := hf
  cases fl <;> exact k _ s' B' S'.up S'.old S'.ext S'.keep S'.fresh hp
/-- a def whose frame has cells -/
theorem fn_ofC {W : Heap} {f : Addr} {name : Str} {params : Arguments} {body : List Stmt} {scope : Scope} {args : List Value} {post : PH → Value → Prop} {r : Nat} {prog : Program} {w : World} {B : PH} (ps : List Str) (rest : List Str) (G : List (Str × Value))
    (D : IsDef W f name params body scope)
    (hbind : ∀ pm cd doc, bindArgs (docDef name params body scope pm cd doc) ⟨args, []⟩ = pure (ps.zip args))
    (hnd : (ps ++ rest).Nodup)
    (hloc : ∀ x ∈ ps ++ rest, scope.names.lookup x = some .local)
    (hG : ∀ x ∈ G.map (·.1), scope.names.lookup x = some .globalImplicit ∧ (x == ("__debug__" : Str)) = false) (hGW : ∀ p ∈ G, GlobAt W p.1 p.2)
    (hcn : ((cellsFrom 0 scope.names []).map (·.1)).Nodup) (hca : ∀ n, ((cellsFrom n scope.names []).map (·.2)).Nodup)
    (h : ∀ (X : Cx) (L : Addr) (cells : List (Addr × Obj)), X.prog = prog → X.w = w → X.c.W = W → X.c.G = G → interactive X.c.env = false → Room X.A r → X.c.env.scope = scope → X.c.env.cells = cellsFrom (L + 1) scope.names [] → CellsAre (fun _ => none) (cellsFrom (L + 1) scope.names []) cells → (∀ p ∈ cells, X.c.B₀ p.1 = none) →
      Ex X B cells ((ps.zip args).map (fun p => (p.1, some p.2)) ++ rest.map fun x => (x, none)) body (FinK post))
    (hlen : ps.length = args.length := by rfl)
    (hco : scope.isCoroutine = false := by rfl) (hgen : scope.isGenerator = false := by rfl) (hk : scope.kind = .function := by rfl) : Fn prog w W (r + 1) (.ref f) args B post :=
  fun _ => run_ofC ps rest G D hbind hnd hloc hG hGW hcn hca (fun X L cells _ _ _ => h X L cells) hlen hco hgen hk

section
variable {X : Cx} {B : PH} {mu : List (Addr × Obj)} {l : Locs} {rest : List Stmt} {K : Kont}
/-- a name in a cell that is no longer changed -/
theorem ev_cell {x : Str} {pos : Pos} {a : Addr} {o : Obj} {v : Value} (hk : X.c.env.kindOf x = some .cell) (hc : X.c.env.cells.lookup x = some a) (hB : B a = some o) (ho : o.data = .cell (some v)) (hd : (x == ("__debug__" : Str)) = false := by decide) :
    Ev X B mu l (.Name x pos) (fun u => u = v) :=
  .mk fun s Q S k => wpAny_Name (wpAny_loadName_cell S.ok.kind hk hc ⟨o, S.keep _ _ hB, ho⟩ (k v s rfl S)) hd
theorem r_storeC {prog : Program} {w : World} {A : Around} {E : Value → Shared → Prop} {c : Fx} {s : Shared} {x : Str} {a : Addr} {o : Obj} {v₀ : Option Value} {v : Value} {Q : Unit → Shared → Prop} (S : St c B ((a, o) :: mu) l s) (hk : c.env.kindOf x = some .cell) (hc : c.env.cells.lookup x = some a) (ho : o.data = .cell v₀)
    (h : ∀ o' s', o'.data = .cell (some v) → St c B ((a, o') :: mu) l s' → Q () s') : wpAny (model prog w) A (storeName c.env x v) Q E s :=
  wpAny_storeName_cell S.ok.kind hk hc ⟨o, (S.cur _ List.mem_cons_self).1, ho⟩ fun h' ⟨o', ho', hd'⟩ hs => h o' _ hd' (S.upd s.toks hs.extBut ho')

/-- no longer frozen -/
noncomputable def PH.del (B : PH) (a : Addr) : PH := fun b => if b = a then none else B b
theorem PH.del_ne {B : PH} {a b : Addr} (h : b ≠ a) : B.del a b = B b := by simp [PH.del, h]
theorem St.thaw {c : Fx} {s : Shared} {a : Addr} {o : Obj} (S : St c B mu l s) (hB : B a = some o) (h0 : c.B₀ a = none) : St c (B.del a) ((a, o) :: mu) l s := by
  have sub : ∀ b x, B.del a b = some x → b ≠ a ∧ B b = some x := fun b x e => by
    by_cases hb : b = a
    · simp [PH.del, hb] at e
    · exact ⟨hb, by rwa [PH.del_ne hb] at e⟩
  have nn : ∀ b, B b = none → B.del a b = none := fun b e => by unfold PH.del; split <;> first | rfl | exact e
  have ha : a ≠ c.env.locals := fun q => by rw [q, S.off] at hB; cases hB
  refine ⟨S.ok, S.up, S.ns, S.nd, S.kinds, S.old, fun b x e => S.keep b x (sub b x e).2, fun b x e => ?_, fun b x e => S.fresh b x (sub b x e).2, nn _ S.off, S.offL, fun p hp => ?_, ?_⟩
  · have hb : b ≠ a := fun q => by rw [q, h0] at e; cases e
    rw [PH.del_ne hb]; exact S.ext b x e
  · rcases List.mem_cons.mp hp with rfl | hp
    · refine ⟨S.keep _ _ hB, ha, by simp [PH.del], ?_⟩
      rcases S.fresh _ _ hB with g | g
      · rw [h0] at g; cases g
      · exact g
    · exact ⟨(S.cur p hp).1, (S.cur p hp).2.1, nn _ (S.cur p hp).2.2.1, (S.cur p hp).2.2.2⟩
  · rw [List.map_cons, List.nodup_cons]
    refine ⟨fun hm => ?_, S.mnd⟩
    obtain ⟨p, hp, q⟩ := List.mem_map.mp hm
    have := (S.cur p hp).2.2.1
    rw [q, hB] at this; cases this
theorem ex_perm {body : List Stmt} {mu' : List (Addr × Obj)} (hp : mu'.Perm mu) (h : Ex X B mu' l body K) : Ex X B mu l body K := .mk fun s S => h.run s (S.perm hp)
/-- while these statements run the object is as it is -/
theorem ex_hold {body : List Stmt} {a : Addr} {o : Obj} (K' : Kont) (h0 : X.c.B₀ a = none) (h : B.le (B.add a o) → Ex X (B.add a o) mu l body K') (hK : ∀ f B' mu' l', B.le (B'.del a) → B' a = some o → K' f B' mu' l' → K f (B'.del a) ((a, o) :: mu') l') : Ex X B ((a, o) :: mu) l body K := by
  refine .mk fun s S => ?_
  have hBa := (S.cur _ List.mem_cons_self).2.2.1
  obtain ⟨S', hb⟩ := S.freeze
  refine wpAny_mono ((h hb).run s S') (fun f s' ⟨B', mu', l', hB, S'', k⟩ => ?_) fun _ _ x => x
  have hBo := hB _ _ (PH.add_self B a o)
  have hle : B.le (B'.del a) := fun b x e => by
    have hne : b ≠ a := fun q => by rw [q, hBa] at e; cases e
    rw [PH.del_ne hne]; exact hB b x (hb b x e)
  exact ⟨B'.del a, (a, o) :: mu', l', hle, S''.thaw hBo h0, hK f B' mu' l' hle hBo k⟩
end

theorem closureFor_one {scope : Scope} {env : Env} {x : Str} {a : Addr} (pre : List (Str × NameKind)) (hn : scope.names = pre ++ [(x, .free)]) (hp : ∀ p ∈ pre, p.2 ≠ .free) (h : env.cells.lookup x = some a) : closureFor scope env = pure [(x, a)] := by
  have hc : cellOf env x = pure a := by unfold cellOf; rw [h]
  have key : ∀ (pre : List (Str × NameKind)), (∀ p ∈ pre, p.2 ≠ .free) → (forIn (pre ++ [(x, NameKind.free)]) ([] : List (Str × Addr)) fun p r => (if (p.2 == NameKind.free) = true then do let y ← cellOf env p.1; pure (ForInStep.yield ((p.1, y) :: r)) else pure (ForInStep.yield r) : Sem _)) = pure [(x, a)] := by
    intro pre
    induction pre with
    | nil => intro _; simp only [List.nil_append, List.forIn_cons, List.forIn_nil, beq_self_eq_true, if_true, hc]; rfl
    | cons p r ih =>
      intro hp
      have hb : (p.2 == NameKind.free) = false := by simpa using hp p List.mem_cons_self
      simp only [List.cons_append, List.forIn_cons, hb, Bool.false_eq_true, if_false]
      exact ih fun q hq => hp q (List.mem_cons_of_mem _ hq)
  have k2 := key pre hp
  rw [← hn] at k2
  simp only [closureFor]
  refine (congrArg (fun t => t >>= fun r => pure r) ?_).trans (?_ : (pure [(x, a)] >>= fun r => (pure r : Sem (List (Str × Addr)))) = pure [(x, a)])
  · exact k2
  · rfl
theorem cellOf_at {env : Env} {x : Str} {a : Addr} (h : env.cells.lookup x = some a) : cellOf env x = pure a := by unfold cellOf; rw [h]
end
section
section
variable {X : Cx} {B : PH} {mu : List (Addr × Obj)} {l : Locs} {rest : List Stmt} {K : Kont}

/-- a turn whose target is one name -/
theorem one_loc {x : Str} {l : Locs} (h : l.map (·.1) = [x]) : ∃ o, l = [(x, o)] := by
  cases l with
  | nil => cases h
  | cons p r =>
    obtain ⟨h1, h2⟩ := List.cons.inj h
    exact ⟨p.2, by rw [List.map_eq_nil_iff.mp h2, ← h1]⟩
theorem turn_name {prog : Program} {w : World} {A : Around} {c : Fx} {scope : Scope} {cl : List (Str × Addr)} {x : Str} {px : Pos} {G' : List (Str × Value)} {elt : Expr} {Inv : Nat → PH → List Value → Prop} {n : Nat} {P : Nat → PH → PH → Value → Prop}
    (h : ∀ (c' : Fx) i v B₃ B₄ us mu', c'.W = c.W → c'.G = G' → c'.env.cells = cl → (∀ x, c'.env.kindOf x = (relabel scope c.env).names.lookup x) → i < n → B.le B₃ → B₃.le B₄ → Inv i B₃ us → P i B₃ B₄ v →
      EvB ⟨prog, w, A, c'⟩ B₄ mu' [(x, some v)] elt (fun B₅ u => Inv (i + 1) B₅ (us ++ [u]))) : Turn prog w A c scope cl [x] G' (.Name x px) elt [] (fun i B _ us => Inv i B us) [] B n P := by
  intro c' i v B₃ B₄ mv₁ us l₁ its D n' s' hW hG hc hk hi hB hB' hI hP hl hm S
  obtain ⟨o, rfl⟩ := one_loc hl
  have hm' : mv₁ = [] := List.map_eq_nil_iff.mp hm
  subst hm'
  refine r_asgName S Put.here fun s₂ S₂ => wpAny_tests_nil ?_
  rw [if_pos rfl]
  exact (h c' i v B₃ B₄ us _ hW hG hc hk hi hB hB' hI hP).run s₂ _ S₂ fun u s₃ B₅ p S₃ hb => ⟨B₅, [], _, hb, rfl, rfl, S₃, p⟩

/-- [elt for x in range(e)] -/
theorem evb_compR {x : Str} {px p pos ps : Pos} {elt e : Expr} {scope : Scope} {cl : List (Str × Addr)} {G G' : List (Str × Value)} {b : Nat} (R : X.A.handled = none) (hG : X.c.G = G) (hg : Gk "range" (.type "range") G) (he : Ev X B mu l e (VI b)) (hb : b ≤ 100000)
    (hclos : closureFor scope X.c.env = pure cl) (hloc : scope.names.lookup x = some .local) (hG' : ∀ p ∈ G', (relabel scope X.c.env).names.lookup p.1 = some .globalImplicit ∧ Gl X.c p)
    (Inv : Nat → PH → List Value → Prop) (hmono : ∀ B B' i us, B.le B' → Inv i B us → Inv i B' us) (h0 : Inv 0 B [])
    (h : ∀ (c' : Fx) i tk B₃ us mu', c'.W = X.c.W → c'.G = G' → c'.env.cells = cl → (∀ x, c'.env.kindOf x = (relabel scope X.c.env).names.lookup x) → i < b → B.le B₃ → Inv i B₃ us →
      EvB ⟨X.prog, X.w, X.A, c'⟩ B₃ mu' [(x, some (.int (i : Nat) tk))] elt (fun B₅ u => Inv (i + 1) B₅ (us ++ [u])))
    (hs : starEach [e] X.c.env = [(false, eval e X.c.env)] := by rfl)
    (hcell : ∀ y ∈ scope.names, y.2 ≠ .cell := by decide) (hkind : scope.kind = .function := by rfl) (hnames : ∀ y ∈ scope.names, y.2 = .local → scope.names.lookup y.1 = some .local := by decide)
    (hf : ∀ x, foldedSetIterable (.Call (.Name "range" p) [e] [] pos) X.c.env x = pure x := by intro _; rfl) :
    EvB X B mu l (.ListComp elt [⟨.Name x px, .Call (.Name "range" p) [e] [] pos, [], 0⟩] scope ps) (fun B' v => ∃ r us k, v = .ref r ∧ B' r = some (listOf (List.toArray us) k) ∧ us.length ≤ 100000 ∧ Inv b B' us) := by
  refine .mk fun s Q S k => ?_
  obtain ⟨h1, h2⟩ := range_up (a := 0) (b := b) (by omega) (by omega) (by omega)
  have h3 : ((b : Int) - 0).toNat = b := by omega
  rw [h3] at h2
  refine r_comp (mv := []) (mu0 := mu) (l := l) [x] G' R hclos (by simp) (fun y hy => by rw [List.mem_singleton.mp hy]; exact hloc) hG' ?_ hcell hkind hnames hf
  refine ev_range1 hG hg he hs s _ S fun r s' t u v S' hr => ?_
  refine src_range (target := .Name x px) R (fun _ _ => rfl) S' hr h1 h2 fun it its H s₂ S₂ hH X' => ?_
  refine ⟨B, its, b, H, _, fun i B _ us => Inv i B us, S₂, hH, X', hb, h0, turn_name (P := fun i B B' v => B' = B ∧ ∃ tk, v = .int ((0 : Int) + i * 1) tk) ?_, ?_⟩
  · rintro c' i v B₃ B₄ us mu' hW hG hc hk hi hB - hI ⟨rfl, tk, rfl⟩
    rw [show (0 : Int) + (i : Int) * 1 = ((i : Nat) : Int) by omega]
    exact h c' i tk _ us mu' hW hG hc hk hi hB hI
  · intro B₃ mv₁ us D n' hB hm hI hu s' S₃
    have hm : mv₁ = [] := List.map_eq_nil_iff.mp hm
    subst hm
    obtain ⟨S₄, hle⟩ := S₃.freeze
    exact k _ _ _ ⟨D, us, n', rfl, PH.add_self _ _ _, by omega, hmono _ _ _ _ hle hI⟩ S₄ (hB.trans hle)
/-- [elt for x in e], e a frozen list -/
theorem evb_compL {x : Str} {px ps : Pos} {elt e : Expr} {scope : Scope} {cl : List (Str × Addr)} {G' : List (Str × Value)} {P : PH → List Value → Prop} (R : X.A.handled = none) (he : EvB X B mu l e (fun B' v => ∃ a vs n, v = .ref a ∧ B' a = some (listOf (List.toArray vs) n) ∧ vs.length ≤ 100000 ∧ P B' vs))
    (hclos : closureFor scope X.c.env = pure cl) (hloc : scope.names.lookup x = some .local) (hG' : ∀ p ∈ G', (relabel scope X.c.env).names.lookup p.1 = some .globalImplicit ∧ Gl X.c p)
    (Inv : List Value → Nat → PH → List Value → Prop) (hmono : ∀ vs B B' i us, B.le B' → Inv vs i B us → Inv vs i B' us) (h0 : ∀ B' vs, B.le B' → P B' vs → Inv vs 0 B' [])
    (h : ∀ (c' : Fx) B' vs i v B₃ us mu', B.le B' → P B' vs → c'.W = X.c.W → c'.G = G' → c'.env.cells = cl → (∀ x, c'.env.kindOf x = (relabel scope X.c.env).names.lookup x) → vs[i]? = some v → B'.le B₃ → Inv vs i B₃ us →
      EvB ⟨X.prog, X.w, X.A, c'⟩ B₃ mu' [(x, some v)] elt (fun B₅ u => Inv vs (i + 1) B₅ (us ++ [u])))
    (hcell : ∀ y ∈ scope.names, y.2 ≠ .cell := by decide) (hkind : scope.kind = .function := by rfl) (hnames : ∀ y ∈ scope.names, y.2 = .local → scope.names.lookup y.1 = some .local := by decide)
    (hf : ∀ x, foldedSetIterable e X.c.env x = pure x := by intro _; rfl) :
    EvB X B mu l (.ListComp elt [⟨.Name x px, e, [], 0⟩] scope ps) (fun B' v => ∃ r us k vs, v = .ref r ∧ B' r = some (listOf (List.toArray us) k) ∧ us.length ≤ 100000 ∧ Inv vs vs.length B' us ∧ ∃ B₀, B.le B₀ ∧ P B₀ vs ∧ B₀.le B') := by
  refine .mk fun s Q S k => ?_
  refine r_comp (mv := []) (mu0 := mu) (l := l) [x] G' R hclos (by simp) (fun y hy => by rw [List.mem_singleton.mp hy]; exact hloc) hG' ?_ hcell hkind hnames hf
  refine he.run s _ S fun v s' B' ⟨a, vs, n, hv, hl, hz, p⟩ S' hB => ?_
  subst hv
  refine src_list (target := .Name x px) R (fun _ _ => rfl) S' hl fun it its H s₂ S₂ hH X' => ?_
  refine ⟨B', its, vs.length, H, _, fun i B _ us => Inv vs i B us, S₂, hH, X', hz, h0 B' vs hB p, turn_name (P := fun i B B' v => B' = B ∧ vs[i]? = some v) ?_, ?_⟩
  · rintro c' i v B₃ B₄ us mu' hW hG hc hk hi hB₃ - hI ⟨rfl, hv⟩
    exact h c' B' vs i v _ us mu' hB p hW hG hc hk hv hB₃ hI
  · intro B₃ mv₁ us D n' hB₃ hm hI hu s' S₃
    have hm : mv₁ = [] := List.map_eq_nil_iff.mp hm
    subst hm
    obtain ⟨S₄, hle⟩ := S₃.freeze
    exact k _ _ _ ⟨D, us, n', vs, rfl, PH.add_self _ _ _, by omega, hmono _ _ _ _ _ hle hI, B', hB, p, hB₃.trans hle⟩ S₄ (hB.trans (hB₃.trans hle))
end
end
end
section
open PySem PySem.W PyProof.Rows PySem.Calls
open Builtin
set_option maxRecDepth 100000
section
section
variable {prog : Program} {w : World} {A : Around} {E : Value → Shared → Prop} {s : Shared}

theorem nextOf_tup_item {it t : Addr} {i : Nat} {items : Array Value} {x : Value} {Q : Value → Shared → Prop} (hit : s.heap.IsTupleIter it t i) (ht : s.heap.IsTuple t items) (hx : items[i]? = some x)
    (hQ : ∀ h', h'.IsTupleIter it t (i + 1) → Heap.SameBut it s.heap h' → Q x { s with heap := h' }) : wpAny (model prog w) A (Builtin.SmallTypes.nextOf (.ref it)) Q E s := by
  obtain ⟨o, ho, hc, hd⟩ := id hit
  obtain ⟨ol, hol, _, nl, hdl⟩ := ht
  unfold Builtin.SmallTypes.nextOf
  refine wpAny_bind (wpAny_callSpecial?_slot (name := Str.ofString "__next__") hit.typeIs PySem.F.slot_tuple_iterator_next
    (wpAny_call_entry PySem.F.slot_tuple_iterator_next hit.typeIs PySem.F.entry_tuple_iterator_next ?_ (PySem.F.args_tuple_iterator_next_1 _)))
  show wpAny _ _ (field (.ref it) 0 >>= _) _ _ s
  refine wpAny_bind (wpAny_field ho hd (x := .ref t) rfl ?_)
  show wpAny _ _ (if (Value.ref t == Value.none) = true then _ else _) _ _ s
  rw [if_neg (show ¬ ((Value.ref t == Value.none) = true) from Bool.false_ne_true)]
  show wpAny _ _ (field (.ref it) 1 >>= _) _ _ s
  refine wpAny_bind (wpAny_field ho hd (x := .int i 0) rfl ?_)
  show wpAny _ _ (seqItems? (.ref t) >>= _) _ _ s
  refine wpAny_bind (wpAny_seqItems hol hdl ?_)
  simp only [Int.toNat_natCast, hx]
  refine wpAny_bind (wpAny_setField ho hd (by simp) (wpAny_pure ⟨x, rfl, wpAny_pure (hQ _ ?_ (Heap.SameBut.update ..))⟩))
  exact ⟨_, Heap.get?_update_self _ ho (Obj.isFreed_of_fields (Obj.data_mapFields hd _)), (Obj.cls_mapFields ..).trans hc, by
    rw [Obj.data_mapFields hd]; simp [rawInt]⟩
theorem nextOf_tup_end {it t : Addr} {i : Nat} {items : Array Value} {Q : Value → Shared → Prop} (hh : A.handled = none) (hit : s.heap.IsTupleIter it t i) (ht : s.heap.IsTuple t items) (hx : items[i]? = none)
    (hE : ∀ h' e, Heap.ExtBut it s.heap h' → (∃ o, h'.get? e = some o ∧ o.cls = .type "StopIteration") → E (.ref e) { s with heap := h' }) : wpAny (model prog w) A (Builtin.SmallTypes.nextOf (.ref it)) Q E s := by
  obtain ⟨o, ho, hc, hd⟩ := id hit
  obtain ⟨ol, hol, _, nl, hdl⟩ := ht
  unfold Builtin.SmallTypes.nextOf
  refine wpAny_bind (wpAny_callSpecial?_slot (name := Str.ofString "__next__") hit.typeIs PySem.F.slot_tuple_iterator_next
    (wpAny_call_entry PySem.F.slot_tuple_iterator_next hit.typeIs PySem.F.entry_tuple_iterator_next ?_ (PySem.F.args_tuple_iterator_next_1 _)))
  show wpAny _ _ (field (.ref it) 0 >>= _) _ _ s
  refine wpAny_bind (wpAny_field ho hd (x := .ref t) rfl ?_)
  show wpAny _ _ (if (Value.ref t == Value.none) = true then _ else _) _ _ s
  rw [if_neg (show ¬ ((Value.ref t == Value.none) = true) from Bool.false_ne_true)]
  show wpAny _ _ (field (.ref it) 1 >>= _) _ _ s
  refine wpAny_bind (wpAny_field ho hd (x := .int i 0) rfl ?_)
  show wpAny _ _ (seqItems? (.ref t) >>= _) _ _ s
  refine wpAny_bind (wpAny_seqItems hol hdl ?_)
  simp only [Int.toNat_natCast, hx]
  refine wpAny_bind (wpAny_rule (wpAny_bind (wpAny_setField ho hd (by simp) ?_)))
  show wpAny _ _ (newExc (.type "StopIteration") [] >>= _) _ _ _
  refine wpAny_bind ?_
  simp only [newExc, newTuple]
  refine wpAny_bind (wpAny_newObj_type ?_ (by size_fits))
  refine wpAny_bind (m := firstArgMember _ _) (wpAny_of_eq (a := Value.none) (by first | rfl | (simp only [firstArgMember]; rfl)) ?_)
  refine wpAny_newObj_type ?_ (by size_fits)
  simp only [raiseNew]
  refine wpAny_bind (wpAny_handled ?_)
  first | rw [show A.in1.handled = none from hh] | rw [hh]
  refine wpAny_bind (wpAny_pure (wpAny_throw ?_))
  exact hE _ _ (((Heap.SameBut.update ..).extBut.push _).push _) ⟨_, Heap.get?_push_size _ rfl, rfl⟩
theorem drawsT (hh : A.handled = none) (it l : Addr) (hne : l ≠ it) (items : Array Value) :
    Draws prog w A it [it, l] items.size (fun i v => items[i]? = some v) (fun i h => h.IsTupleIter it l i ∧ h.IsTuple l items) where
  live := fun _ _ st => let ⟨o, ho, _⟩ := st.1; ⟨o, ho⟩
  frame := fun _ _ _ st hk => by
    obtain ⟨⟨o, ho, r⟩, o', ho', r'⟩ := st
    exact ⟨⟨o, hk it (by simp) o ho, r⟩, o', hk l (by simp) o' ho', r'⟩
  item := fun i s Q E hi st hQ => by
    refine nextOf_tup_item st.1 st.2 (x := items[i]) (by simp [hi]) fun h' hit' hs' => ?_
    obtain ⟨o', ho', r'⟩ := st.2
    exact hQ _ h' s.toks (by simp [hi]) ⟨hit', o', hs'.extBut _ _ hne ho', r'⟩ hs'
  done := fun s Q E st hE => nextOf_tup_end hh st.1 st.2 (by simp) hE

theorem meets_enumT (l : Addr) (items : Array Value) (n : Nat) (dct : Option Addr) (sl : Array (Option Value)) :
    Meets (Builtin.«enumerate.__new__» ⟨[.type "enumerate", .ref l], []⟩) (fun _ R s => s.heap.get? l = some { cls := .type "tuple", dict := dct, data := .seq items n, slots := sl } ∧
      R (.ok (.ret (.ref (s.heap.push { cls := .type "tuple_iterator", data := .fields #[.ref l, .int 0 0] }).objs.size)))
        { s with heap := (s.heap.push { cls := .type "tuple_iterator", data := .fields #[.ref l, .int 0 0] }).push { cls := .type "enumerate", data := .fields #[.none, .bool false, .ref s.heap.objs.size, rawInt 0, .none, .none] } }) :=
  .of_wp fun prog w A R s h => by
    obtain ⟨hp, g, d, tk, os⟩ := s; obtain ⟨hl, h⟩ := h
    have hsub := sub_enumerate
    have hL : Heap.IsTuple (Shared.heap ⟨hp, g, d, tk, os⟩) l items := ⟨_, hl, rfl, n, rfl⟩
    wp_walk using AutoSeq1.wpAny_loadPart' hl
    refine wpAny_stack_any fun st => wpAny_pure ?_
    split
    · rename_i c _ _ _ _ _
      cases (c == Value.type "enumerate")
      · wp_walk using AutoSeq1.wpAny_loadPart' hl, wpAny_pyIter_tuple hL
        exact ⟨_, rfl, h⟩
      · wp_walk using AutoSeq1.wpAny_loadPart' hl, wpAny_pyIter_tuple hL
        exact ⟨_, rfl, h⟩
    · wp_walk using AutoSeq1.wpAny_loadPart' hl, wpAny_pyIter_tuple hL
      exact ⟨_, rfl, h⟩
theorem call_enumT {l : Addr} {items : Array Value} {n : Nat} {dct : Option Addr} {sl : Array (Option Value)} {Q : Value → Shared → Prop} (hl : s.heap.get? l = some { cls := .type "tuple", dict := dct, data := .seq items n, slots := sl })
    (h : ∀ h', IsEnum h' (s.heap.objs.size + 1) s.heap.objs.size 0 .none → h'.IsTupleIter s.heap.objs.size l 0 → h'.objs.size = s.heap.objs.size + 2 →
      (∀ b o, s.heap.get? b = some o → h'.get? b = some o) → Q (.ref (s.heap.objs.size + 1)) { s with heap := h' }) :
    wpAny (model prog w) A (call (.type "enumerate") [.ref l]) Q E s := by
  refine callType_new PySem.F.called_enumerate (by decide) (PySem.F.typeCall_enumerate_1 _) (PySem.F.newCall_enumerate_1 _) (fun obj => PySem.F.args_object_init_2 obj _) PySem.F.entry_enumerate_new
    (meets_enumT l items n dct sl) ⟨hl, ?_⟩
  have hz : (s.heap.push { cls := .type "tuple_iterator", data := .fields #[.ref l, .int 0 0] }).objs.size = s.heap.objs.size + 1 := Heap.size_push ..
  show _ ∧ _
  rw [hz]
  have he : IsEnum ((s.heap.push { cls := .type "tuple_iterator", data := .fields #[.ref l, .int 0 0] }).push
      { cls := .type "enumerate", data := .fields #[.none, .bool false, .ref s.heap.objs.size, rawInt 0, .none, .none] }) (s.heap.objs.size + 1) s.heap.objs.size 0 .none := by
    have := Heap.get?_push_size (s.heap.push { cls := .type "tuple_iterator", data := .fields #[.ref l, .int 0 0] })
      (o := { cls := .type "enumerate", data := .fields #[.none, .bool false, .ref s.heap.objs.size, rawInt 0, .none, .none] }) rfl
    rw [hz] at this; exact this
  exact ⟨⟨_, he, rfl⟩, h _ he ⟨_, Heap.get?_push_of_some _ (Heap.get?_push_size _ rfl), rfl, rfl⟩ (by rw [Heap.size_push, hz]) fun b o x => Heap.get?_push_of_some _ (Heap.get?_push_of_some _ x)⟩

variable {c : Fx} {B : PH} {mu : List (Addr × Obj)} {l : Locs}
noncomputable abbrev tIter (a : Addr) (i : Nat) : Obj := { cls := .type "tuple_iterator", data := .fields #[.ref a, .int i 0] }
theorem src_tuple {target : Expr} {a : Addr} {vs : List Value} {Q : Value → Shared → Prop} (hh : A.handled = none) (ht : ∀ it v, letOwnedTupleGo target it v = pure ())
    (S : St c B mu l s) (hl : B a = some (tupOf vs))
    (h : ∀ it its H s₂, St c B (mu ++ its) l s₂ → H 0 its → Src prog w A target it vs.length H (fun i B B' v => B' = B ∧ vs[i]? = some v) B → Q it s₂) :
    wpAny (model prog w) A (pyIter (.ref a)) Q E s := by
  refine wpAny_pyIter_tuple (S.isTup hl) ?_
  generalize hI0 : s.heap.objs.size = I
  have S1 := S.allocM (o := tIter a 0) rfl
  rw [hI0] at S1
  refine h (.ref I) [(I, tIter a 0)] (fun i its => ∃ o : Obj, its = [(I, o)] ∧ o.cls = .type "tuple_iterator" ∧ o.data = .fields #[.ref a, .int i 0]) _ (S1.perm ((perm_front _ mu []).symm.trans (by simp))) ⟨_, rfl, rfl, rfl⟩ ⟨?_, ?_, ?_⟩
  · rintro c B₁ mu₁ l₁ its s₁ QQ E' _ S₁ ⟨o, rfl, hc, hd⟩ k'
    exact wpAny_pyIter_tupleiter ⟨o, (S₁.cur (I, o) (by simp)).1, hc, hd⟩ k'
  · rintro c i B₁ mu₁ l₁ its s₁ QQ hi hB S₁ ⟨o, rfl, hc, hd⟩ k'
    have hit : s₁.heap.IsTupleIter I a i := ⟨o, (S₁.cur (I, o) (by simp)).1, hc, hd⟩
    refine wpAny_pyNext_tuple_item hit (S₁.isTup (hB _ _ hl)) (x := vs[i]) (by simp [hi]) fun h' hit' hs' => ?_
    refine wpAny_of_eq (ht _ _) ?_
    obtain ⟨o', ho', hc', hd'⟩ := hit'
    exact k' _ B₁ [(I, o')] _ (PH.le.refl _) (S₁.swap s₁.toks (fun b x hb e => hs'.extBut b x (by simpa using hb) e) rfl (by simpa using ho')) ⟨o', rfl, hc', hd'⟩ ⟨rfl, by simp [hi]⟩
  · rintro c B₁ mu₁ l₁ its s₁ QQ hB S₁ ⟨o, rfl, hc, hd⟩ k'
    have hit : s₁.heap.IsTupleIter I a vs.length := ⟨o, (S₁.cur (I, o) (by simp)).1, hc, hd⟩
    refine wpAny_pyNext_tuple_end hh hit (S₁.isTup (hB _ _ hl)) (by simp) fun h' he => ⟨rfl, k' _ ?_⟩
    have S₂ : St c B₁ ((I, o) :: mu₁) l₁ s₁ := S₁.perm (by simpa using perm_front (I, o) mu₁ [])
    exact S₂.ext2 s₁.toks he
theorem src_enumT {elts : List Expr} {x1 : Nat} {tp : Pos} {a : Addr} {vs : List Value} {Q : Value → Shared → Prop} (hh : A.handled = none)
    (S : St c B mu l s) (hl : B a = some (tupOf vs))
    (h : ∀ it its H s₂, St c B (mu ++ its) l s₂ → H 0 its → Src prog w A (.Tuple elts x1 tp) it vs.length H (fun i _ B' v => ∃ x tk p, vs[i]? = some x ∧ v = .ref p ∧ B' p = some (tupOf [.int i tk, x])) B → Q it s₂) :
    wpAny (model prog w) A (call (.type "enumerate") [.ref a]) (fun x s₁ => wpAny (model prog w) A (pyIter x) Q E s₁) E s := by
  refine call_enumT (S.keep _ _ hl) fun h' he hit hsz hk => wpAny_pyIter_enum he ?_
  obtain ⟨oJ, hoJ, hcJ, hdJ⟩ := id hit
  have S1 := S.two hk he hoJ
  generalize s.heap.objs.size = J at he hit hsz hoJ S1
  refine h (.ref (J + 1)) [(J + 1, enObj J 0 .none), (J, oJ)] (fun i its => ∃ (o : Obj) (old : Value), its = [(J + 1, enObj J i old), (J, o)] ∧ o.cls = .type "tuple_iterator" ∧ o.data = .fields #[.ref a, .int i 0])
    _ S1 ⟨oJ, .none, rfl, hcJ, hdJ⟩ ⟨?_, ?_, ?_⟩
  · rintro c B₁ mu₁ l₁ its s₁ QQ E' _ S₁ ⟨o, old, rfl, hc, hd⟩ k'
    have hen : IsEnum s₁.heap (J + 1) J (0 : Nat) old := (S₁.cur (J + 1, enObj J (0 : Nat) old) (by simp)).1
    exact wpAny_pyIter_enum hen k'
  · rintro c i B₁ mu₁ l₁ its s₁ QQ hi hB S₁ ⟨o, old, rfl, hc, hd⟩ k'
    have hit : s₁.heap.IsTupleIter J a i := ⟨o, (S₁.cur (J, o) (by simp)).1, hc, hd⟩
    have hTT : s₁.heap.IsTuple a vs.toArray := S₁.isTup (hB _ _ hl)
    have neJ : a ≠ J := fun q => by
      have h1 := hB _ _ hl
      rw [q, (S₁.cur (J, o) (by simp)).2.2.1] at h1; cases h1
    have neJ1 : a ≠ J + 1 := fun q => by
      have h1 := hB _ _ hl
      rw [q, (S₁.cur (J + 1, enObj J i old) (by simp)).2.2.1] at h1; cases h1
    have hen : IsEnum s₁.heap (J + 1) J i old := (S₁.cur (J + 1, enObj J i old) (by simp)).1
    refine wpAny_pyNext_enum_itemD (drawsT (A := A.in1) hh J a neJ vs.toArray) hen ⟨hit, hTT⟩ (by simpa using hi) (Nat.succ_ne_self J) (by simp; exact neJ1.symm) fun x h' tk hx heo hst' htp hz' hk' => ?_
    obtain rfl : x = vs[i] := by simpa [hi] using hx.symm
    have hit' := hst'.1
    refine wpAny_letOwnedTupleGo_enum heo fun h₂ he₂ hs₂ => ?_
    obtain ⟨o', ho', hc', hd'⟩ := hit'
    have nP : s₁.heap.get? s₁.heap.objs.size = none := by
      cases e : s₁.heap.get? s₁.heap.objs.size with
      | none => rfl
      | some x => exact absurd (Heap.lt_size e) (Nat.lt_irrefl _)
    have hJP : J ≠ s₁.heap.objs.size := by
      obtain ⟨oo, hoo, _⟩ := hit
      exact Nat.ne_of_lt (Heap.lt_size hoo)
    have hIP : J + 1 ≠ s₁.heap.objs.size := Nat.ne_of_lt (Heap.lt_size hen)
    have S₂ := S₁.swap (its' := [(J + 1, enObj J (i + 1 : Nat) vs[i]), (J, o')]) (h' := h₂) (tk + 1)
      (fun b x hb e => by
        simp only [List.map_cons, List.map_nil, List.mem_cons, List.not_mem_nil, or_false, not_or] at hb
        exact hs₂.extBut b x hb.1 (hk' b x hb.1 hb.2 e)) rfl (fun p hp => by
        rcases List.mem_cons.mp hp with rfl | hp
        · have : ((i + 1 : Nat) : Int) = (i : Int) + 1 := by push_cast; rfl
          rw [this]; exact he₂
        · rw [List.mem_singleton.mp hp]
          exact hs₂.extBut J o' (Nat.succ_ne_self J).symm ho')
    have nB : ∀ (q : PH), q.on s₁.heap → q s₁.heap.objs.size = none := fun q hq => by
      cases e : q s₁.heap.objs.size with
      | none => rfl
      | some x => rw [hq _ _ e] at nP; cases nP
    have htp2 : h₂.get? s₁.heap.objs.size = some (tupOf [.int i tk, vs[i]]) := hs₂.extBut _ _ (fun q => hIP q.symm) htp
    have S₃ : St c (B₁.add s₁.heap.objs.size (tupOf [.int i tk, vs[i]])) (mu₁ ++ [(J + 1, enObj J (i + 1 : Nat) vs[i]), (J, o')]) l₁ { s₁ with heap := h₂, toks := tk + 1 } := by
      have nB₁ := nB B₁ S₁.keep
      refine ⟨S₂.ok, S₂.up, S₂.ns, S₂.nd, S₂.kinds, S₂.old, fun b x e => ?_, S₂.ext.trans (PH.add_le nB₁), fun b x e => ?_, ?_, S₂.offL, fun p hp => ?_, S₂.mnd⟩
      · by_cases hb : b = s₁.heap.objs.size
        · subst hb; rw [PH.add_self] at e; cases e; exact htp2
        · simp only [PH.add, if_neg hb] at e; exact S₂.keep b x e
      · by_cases hb : b = s₁.heap.objs.size
        · subst hb
          refine .inr ?_
          cases e' : c.s₀.heap.get? s₁.heap.objs.size with
          | none => rfl
          | some x => rw [S₁.old _ _ e'] at nP; cases nP
        · simp only [PH.add, if_neg hb] at e; exact S₂.fresh b x e
      · have : c.env.locals ≠ s₁.heap.objs.size := Nat.ne_of_lt S₁.ns.lt
        simp only [PH.add, if_neg this]; exact S₂.off
      · obtain ⟨g1, g2, g3, g4⟩ := S₂.cur p hp
        have : p.1 ≠ s₁.heap.objs.size := fun q => by
          rcases List.mem_append.mp hp with hp | hp
          · have := (S₁.cur p (List.mem_append_left _ hp)).1
            rw [q, nP] at this; cases this
          · rcases List.mem_cons.mp hp with rfl | hp
            · exact hIP q
            · rw [List.mem_singleton.mp hp] at q; exact hJP q
        exact ⟨g1, g2, by simp only [PH.add, if_neg this]; exact g3, g4⟩
    exact k' _ _ _ _ (PH.add_le (nB B₁ S₁.keep)) S₃ ⟨o', _, rfl, hc', hd'⟩ ⟨vs[i], tk, _, by simp [hi], rfl, PH.add_self _ _ _⟩
  · rintro c B₁ mu₁ l₁ its s₁ QQ hB S₁ ⟨o, old, rfl, hc, hd⟩ k'
    have hit : s₁.heap.IsTupleIter J a vs.length := ⟨o, (S₁.cur (J, o) (by simp)).1, hc, hd⟩
    have neJ : a ≠ J := fun q => by
      have h1 := hB _ _ hl
      rw [q, (S₁.cur (J, o) (by simp)).2.2.1] at h1; cases h1
    have hen : IsEnum s₁.heap (J + 1) J vs.length old := (S₁.cur (J + 1, enObj J vs.length old) (by simp)).1
    refine wpAny_pyNext_enum_endD (drawsT (A := A.in1) hh J a neJ vs.toArray) hen (by rw [List.size_toArray]; exact ⟨hit, S₁.isTup (hB _ _ hl)⟩) fun h' he => ⟨rfl, k' _ ?_⟩
    have S₂ : St c B₁ ((J, o) :: mu₁) l₁ s₁ := (S₁.drop (mu' := mu₁ ++ [(J, o)]) (List.Sublist.append (List.Sublist.refl _) (by simp))).perm (by simpa using perm_front (J, o) mu₁ [])
    exact S₂.ext2 s₁.toks he
end

section
variable {X : Cx} {B : PH} {mu : List (Addr × Obj)} {l : Locs}
/-- [elt for x in e], e a tuple -/
theorem evb_compT {x : Str} {px ps : Pos} {elt e : Expr} {scope : Scope} {cl : List (Str × Addr)} {G' : List (Str × Value)} {a : Addr} {vs : List Value} (R : X.A.handled = none) (he : Ev X B mu l e (VR a)) (hl : B a = some (tupOf vs)) (hz : vs.length ≤ 100000)
    (hclos : closureFor scope X.c.env = pure cl) (hloc : scope.names.lookup x = some .local) (hG' : ∀ p ∈ G', (relabel scope X.c.env).names.lookup p.1 = some .globalImplicit ∧ Gl X.c p)
    (Inv : Nat → PH → List Value → Prop) (hmono : ∀ B B' i us, B.le B' → Inv i B us → Inv i B' us) (h0 : Inv 0 B [])
    (h : ∀ (c' : Fx) i v B₃ us mu', c'.W = X.c.W → c'.G = G' → c'.env.cells = cl → (∀ x, c'.env.kindOf x = (relabel scope X.c.env).names.lookup x) → vs[i]? = some v → B.le B₃ → Inv i B₃ us →
      EvB ⟨X.prog, X.w, X.A, c'⟩ B₃ mu' [(x, some v)] elt (fun B₅ u => Inv (i + 1) B₅ (us ++ [u])))
    (hcell : ∀ y ∈ scope.names, y.2 ≠ .cell := by decide) (hkind : scope.kind = .function := by rfl) (hnames : ∀ y ∈ scope.names, y.2 = .local → scope.names.lookup y.1 = some .local := by decide)
    (hf : ∀ x, foldedSetIterable e X.c.env x = pure x := by intro _; rfl) :
    EvB X B mu l (.ListComp elt [⟨.Name x px, e, [], 0⟩] scope ps) (fun B' v => ∃ r us k, v = .ref r ∧ B' r = some (listOf (List.toArray us) k) ∧ us.length ≤ 100000 ∧ Inv vs.length B' us) := by
  refine .mk fun s Q S k => ?_
  refine r_comp (mv := []) (mu0 := mu) (l := l) [x] G' R hclos (by simp) (fun y hy => by rw [List.mem_singleton.mp hy]; exact hloc) hG' ?_ hcell hkind hnames hf
  refine he.run s _ S fun v s' hv S' => ?_
  subst hv
  refine src_tuple (target := .Name x px) R (fun _ _ => rfl) S' hl fun it its H s₂ S₂ hH X' => ?_
  refine ⟨B, its, vs.length, H, _, fun i B _ us => Inv i B us, S₂, hH, X', hz, h0, turn_name (P := fun i B B' v => B' = B ∧ vs[i]? = some v) ?_, ?_⟩
  · rintro c' i v B₃ B₄ us mu' hW hG hc hk hi hB₃ - hI ⟨rfl, hv⟩
    exact h c' i v _ us mu' hW hG hc hk hv hB₃ hI
  · intro B₃ mv₁ us D n' hB₃ hm hI hu s' S₃
    have hm : mv₁ = [] := List.map_eq_nil_iff.mp hm
    subst hm
    obtain ⟨S₄, hle⟩ := S₃.freeze
    exact k _ _ _ ⟨D, us, n', rfl, PH.add_self _ _ _, by omega, hmono _ _ _ _ hle hI⟩ S₄ (hB₃.trans hle)
end
end
end
section
open PySem PySem.W PyProof.Rows PySem.Calls
set_option maxRecDepth 100000
section
section
variable {X : Cx} {B : PH} {mu : List (Addr × Obj)} {l : Locs} {G : List (Str × Value)} {e : Expr} {p pos : Pos}
/-- sum(e), e a frozen list of ints -/
theorem ev_sum {a : Addr} {L : List Int} (hh : X.A.handled = none) (hG : X.c.G = G) (hv : Gk "sum" (.builtin "sum") G) (he : Ev X B mu l e (VR a)) (hl : IL B a L)
    (hs : starEach [e] X.c.env = [(false, eval e X.c.env)] := by rfl) : Ev X B mu l (.Call (.Name "sum" p) [e] [] pos) (VI L.sum) := by
  refine .mk fun s Q S k => ?_
  refine r_callB S hG hv (args_cons (he.run s _ S fun v s' hv S' => args_nil ?_) hs) hs
  subst hv
  obtain ⟨vs, n, hB, hi⟩ := hl
  obtain ⟨xs, hx⟩ := hi.allInts.items
  have hn := hi.numsOf
  rw [show vs = vs.toArray.toList from rfl, hx, nums_intItems] at hn
  refine sum_intListG hh (hx ▸ S'.isList hB) fun h' tk t' hk => ?_
  rw [preSum_eq, List.take_of_length_le (by simp), hn]
  exact k _ _ ⟨t', rfl⟩ (S'.heap tk hk)
/-- max(e), e a frozen list of ints: one of them -/
theorem evb_max {P : PH → List Int → Prop} (hh : X.A.handled = none) (hG : X.c.G = G) (hv : Gk "max" (.builtin "max") G) (he : EvB X B mu l e (fun B' v => ∃ a L, v = .ref a ∧ IL B' a L ∧ L ≠ [] ∧ P B' L))
    (hs : starEach [e] X.c.env = [(false, eval e X.c.env)] := by rfl) : EvB X B mu l (.Call (.Name "max" p) [e] [] pos) (fun B' v => ∃ L M, P B' L ∧ M ∈ L ∧ VI M v) := by
  refine .mk fun s Q S k => ?_
  refine r_callB S hG hv (args_cons (he.run s _ S fun v s' B' ⟨a, L, hv, hl, hne, hp⟩ S' hb => args_nil ?_) hs) hs
  subst hv
  obtain ⟨vs, n, hB, hi⟩ := hl
  obtain ⟨xs, hx⟩ := hi.allInts.items
  have hlen := hi.length
  have hxl : xs.size = vs.length := by
    have := congrArg Array.size hx
    simpa [intItems] using this.symm
  refine max_intList hh (hx ▸ S'.isList hB) (by rw [hxl, hlen]; exact List.length_pos_iff.mpr hne) fun v h' tk hget hk => ?_
  rw [← hx] at hget
  have hget' : vs[argBest (fun i j => decide (numAt xs i > numAt xs j)) (xs.size - 1)]? = some v := by simpa using hget
  obtain ⟨hj, _⟩ := List.getElem?_eq_some_iff.mp hget'
  obtain ⟨t, ht⟩ := hi.get _ (L[argBest (fun i j => decide (numAt xs i > numAt xs j)) (xs.size - 1)]'(by omega)) (List.getElem?_eq_getElem _)
  rw [ht] at hget'
  cases hget'
  exact k _ _ B' ⟨L, _, hp, List.getElem_mem _, t, rfl⟩ (S'.heap tk hk) hb
/-- sorted(e), few ints -/
theorem evb_sorted {P : PH → List Int → Prop} (hG : X.c.G = G) (hv : Gk "sorted" (.builtin "sorted") G) (he : EvB X B mu l e (fun B' v => ∃ a L, v = .ref a ∧ IL B' a L ∧ L.length < 64 ∧ P B' L))
    (hs : starEach [e] X.c.env = [(false, eval e X.c.env)] := by rfl) : EvB X B mu l (.Call (.Name "sorted" p) [e] [] pos) (fun B' v => ∃ r B₀ L L', P B₀ L ∧ B₀.le B' ∧ v = .ref r ∧ IL B' r L' ∧ L'.Perm L ∧ L'.Pairwise (· ≤ ·)) := by
  refine .mk fun s Q S k => ?_
  refine r_callB S hG hv (args_cons (he.run s _ S fun v s' B' ⟨a, L, hv, hl, hz, hp⟩ S' hb => args_nil ?_) hs) hs
  subst hv
  obtain ⟨vs, n, hB, hi⟩ := hl
  refine sorted_ints (S'.isList hB) hi (by rw [hi.length]; exact hz) fun out ns' h1 h2 h3 => ?_
  obtain ⟨e', he'⟩ := sortedAll_at s'.heap vs out
  have hnew : s'.heap.get? (s'.heap.objs.size + 1) = none := by
    cases e : s'.heap.get? (s'.heap.objs.size + 1) with
    | none => rfl
    | some x => exact absurd (Heap.lt_size e) (Nat.not_lt.mpr (Nat.le_succ _))
  obtain ⟨S2, hle⟩ := S'.addAt (h' := sortedAll s'.heap vs out) s'.toks (fun _ _ => sortedAll_old) hnew he'
  exact k _ _ _ ⟨_, B', L, ns', hp, hle, rfl, ⟨out.toList, e', PH.add_self _ _ _, h1⟩, h2, h3⟩ S2 (hb.trans hle)
/-- e + f, lists of ints -/
theorem evb_addL {f : Expr} {L M : List Int} (he : ∀ B', B.le B' → EvB X B' mu l e (fun B'' v => ∃ a, v = .ref a ∧ IL B'' a L)) (hf : ∀ B', B.le B' → EvB X B' mu l f (fun B'' v => ∃ a, v = .ref a ∧ IL B'' a M)) (hz : L.length + M.length ≤ 100000) :
    EvB X B mu l (.BinOp e .Add f pos) (fun B' v => ∃ a, v = .ref a ∧ IL B' a (L ++ M)) := by
  refine .mk fun s Q S k => wpAny_BinOp ((he B (PH.le.refl _)).run s _ S fun v s1 B1 ⟨a, hv, hl⟩ S1 hb1 => (hf B1 hb1).run s1 _ S1 fun u s2 B2 ⟨b, hu, hm⟩ S2 hb2 => ?_)
  subst hv hu
  obtain ⟨vs, n, hB, hi⟩ := hl.mono hb2
  obtain ⟨ws, n2, hB2, hj⟩ := hm
  have e : vs.toArray ++ ws.toArray = (vs ++ ws).toArray := by simp
  refine concat_meets ⟨_, S2.keep _ _ hB, rfl⟩ ⟨_, S2.keep _ _ hB2, rfl⟩ noFill_list_add seq_list_add PySem.F.slot_list_add PySem.F.entry_list_add (PySem.F.args_list_add_2 _ _) (list_addW a b vs.toArray ws.toArray n n2 none none #[] #[] (by rw [List.size_toArray, List.size_toArray, hi.length, hj.length, sizeLine_eq]; omega)) ⟨S2.keep _ _ hB, S2.keep _ _ hB2, ?_⟩
  rw [e]
  obtain ⟨S3, hle, _⟩ := S2.alloc (o := listOf (vs ++ ws).toArray 0) rfl
  exact k _ _ _ ⟨_, rfl, _, _, PH.add_self _ _ _, hi.append hj⟩ S3 ((hb1.trans hb2).trans hle)
/-- lists of ints beside each other -/
theorem tst_cmpL {op : CmpOp} {f : Expr} {L M : List Int} {r : Bool} (R : Room X.A 6) (he : EvB X B mu l e (fun B'' v => ∃ a, v = .ref a ∧ IL B'' a L)) (hf : ∀ B', B.le B' → EvB X B' mu l f (fun B'' v => ∃ a, v = .ref a ∧ IL B'' a M))
    (h : ∀ a b (vs us : List Value) s (Q : Value → Shared → Prop), s.heap.IsList a vs.toArray → IntsAre vs L → s.heap.IsList b us.toArray → IntsAre us M → Q (.bool r) s → wpAny (model X.prog X.w) X.A (compareOp op (.ref a) (.ref b)) Q NoE s) (hm : behindInMarks op f = false := by with_unfolding_all rfl) :
    Tst X B mu l (.Compare e [op] [f] pos) r := by
  refine .mk fun s whole Q hw S k => wpAny_isTrue_Compare1 (he.run s _ S fun v s1 B1 ⟨a, hv, hl⟩ S1 hb1 => (hf B1 hb1).run s1 _ S1 fun u s2 B2 ⟨b, hu, hm'⟩ S2 hb2 => ?_) hm
  subst hv hu
  obtain ⟨vs, n, hB, hi⟩ := hl.mono hb2
  obtain ⟨ws, n2, hB2, hj⟩ := hm'
  exact h a b vs ws s2 _ (S2.isList hB) hi (S2.isList hB2) hj (wpAny_truthy_bool (k s2 (S2.less (hb1.trans hb2) S.ext)))
theorem tst_eqL {f : Expr} {L M : List Int} (R : Room X.A 6) (he : EvB X B mu l e (fun B'' v => ∃ a, v = .ref a ∧ IL B'' a L)) (hf : ∀ B', B.le B' → EvB X B' mu l f (fun B'' v => ∃ a, v = .ref a ∧ IL B'' a M)) (hm : behindInMarks .Eq f = false := by with_unfolding_all rfl) :
    Tst X B mu l (.Compare e [.Eq] [f] pos) (decide (L = M)) := tst_cmpL R he hf (fun _ _ _ _ _ _ a b c d k => eq_ints a b c d (by have := R.u; omega) k) hm
theorem tst_neL {f : Expr} {L M : List Int} (R : Room X.A 6) (he : EvB X B mu l e (fun B'' v => ∃ a, v = .ref a ∧ IL B'' a L)) (hf : ∀ B', B.le B' → EvB X B' mu l f (fun B'' v => ∃ a, v = .ref a ∧ IL B'' a M)) (hm : behindInMarks .NotEq f = false := by with_unfolding_all rfl) :
    Tst X B mu l (.Compare e [.NotEq] [f] pos) (!decide (L = M)) := tst_cmpL R he hf (fun _ _ _ _ _ _ a b c d k => ne_ints a b c d (by have := R.u; omega) k) hm
/-- list(range(e, f)) -/
theorem evb_listR {f : Expr} {pr posr : Pos} {a b : Int} {n : Nat} (hh : X.A.handled = none) (hG : X.c.G = G) (hv : Gk "list" (.type "list") G) (hr : Gk "range" (.type "range") G) (he : Ev X B mu l e (VI a)) (hf : Ev X B mu l f (VI b))
    (hsmall : Builtin.Range.small a b 1 = true) (hn : Builtin.Range.rangeSize a b 1 = n) (hz : n ≤ 100000)
    (h1 : starEach [e, f] X.c.env = (false, eval e X.c.env) :: starEach [f] X.c.env := by rfl) (h2 : starEach [f] X.c.env = [(false, eval f X.c.env)] := by rfl)
    (hs : starEach [.Call (.Name "range" pr) [e, f] [] posr] X.c.env = [(false, eval (.Call (.Name "range" pr) [e, f] [] posr) X.c.env)] := by rfl) :
    EvB X B mu l (.Call (.Name "list" p) [.Call (.Name "range" pr) [e, f] [] posr] [] pos) (fun B' v => ∃ r, v = .ref r ∧ IL B' r ((List.range n).map fun i : Nat => a + i)) := by
  refine .mk fun s Q S k => ?_
  refine r_callT S hG hv (args_cons (ev_range2 hG hr he hf h1 h2 s _ S fun r s' t u v S' hrr => args_nil ?_) hs) hs
  refine call_list_range hh hrr hsmall hn (by omega) fun h' tk acc' c' hk hS' hacc => ?_
  have hnew : s'.heap.get? s'.heap.objs.size = none := new_none
  obtain ⟨S2, hle⟩ := S'.addAt (h' := h') (o := listOf acc'.toList.toArray c') tk hk hnew (by rw [Array.toArray_toList]; exact hS')
  refine k _ _ _ ⟨_, rfl, acc'.toList, c', PH.add_self _ _ _, ?_⟩ S2 hle
  have key : ∀ (m : Nat) (vs : List Value) (j : Nat), vs.length = m → (∀ i v, vs[i]? = some v → ∃ t, v = Value.int (a + ((j + i : Nat) : Int) * 1) t) → IntsAre vs ((List.range' j m).map fun i : Nat => a + i) := by
    intro m
    induction m with
    | zero => intro vs j hl _; rw [List.length_eq_zero_iff.mp hl]; exact .nil
    | succ m ih =>
      intro vs j hl hv
      cases vs with
      | nil => cases hl
      | cons v r =>
        obtain ⟨t, rfl⟩ := hv 0 v rfl
        rw [List.range'_succ, List.map_cons, Int.mul_one]
        exact .cons _ t (ih r (j + 1) (by simpa using hl) fun i v h => by
          obtain ⟨t, e⟩ := hv (i + 1) v h
          exact ⟨t, by rw [e, show j + (i + 1) = j + 1 + i by omega]⟩)
  rw [List.range_eq_range']
  refine key n acc'.toList 0 (by simpa using hacc.1) fun i v h => ?_
  obtain ⟨t, e⟩ := hacc.2 i v (by simpa using h)
  exact ⟨t, by rw [e, Nat.zero_add]⟩
end
end
end
open PySem PySem.W PyProof.Rows PySem.Calls
set_option maxRecDepth 100000
local macro_rules | `(tactic| walk_at "lk") => `(tactic| first | with_reducible exact Lk.here | (with_reducible apply Lk.there; walk_at "lk"))
local macro_rules | `(tactic| walk_at "gk") => `(tactic| first | with_reducible exact Gk.here | (with_reducible apply Gk.there; walk_at "gk"))
local macro_rules | `(tactic| walk_at "put") => `(tactic| first | with_reducible exact Put.here | (with_reducible apply Put.there; walk_at "put"))
local macro_rules | `(tactic| walk_at "num") => `(tactic| first | assumption | decide | omega)
local macro_rules | `(tactic| walk_at "ev") => `(tactic| first
  | (show Ev _ _ _ _ (Expr.Constant _ _ _) _; exact ev_int)
  | (show Ev _ _ _ _ (Expr.Name _ _) _; first | exact ev_nameI (by walk_at "lk") | exact ev_nameR (by walk_at "lk") | exact ev_nameB (by walk_at "lk"))
  | (show Ev _ _ _ _ (Expr.BinOp (Expr.Constant _ _ _) Operator.LShift _ _) _; exact ev_oneShl (by walk_at "ev") (by walk_at "num"))
  | (show Ev _ _ _ _ (Expr.BinOp _ Operator.BitAnd _ _) _; exact ev_maskN (by walk_at "ev") (by walk_at "ev"))
  | (show Ev _ _ _ _ (Expr.BinOp _ Operator.Add _ _) _; exact ev_add (by walk_at "ev") (by walk_at "ev"))
  | (show Ev _ _ _ _ (Expr.BinOp _ Operator.Sub _ _) _; exact ev_sub (by walk_at "ev") (by walk_at "ev"))
  | (show Ev _ _ _ _ (Expr.UnaryOp UnaryOp.USub _ _) _; exact ev_neg (by walk_at "ev"))
  | (show Ev _ _ _ _ (Expr.Call (Expr.Name "len" _) _ _ _) _; exact ev_lenN (by assumption) (by walk_at "gk") (by walk_at "ev") (by assumption) (by walk_at "num"))
  | assumption)
section
open PySem PySem.W PyProof.Rows PySem.Calls
set_option maxRecDepth 100000
set_option maxHeartbeats 400000
section
variable {prog : Program} {w : World} {mg : Str → Option Value} {W : Heap}
theorem normal_spec (Y : Wd mg W) {B : PH} {a : Addr} {L : List Nat} (hl : NL B a L) (hz : L.length ≤ 100000) :
    Fn prog w W 3 (.ref (adr mg "normal")) [.ref a] B (fun B' v => ∃ r, v = .ref r ∧ NL B' r (norm L)) := by
  refine fn_of ["a"] ["end"] [("len", .builtin "len")] (isDef Y 4 0 (by rfl) (by kernel_rfl)) (fun _ _ _ => rfl) (by decide) (by decide) (by decide) (gcons (g_len Y) gnil) ?_
  rintro X rfl rfl rfl hG - R
  simp only [List.zip_cons_cons, List.zip_nil_right, List.map_cons, List.map_nil, List.cons_append, List.nil_append]
  refine ex_abs fun K hK => ?_
  refine ex_asgI (by walk_at "ev") fun t => ⟨_, by walk_at "put", ?_⟩
  refine ex_while (fun n B' mu l => B' = B ∧ mu = [] ∧ ∃ t, l = ([("a", some (.ref a)), ("end", some (.int n t))] : Locs) ∧ n ≤ L.length ∧ ∀ j, n ≤ j → j < L.length → L.getD j 0 = 0) L.length
    ⟨rfl, rfl, t, rfl, Nat.le_refl _, fun j h1 h2 => absurd h2 (by omega)⟩ ?_
  rintro n _ _ _ - ⟨rfl, rfl, t, rfl, hn, hall⟩
  refine ⟨_, tst_and (tst_gt (by walk_at "ev") (by walk_at "ev")) (fun h => tst_and (tst_eq (ev_item (k := n - 1) (by walk_at "ev") hl (ev_vi (ev_sub (by walk_at "ev") ev_int) ?_) ?_ (by omega)) (by walk_at "ev")) fun _ => tst_and_nil), ?_, ?_⟩
  · have := of_decide_eq_true h; omega
  · have := of_decide_eq_true h; omega
  · intro hb J hJ
    simp only [Bool.and_eq_true, decide_eq_true_eq, Bool.and_true, beq_iff_eq] at hb
    refine ex_isub (by walk_at "lk") (by walk_at "ev") fun t => ⟨_, by walk_at "put", ?_⟩
    refine ex_nil (hJ (n - 1) _ _ _ (by omega) ⟨rfl, rfl, t, by rw [show ((n - 1 : Nat) : Int) = (n : Int) - 1 by omega], by omega, fun j j1 j2 => ?_⟩)
    by_cases hj : j = n - 1
    · subst hj; exact_mod_cast hb.2
    · exact hall j (by omega) j2
  · intro hb
    obtain ⟨vs, en, hlv, hi⟩ := id hl
    have hlen := hi.length
    refine ex_ret (evb_slice (lo := none) (hi := some (n : Int)) hlv (by simp at hlen; omega) (by walk_at "ev") part_none (part_int (by walk_at "ev"))) fun B' v _ ⟨r, hv, hr⟩ => hK _ _ _ _ ⟨r, hv, _, _, hr, ?_⟩
    have h3 : norm L = L.take n := norm_take L n hn hall (by
      by_cases h0 : n = 0
      · exact .inl h0
      · refine .inr fun h4 => ?_
        simp only [h4] at hb
        simp at hb; omega)
    have := slice_ints_uptoW hi (y := n) (by omega)
    rw [h3]
    simpa [List.map_take] using this

theorem compare_spec (Y : Wd mg W) {B : PH} {a b : Addr} {w' x y : Nat} (hw : 0 < w') (ha : NL B a (limbs w' x)) (hb : NL B b (limbs w' y)) (hx : x < 2 ^ 1000) (hy : y < 2 ^ 1000) :
    Fn prog w W 3 (.ref (adr mg "compare")) [.ref a, .ref b] B (fun _ v => VI (cmpI x y) v) := by
  have la := limbs_len hw hx
  have lb := limbs_len hw hy
  refine fn_of ["a", "b"] ["at"] [("len", .builtin "len"), ("range", .type "range")] (isDef Y 5 1 (by rfl) (by kernel_rfl)) (fun _ _ _ => rfl) (by decide) (by decide) (by decide) (gcons (g_len Y) (gcons (g_range Y) gnil)) ?_
  rintro X rfl rfl rfl hG - R
  simp only [List.zip_cons_cons, List.zip_nil_right, List.map_cons, List.map_nil, List.cons_append, List.nil_append]
  refine ex_abs fun K hK => ?_
  refine ex_if (tst_ne (by walk_at "ev") (by walk_at "ev")) (fun h => ?_) fun h => ?_
  · have h1 : (limbs w' x).length ≠ (limbs w' y).length := by
      intro e; rw [e] at h; simp at h
    refine ex_ret (ev_if (tst_lt (by walk_at "ev") (by walk_at "ev")) (fun h2 => ev_vi (a' := cmpI x y) (ev_neg ev_int) ?_) fun h2 => ev_vi ev_int ?_).up fun B' v _ hv => hK _ _ _ _ hv.2
    · have := limbs_len_lt hw (Int.ofNat_lt.mp (of_decide_eq_true h2))
      rw [cmpI, if_pos this]
    · have h3 := limbs_len_lt hw (x := y) (y := x) (by
        have := mt (Int.ofNat_lt.mpr) (of_decide_eq_false h2)
        omega)
      rw [cmpI, if_neg (Nat.not_lt.mpr (Nat.le_of_lt h3)), if_neg (Nat.ne_of_gt h3)]
  · have hlen : (limbs w' x).length = (limbs w' y).length := by
      have := h
      simp only [bne_eq_false_iff_eq] at this
      exact_mod_cast this
    refine ex_nil ?_
    refine ex_forDown (n := (limbs w' x).length) R.h (ev_range3 hG (by walk_at "gk") (ev_sub (by walk_at "ev") ev_int) (ev_neg ev_int) (ev_neg ev_int) (by decide) (by decide)) (by omega)
      (fun k B' mu l => B' = B ∧ mu = [] ∧ (∃ o, l = ([("a", some (.ref a)), ("b", some (.ref b)), ("at", o)] : Locs)) ∧ (limbs w' x).drop k = (limbs w' y).drop k)
      ⟨rfl, rfl, ⟨_, rfl⟩, by rw [List.drop_of_length_le (Nat.le_refl _), List.drop_of_length_le (Nat.le_of_eq hlen.symm)]⟩ ?_ ?_
    · rintro i tk _ _ _ its hi - ⟨rfl, rfl, ⟨o, rfl⟩, hd⟩ J hJ
      refine ⟨_, by walk_at "put", ?_⟩
      have hi' : i < (limbs w' y).length := by omega
      refine ex_if (tst_ne (ev_item (k := i) (by walk_at "ev") ha (by walk_at "ev") hi (by omega)) (ev_item (k := i) (by walk_at "ev") hb (by walk_at "ev") hi' (by omega))) (fun h1 => ?_) fun h1 => ex_nil (ex_nil ⟨[], rfl, hJ _ _ _ ⟨rfl, rfl, ⟨_, rfl⟩, ?_⟩⟩)
      · refine ex_ret (ev_if (tst_lt (ev_item (k := i) (by walk_at "ev") ha (by walk_at "ev") hi (by omega)) (ev_item (k := i) (by walk_at "ev") hb (by walk_at "ev") hi' (by omega))) (fun h2 => ev_vi (a' := cmpI x y) (ev_neg ev_int) ?_) fun h2 => ev_vi ev_int ?_).up fun B' v _ hv => hK _ _ _ _ hv.2
        · have := val_lt_at (limbs_small hw x) hi hi' hd (Int.ofNat_lt.mp (of_decide_eq_true h2))
          rw [val_limbs hw, val_limbs hw] at this
          rw [cmpI, if_pos this]
        · have h3 : (limbs w' y).getD i 0 < (limbs w' x).getD i 0 := by
            have h4 := mt (Int.ofNat_lt.mpr) (of_decide_eq_false h2)
            have h5 : (limbs w' x).getD i 0 ≠ (limbs w' y).getD i 0 := fun e => by rw [e] at h1; simp at h1
            omega
          have := val_lt_at (limbs_small hw y) hi' hi hd.symm h3
          rw [val_limbs hw, val_limbs hw] at this
          rw [cmpI, if_neg (Nat.not_lt.mpr (Nat.le_of_lt this)), if_neg (Nat.ne_of_gt this)]
      · have h2 : (limbs w' x).getD i 0 = (limbs w' y).getD i 0 := by
          have := h1
          simp only [bne_eq_false_iff_eq] at this
          exact_mod_cast this
        rw [drop_eq_cons _ hi, drop_eq_cons _ hi', h2, hd]
    · rintro _ _ _ - ⟨rfl, rfl, ⟨o, rfl⟩, hd⟩
      refine ex_ret ev_int.up fun B' v _ hv => hK _ _ _ _ ?_
      have : x = y := by
        have := congrArg (val w') hd
        rwa [List.drop_zero, List.drop_zero, val_limbs hw, val_limbs hw] at this
      subst this
      have h3 : cmpI x x = 0 := by rw [cmpI, if_neg (Nat.lt_irrefl _), if_pos rfl]
      show VI _ v
      rw [h3]; exact hv.2
end
end
section
open PySem PySem.W PyProof.Rows PySem.Calls
set_option maxRecDepth 100000
set_option maxHeartbeats 400000
section
variable {prog : Program} {w : World} {mg : Str → Option Value} {W : Heap}

/-- where both loops of add stand -/
inductive AddI (w' x y : Nat) (a b f : Addr) (tw tm : Tok) (B : PH) (i : Nat) : PH → List (Addr × Obj) → Locs → Prop
  | mk (vs : List Value) (n : Nat) (F : List Nat) (c : Nat) (t : Tok) (o : Option Value) : IntsAre vs (znat F) → F.length = i → Small w' F → c ≤ 1 → val w' F + 2 ^ (w' * i) * c = val w' ((limbs w' x).take i) + val w' ((limbs w' y).take i) →
    AddI w' x y a b f tw tm B i B [(f, listOf (List.toArray vs) n)] [("a", some (.ref a)), ("b", some (.ref b)), ("w", some (.int w' tw)), ("found", some (.ref f)), ("carry", some (.int c t)), ("mask", some (.int ((1 : Int) * 2 ^ (w' : Int).toNat - 1) tm)), ("at", o)]
/-- the two numbers of add, the longer one first -/
inductive AddJ (w' x y : Nat) (tw : Tok) (B : PH) : PH → List (Addr × Obj) → Locs → Prop
  | mk (a b : Addr) (x' y' : Nat) : NL B a (limbs w' x') → NL B b (limbs w' y') → (limbs w' y').length ≤ (limbs w' x').length → x' + y' = x + y → x' < 2 ^ 1000 → y' < 2 ^ 1000 →
    AddJ w' x y tw B B [] [("a", some (.ref a)), ("b", some (.ref b)), ("w", some (.int w' tw)), ("found", none), ("carry", none), ("mask", none), ("at", none)]
theorem AddI.step {w' x y i c d : Nat} {F : List Nat} (hw : 0 < w') (hF : F.length = i) (hs : Small w' F) (hc : c ≤ 1) (he : val w' F + 2 ^ (w' * i) * c = val w' ((limbs w' x).take i) + val w' ((limbs w' y).take i))
    (hd : d = (limbs w' x).getD i 0 + (limbs w' y).getD i 0) :
    (F ++ [(c + d) % 2 ^ w']).length = i + 1 ∧ Small w' (F ++ [(c + d) % 2 ^ w']) ∧ (c + d) / 2 ^ w' ≤ 1 ∧
      val w' (F ++ [(c + d) % 2 ^ w']) + 2 ^ (w' * (i + 1)) * ((c + d) / 2 ^ w') = val w' ((limbs w' x).take (i + 1)) + val w' ((limbs w' y).take (i + 1)) := by
  have hp := Nat.two_pow_pos w'
  refine ⟨by simp [hF], small_snoc hs (Nat.mod_lt _ hp), ?_, ?_⟩
  · have h1 := getD_small (limbs_small hw x) i
    have h2 := getD_small (limbs_small hw y) i
    have : (c + d) < 2 * 2 ^ w' := by omega
    have := Nat.div_lt_of_lt_mul (n := 2 ^ w') (k := 2) (m := c + d) (by omega)
    omega
  · rw [val_snoc, hF, carry_step he, val_take_step, val_take_step, hd, Nat.mul_add]
    omega

theorem add_spec (Y : Wd mg W) {B : PH} {a b : Addr} {w' x y : Nat} {tw : Tok} (hw : 0 < w') (hw2 : w' ≤ 60) (ha : NL B a (limbs w' x)) (hb : NL B b (limbs w' y)) (hx : x < 2 ^ 1000) (hy : y < 2 ^ 1000) :
    Fn prog w W 3 (.ref (adr mg "add")) [.ref a, .ref b, .int w' tw] B (fun B' v => ∃ r, v = .ref r ∧ NL B' r (limbs w' (x + y))) := by
  have la := limbs_len hw hx
  have lb := limbs_len hw hy
  refine fn_of ["a", "b", "w"] ["found", "carry", "mask", "at"] [("len", .builtin "len"), ("range", .type "range")] (isDef Y 6 2 (by rfl) (by kernel_rfl)) (fun _ _ _ => rfl) (by decide) (by decide) (by decide) (gcons (g_len Y) (gcons (g_range Y) gnil)) ?_
  rintro X rfl rfl rfl hG hi R
  simp only [List.zip_cons_cons, List.zip_nil_right, List.map_cons, List.map_nil, List.cons_append, List.nil_append]
  refine ex_abs fun K hK => ?_
  refine ex_ifJ (AddJ w' x y tw B) (tst_lt (by walk_at "ev") (by walk_at "ev")) (fun h => ?_) (fun h => ?_) ?_
  · refine ex_swap2m R.h (Evs.m (evs2 (by walk_at "ev") (by walk_at "ev"))) ?_
    rintro _ _ _ - ⟨rfl, rfl, _, _, rfl, rfl, rfl⟩
    refine ⟨_, _, _, _, rfl, by walk_at "put", by walk_at "put", ex_nil ⟨rfl, b, a, y, x, hb, ha, ?_, Nat.add_comm _ _, hy, hx⟩⟩
    have := of_decide_eq_true h; omega
  · refine ex_nil ⟨rfl, a, b, x, y, ha, hb, ?_, rfl, hx, hy⟩
    have := of_decide_eq_false h; omega
  clear ha hb la lb
  rintro B₁ _ _ - ⟨a, b, x', y', ha, hb, hle, hxy, hx', hy'⟩
  have la := limbs_len hw hx'
  have lb := limbs_len hw hy'
  refine ex_new3 R.h evm_nil (fun _ => ev_int) (fun _ => ev_sub (by walk_at "ev") ev_int) ?_
  rintro f _ n tc tm rfl
  refine ⟨_, _, _, by walk_at "put", by walk_at "put", by walk_at "put", ?_⟩
  refine ex_forUp (a := 0) (b := (limbs w' y').length) R.h (ev_range1 hG (by walk_at "gk") (by walk_at "ev")) (Nat.zero_le _) (by omega)
    (AddI w' x' y' a b f tw tm B) ⟨[], n, [], 0, tc, none, .nil, rfl, (fun _ h => nomatch h), Nat.zero_le _, by simp [val]⟩ ?_ ?_
  · rintro i tk B₁ _ _ its h0 hlt - ⟨vs, n, F, c, t, o, hI, hF, hs, hc, he⟩ J hJ
    refine ⟨_, by walk_at "put", ?_⟩
    refine ex_iaddN (by walk_at "lk") (ev_addN (ev_item (by walk_at "ev") ha (by walk_at "ev") (by omega) (by omega)) (ev_item (by walk_at "ev") hb (by walk_at "ev") (by omega) (by omega))) fun t => ⟨_, by walk_at "put", ?_⟩
    refine ex_appN hI hi (by walk_at "lk") (ev_maskN (ev_nameI (by walk_at "lk")) (ev_nameI (by walk_at "lk"))) (by omega) fun vs' n' hI' => ?_
    refine ex_ishrN (by walk_at "lk") (by walk_at "ev") fun t => ⟨_, by walk_at "put", ?_⟩
    obtain ⟨g1, g2, g3, g4⟩ := AddI.step hw hF hs hc he rfl
    exact ex_nil ⟨[_], rfl, hJ _ _ _ ⟨vs', n', _, _, t, _, hI', g1, g2, g3, g4⟩⟩
  rintro B₁ _ _ - ⟨vs, n, F, c, t, o, hI, hF, hs, hc, he⟩
  refine ex_forUp (a := (limbs w' y').length) (b := (limbs w' x').length) R.h (ev_range2 hG (by walk_at "gk") (by walk_at "ev") (by walk_at "ev")) hle (by omega)
    (AddI w' x' y' a b f tw tm B) ⟨vs, n, F, c, t, o, hI, hF, hs, hc, he⟩ ?_ ?_
  · clear hI hF hs hc he
    rintro i tk B₁ _ _ its h0 hlt - ⟨vs, n, F, c, t, o, hI, hF, hs, hc, he⟩ J hJ
    refine ⟨_, by walk_at "put", ?_⟩
    refine ex_iaddN (by walk_at "lk") (ev_item (by walk_at "ev") ha (by walk_at "ev") (by omega) (by omega)) fun t => ⟨_, by walk_at "put", ?_⟩
    refine ex_appN hI hi (by walk_at "lk") (by walk_at "ev") (by omega) fun vs' n' hI' => ?_
    refine ex_ishrN (by walk_at "lk") (by walk_at "ev") fun t => ⟨_, by walk_at "put", ?_⟩
    obtain ⟨g1, g2, g3, g4⟩ := AddI.step (d := (limbs w' x').getD i 0) hw hF hs hc he (by rw [getD_out (limbs w' y') h0]; rfl)
    exact ex_nil ⟨[_], rfl, hJ _ _ _ ⟨vs', n', _, _, t, _, hI', g1, g2, g3, g4⟩⟩
  clear hI hF hs hc he
  rintro B₁ _ _ - ⟨vs, n, F, c, t, o, hI, hF, hs, hc, he⟩
  rw [List.take_of_length_le (Nat.le_refl _), List.take_of_length_le hle, val_limbs hw, val_limbs hw, hxy] at he
  refine ex_ifJ (FoundJ f (limbs w' (x + y)) B) (tst_gt (by walk_at "ev") (by walk_at "ev")) (fun h => ?_) (fun h => ?_) ?_
  · refine ex_appN hI hi (by walk_at "lk") (by walk_at "ev") (by omega) fun vs' n' hI' => ex_nil ⟨rfl, vs', n', _, _, by walk_at "lk", hI', ?_⟩
    have h1 : c = 1 := by have := of_decide_eq_true h; omega
    subst h1
    have h2 : val w' (F ++ [1]) = x + y := by rw [val_snoc, hF]; exact he
    rw [← h2]
    refine (limbs_of hw _ (small_snoc hs (Nat.one_lt_two_pow (by omega))) (.inr ?_)).symm
    rw [h2, ← he, List.length_append, hF]
    simp
  · refine ex_nil ⟨rfl, vs, n, F, _, by walk_at "lk", hI, ?_⟩
    have h1 : c = 0 := by have := of_decide_eq_false h; omega
    subst h1
    simp only [Nat.mul_zero, Nat.add_zero] at he
    rw [← he]
    refine (limbs_of hw _ hs ?_).symm
    rcases limbs_top hw x' with ht | ht
    · refine .inl (List.eq_nil_of_length_eq_zero ?_); rw [hF, ht]; rfl
    · refine .inr ?_; rw [he, hF]; rw [val_limbs hw] at ht; omega
  · rintro _ _ _ - ⟨vs, n, F, l', hl, hI, rfl⟩
    refine ex_freeze fun hb => ex_ret (ev_nameR hl).up fun B' v _ ⟨hB, hv⟩ => hK _ _ _ _ ?_
    subst hB
    exact ⟨f, hv, vs, n, PH.add_self _ _ _, hI⟩
end
end
section
open PySem PySem.W PyProof.Rows PySem.Calls
set_option maxRecDepth 100000
set_option maxHeartbeats 400000
section
variable {prog : Program} {w : World} {mg : Str → Option Value} {W : Heap}

inductive LimbI (w' x c0 : Nat) (a f : Addr) (tw tm : Tok) (B : PH) (i : Nat) : PH → List (Addr × Obj) → Locs → Prop
  | mk (vs : List Value) (n : Nat) (F : List Nat) (c : Nat) (t : Tok) (o : Option Value) : IntsAre vs (znat F) → F.length = i → Small w' F → c < 2 ^ w' → val w' F + 2 ^ (w' * i) * c = val w' ((limbs w' x).take i) + c0 →
    LimbI w' x c0 a f tw tm B i B [(f, listOf (List.toArray vs) n)] [("a", some (.ref a)), ("limb", some (.int c t)), ("w", some (.int w' tw)), ("found", some (.ref f)), ("mask", some (.int ((1 : Int) * 2 ^ (w' : Int).toNat - 1) tm)), ("one", o)]
theorem add_limb_spec (Y : Wd mg W) {B : PH} {a : Addr} {w' x c0 : Nat} {tc tw : Tok} (hw : 0 < w') (hw2 : w' ≤ 60) (ha : NL B a (limbs w' x)) (hx : x < 2 ^ 1000) (hc0 : c0 < 2 ^ w') :
    Fn prog w W 3 (.ref (adr mg "add_limb")) [.ref a, .int c0 tc, .int w' tw] B (fun B' v => ∃ r, v = .ref r ∧ NL B' r (limbs w' (x + c0))) := by
  have la := limbs_len hw hx
  have hp := Nat.two_pow_pos w'
  refine fn_of ["a", "limb", "w"] ["found", "mask", "one"] [] (isDef Y 8 4 (by rfl) (by kernel_rfl)) (fun _ _ _ => rfl) (by decide) (by decide) (by decide) gnil ?_
  rintro X rfl rfl rfl hG hi R
  simp only [List.zip_cons_cons, List.zip_nil_right, List.map_cons, List.map_nil, List.cons_append, List.nil_append]
  refine ex_abs fun K hK => ?_
  refine ex_new2 R.h evm_nil (fun _ => ev_sub (by walk_at "ev") ev_int) ?_
  rintro f _ n tm rfl
  refine ⟨_, _, by walk_at "put", by walk_at "put", ?_⟩
  refine ex_forN R.h (by walk_at "ev") ha (LimbI w' x c0 a f tw tm B)
    ⟨[], n, [], c0, tc, none, .nil, rfl, (fun _ h => nomatch h), hc0, by simp [val]⟩ ?_ ?_
  · rintro i tk B₁ _ _ its hlt - ⟨vs, n, F, c, t, o, hI, hF, hs, hc, he⟩ J hJ
    refine ⟨_, by walk_at "put", ?_⟩
    refine ex_iaddN (by walk_at "lk") (by walk_at "ev") fun t => ⟨_, by walk_at "put", ?_⟩
    refine ex_appN hI hi (by walk_at "lk") (by walk_at "ev") (by omega) fun vs' n' hI' => ?_
    refine ex_ishrN (by walk_at "lk") (by walk_at "ev") fun t => ⟨_, by walk_at "put", ?_⟩
    refine ex_nil ⟨[_], rfl, hJ _ _ _ ⟨vs', n', _, _, t, _, hI', by simp [hF], small_snoc hs (Nat.mod_lt _ hp), ?_, ?_⟩⟩
    · have h1 := getD_small (limbs_small hw x) i
      have := Nat.div_lt_of_lt_mul (n := 2 ^ w') (k := 2) (m := c + (limbs w' x).getD i 0) (by omega)
      have : 2 ≤ 2 ^ w' := Nat.one_lt_two_pow (by omega)
      omega
    · rw [val_snoc, hF, carry_step he, val_take_step]
      omega
  rintro B₁ _ _ - ⟨vs, n, F, c, t, o, hI, hF, hs, hc, he⟩
  rw [List.take_of_length_le (Nat.le_refl _), val_limbs hw] at he
  refine ex_ifJ (FoundJ f (limbs w' (x + c0)) B) (tst_gt (by walk_at "ev") (by walk_at "ev")) (fun h => ?_) (fun h => ?_) ?_
  · refine ex_appN hI hi (by walk_at "lk") (by walk_at "ev") (by omega) fun vs' n' hI' => ex_nil ⟨rfl, vs', n', _, _, by walk_at "lk", hI', ?_⟩
    have h1 : 1 ≤ c := by have := of_decide_eq_true h; omega
    have h2 : val w' (F ++ [c]) = x + c0 := by rw [val_snoc, hF]; exact he
    rw [← h2]
    refine (limbs_of hw _ (small_snoc hs hc) (.inr ?_)).symm
    rw [h2, ← he, List.length_append, hF]
    have := Nat.mul_le_mul_left (2 ^ (w' * (limbs w' x).length)) h1
    simp
    omega
  · refine ex_nil ⟨rfl, vs, n, F, _, by walk_at "lk", hI, ?_⟩
    have h1 : c = 0 := by have := of_decide_eq_false h; omega
    subst h1
    simp only [Nat.mul_zero, Nat.add_zero] at he
    rw [← he]
    refine (limbs_of hw _ hs ?_).symm
    rcases limbs_top hw x with ht | ht
    · refine .inl (List.eq_nil_of_length_eq_zero ?_); rw [hF, ht]; rfl
    · refine .inr ?_; rw [he, hF]; rw [val_limbs hw] at ht; omega
  · rintro _ _ _ - ⟨vs, n, F, l', hl, hI, rfl⟩
    refine ex_freeze fun hb => ex_ret (ev_nameR hl).up fun B' v _ ⟨hB, hv⟩ => hK _ _ _ _ ?_
    subst hB
    exact ⟨f, hv, vs, n, PH.add_self _ _ _, hI⟩

theorem cmpI_lt {x y : Nat} (h : y ≤ x) : ¬ cmpI x y < 0 := by
  unfold cmpI
  rw [if_neg (by omega)]
  split <;> decide
theorem cmpI_lt' {x y : Nat} : cmpI x y < 0 ↔ x < y := by
  unfold cmpI
  split
  · simp_all
  · split <;> simp_all
theorem limbs_len_le {w' x y : Nat} (hw : 0 < w') (h : y ≤ x) : (limbs w' y).length ≤ (limbs w' x).length :=
  Nat.not_lt.mp fun h' => absurd (limbs_len_lt hw h') (by omega)
theorem sub_step {w' x y i br : Nat} {F : List Nat} {d : Nat} {br' : Nat} (hF : F.length = i) (he : val w' F + val w' ((limbs w' y).take i) = val w' ((limbs w' x).take i) + 2 ^ (w' * i) * br)
    (hd : d + (limbs w' y).getD i 0 + br = (limbs w' x).getD i 0 + 2 ^ w' * br') :
    val w' (F ++ [d]) + val w' ((limbs w' y).take (i + 1)) = val w' ((limbs w' x).take (i + 1)) + 2 ^ (w' * (i + 1)) * br' := by
  rw [val_snoc, hF, val_take_step, val_take_step, Nat.mul_succ, Nat.pow_add]
  have h1 : 2 ^ (w' * i) * (d + (limbs w' y).getD i 0 + br) = 2 ^ (w' * i) * ((limbs w' x).getD i 0 + 2 ^ w' * br') := by rw [hd]
  rw [Nat.mul_add, Nat.mul_add, Nat.mul_add, ← Nat.mul_assoc] at h1
  omega
inductive SubI (w' x y : Nat) (a b f : Addr) (tw tm : Tok) (B : PH) (i : Nat) : PH → List (Addr × Obj) → Locs → Prop
  | mk (vs : List Value) (n : Nat) (F : List Nat) (br : Nat) (t : Tok) (o o' : Option Value) : IntsAre vs (znat F) → F.length = i → Small w' F → br ≤ 1 → val w' F + val w' ((limbs w' y).take i) = val w' ((limbs w' x).take i) + 2 ^ (w' * i) * br →
    SubI w' x y a b f tw tm B i B [(f, listOf (List.toArray vs) n)] [("a", some (.ref a)), ("b", some (.ref b)), ("w", some (.int w' tw)), ("found", some (.ref f)), ("borrow", some (.int (br : Nat) t)), ("base", some (.int ((1 : Int) * 2 ^ (w' : Int).toNat) tm)), ("at", o), ("limb", o')]
theorem sub_spec (Y : Wd mg W) {B : PH} {a b : Addr} {w' x y : Nat} {tw : Tok} (hw : 0 < w') (hw2 : w' ≤ 60) (ha : NL B a (limbs w' x)) (hb : NL B b (limbs w' y)) (hx : x < 2 ^ 1000) (hxy : y ≤ x) :
    Fn prog w W 4 (.ref (adr mg "sub")) [.ref a, .ref b, .int w' tw] B (fun B' v => ∃ r, v = .ref r ∧ NL B' r (limbs w' (x - y))) := by
  have hy : y < 2 ^ 1000 := Nat.lt_of_le_of_lt hxy hx
  have la := limbs_len hw hx
  have lb := limbs_len hw hy
  have hle := limbs_len_le hw hxy
  refine fn_of ["a", "b", "w"] ["found", "borrow", "base", "at", "limb"] [("len", .builtin "len"), ("range", .type "range"), ("compare", .ref (adr mg "compare")), ("normal", .ref (adr mg "normal"))] (isDef Y 7 3 (by rfl) (by kernel_rfl)) (fun _ _ _ => rfl) (by decide) (by decide) (by simp only [List.map_cons, List.map_nil]; decide)
    (gcons (g_len Y) (gcons (g_range Y) (gcons (f_compare Y).1 (gcons (f_normal Y).1 gnil)))) ?_
  rintro X rfl rfl rfl hG hi R
  simp only [List.zip_cons_cons, List.zip_nil_right, List.map_cons, List.map_nil, List.cons_append, List.nil_append]
  refine ex_abs fun K hK => ?_
  refine ex_if (b := false) (tst_of (tst_lt (ev_call (VI (cmpI x y)) (n := 3) R hG (by walk_at "gk") (f_compare Y).2 (evs2 (ev_nameR (by walk_at "lk")) (ev_nameR (by walk_at "lk"))) ?_) ev_int) ?_) (fun h => nomatch h) fun _ => ex_nil ?_
  · rintro _ _ - ⟨rfl, _, _, rfl, rfl, rfl⟩
    exact compare_spec Y hw ha hb hx hy
  · exact decide_eq_false (cmpI_lt hxy)
  refine ex_new3 R.h evm_nil (fun _ => ev_int) (fun _ => by walk_at "ev") ?_
  rintro f _ n tb tm rfl
  refine ⟨_, _, _, by walk_at "put", by walk_at "put", by walk_at "put", ?_⟩
  refine ex_forUp (a := 0) (b := (limbs w' x).length) R.h (ev_range1 hG (by walk_at "gk") (by walk_at "ev")) (Nat.zero_le _) (by omega)
    (SubI w' x y a b f tw tm B) ⟨[], n, [], 0, tb, none, none, .nil, rfl, (fun _ h => nomatch h), by omega, by simp [val]⟩ ?_ ?_
  · rintro i tk B₁ _ _ its h0 hlt - ⟨vs, n, F, br, t, o, o', hI, hF, hs, hc, he⟩ J hJ
    refine ⟨_, by walk_at "put", ?_⟩
    refine ex_asgI (i := ((limbs w' x).getD i 0 : Nat) - (br : Nat) - ((limbs w' y).getD i 0 : Nat)) (ev_sub (ev_sub (ev_item (by walk_at "ev") ha (by walk_at "ev") (by omega) (by omega)) (by walk_at "ev"))
      (ev_if (tst_lt (by walk_at "ev") (by walk_at "ev")) (fun h => ev_item (by walk_at "ev") hb (by walk_at "ev") (by have := of_decide_eq_true h; omega) (by omega)) fun h => ev_vi ev_int (by rw [getD_out (limbs w' y) (by have := of_decide_eq_false h; omega)]; rfl))) fun tl => ⟨_, by walk_at "put", ?_⟩
    have hx1 := getD_small (limbs_small hw x) i
    have hy1 := getD_small (limbs_small hw y) i
    have h2w : (1 : Int) * 2 ^ (w' : Int).toNat = ((2 ^ w' : Nat) : Int) := by rw [Int.one_mul, Int.toNat_natCast]; push_cast; rfl
    by_cases hneg : (limbs w' x).getD i 0 < br + (limbs w' y).getD i 0
    · refine ex_asgI (i := ((1 : Nat) : Int)) (ev_if (b := true) (tst_of (tst_lt (by walk_at "ev") ev_int) (decide_eq_true (by omega))) (fun _ => ev_int) fun h => nomatch h) fun tb => ⟨_, by walk_at "put", ?_⟩
      refine ex_appN (d := (limbs w' x).getD i 0 + 2 ^ w' - br - (limbs w' y).getD i 0) hI hi (by walk_at "lk") (ev_if (b := true) (tst_of (tst_lt (by walk_at "ev") ev_int) (decide_eq_true (by omega))) (fun _ => ev_vi (ev_add (by walk_at "ev") (by walk_at "ev")) (by rw [h2w]; omega)) fun h => nomatch h) (by omega) fun vs' n' hI' => ?_
      exact ex_nil ⟨[_], rfl, hJ _ _ _ ⟨vs', n', _, 1, tb, _, _, hI', by simp [hF], small_snoc hs (by omega), by omega, sub_step hF he (by omega)⟩⟩
    · refine ex_asgI (i := ((0 : Nat) : Int)) (ev_if (b := false) (tst_of (tst_lt (by walk_at "ev") ev_int) (decide_eq_false (by omega))) (fun h => nomatch h) fun _ => ev_int) fun tb => ⟨_, by walk_at "put", ?_⟩
      refine ex_appN (d := (limbs w' x).getD i 0 - br - (limbs w' y).getD i 0) hI hi (by walk_at "lk") (ev_if (b := false) (tst_of (tst_lt (by walk_at "ev") ev_int) (decide_eq_false (by omega))) (fun h => nomatch h) fun _ => ev_vi (by walk_at "ev") (by omega)) (by omega) fun vs' n' hI' => ?_
      exact ex_nil ⟨[_], rfl, hJ _ _ _ ⟨vs', n', _, 0, tb, _, _, hI', by simp [hF], small_snoc hs (by omega), by omega, sub_step hF he (by omega)⟩⟩
  rintro B₁ _ _ - ⟨vs, n, F, br, t, o, o', hI, hF, hs, hc, he⟩
  rw [List.take_of_length_le (Nat.le_refl _), List.take_of_length_le hle, val_limbs hw, val_limbs hw] at he
  have hv := val_lt w' F hs
  have h0 : br = 0 := by
    rcases Nat.lt_or_ge br 1 with h | h
    · omega
    · have : br = 1 := by omega
      rw [hF] at hv
      rw [this] at he
      omega
  subst h0
  refine ex_freeze fun hb' => ex_ret (evb_call (n := 3) R hG (by walk_at "gk") (f_normal Y).2 (evs1 (ev_nameR (by walk_at "lk"))) (post := fun B' v => ∃ r, v = .ref r ∧ NL B' r (norm F)) ?_) ?_
  · rintro _ _ - ⟨rfl, _, rfl, rfl⟩
    exact normal_spec Y ⟨vs, n, PH.add_self _ _ _, hI⟩ (by omega)
  · rintro B' v - ⟨r, hv', hr⟩
    refine hK _ _ _ _ ?_
    refine ⟨r, hv', ?_⟩
    rw [norm_limbs hw hs] at hr
    rwa [show x - y = val w' F by omega]
end
end
section
open PySem PySem.W PyProof.Rows PySem.Calls
set_option maxRecDepth 100000
set_option maxHeartbeats 400000
section
variable {prog : Program} {w : World} {mg : Str → Option Value} {W : Heap}

theorem set_rep (i q : Nat) (Q : List Nat) : (List.replicate (i + 1) 0 ++ Q).set i q = List.replicate i 0 ++ q :: Q := by
  rw [List.replicate_succ', List.append_assoc, List.set_append_right _ _ (by simp)]
  simp
theorem dr_step {w' x k d r : Nat} {Q : List Nat} (hd : 0 < d) (hk : k < (limbs w' x).length) (he : val w' Q * d + r = val w' ((limbs w' x).drop (k + 1))) :
    val w' (((r * 2 ^ w' + (limbs w' x).getD k 0) / d) :: Q) * d + (r * 2 ^ w' + (limbs w' x).getD k 0) % d = val w' ((limbs w' x).drop k) := by
  rw [drop_eq_cons _ hk, val, val, ← he, Nat.add_mul, Nat.mul_add]
  have h1 := Nat.div_add_mod (r * 2 ^ w' + (limbs w' x).getD k 0) d
  have h2 : (r * 2 ^ w' + (limbs w' x).getD k 0) / d * d = d * ((r * 2 ^ w' + (limbs w' x).getD k 0) / d) := Nat.mul_comm _ _
  have h3 : 2 ^ w' * val w' Q * d = 2 ^ w' * (val w' Q * d) := Nat.mul_assoc _ _ _
  have h4 : 2 ^ w' * r = r * 2 ^ w' := Nat.mul_comm _ _
  omega
inductive DrI (w' x d : Nat) (a f : Addr) (tc tw : Tok) (B : PH) (k : Nat) : PH → List (Addr × Obj) → Locs → Prop
  | mk (vs : List Value) (n : Nat) (Q : List Nat) (r : Nat) (t : Tok) (o : Option Value) : IntsAre vs (znat (List.replicate k 0 ++ Q)) → k + Q.length = (limbs w' x).length → Small w' Q → r < d → val w' Q * d + r = val w' ((limbs w' x).drop k) →
    DrI w' x d a f tc tw B k B [(f, listOf (List.toArray vs) n)] [("a", some (.ref a)), ("limb", some (.int d tc)), ("w", some (.int w' tw)), ("found", some (.ref f)), ("rest", some (.int (r : Nat) t)), ("at", o)]
theorem divrem_limb_spec (Y : Wd mg W) {B : PH} {a : Addr} {w' x d : Nat} {tc tw : Tok} (hw : 0 < w') (hw2 : w' ≤ 8) (ha : NL B a (limbs w' x)) (hx : x < 2 ^ 1000) (hd0 : 0 < d) (hd : d < 2 ^ w') :
    Fn prog w W 4 (.ref (adr mg "divrem_limb")) [.ref a, .int d tc, .int w' tw] B (fun B' v => ∃ p q t, v = .ref p ∧ B' p = some (tupOf [.ref q, .int (x % d : Nat) t]) ∧ NL B' q (limbs w' (x / d))) := by
  have la := limbs_len hw hx
  have hp := Nat.two_pow_pos w'
  have hp8 : 2 ^ w' ≤ 256 := Nat.pow_le_pow_right (by decide) hw2
  refine fn_of ["a", "limb", "w"] ["found", "rest", "at"] [("len", .builtin "len"), ("range", .type "range"), ("normal", .ref (adr mg "normal"))] (isDef Y 9 5 (by rfl) (by kernel_rfl)) (fun _ _ _ => rfl) (by decide) (by decide) (by simp only [List.map_cons, List.map_nil]; decide)
    (gcons (g_len Y) (gcons (g_range Y) (gcons (f_normal Y).1 gnil))) ?_
  rintro X rfl rfl rfl hG hi R
  simp only [List.zip_cons_cons, List.zip_nil_right, List.map_cons, List.map_nil, List.cons_append, List.nil_append]
  refine ex_abs fun K hK => ?_
  refine ex_if (b := false) (tst_of (tst_eq (by walk_at "ev") ev_int) (by simp; omega)) (fun h => nomatch h) fun _ => ex_nil ?_
  refine ex_new2 R.h (evm_rep (n := (limbs w' x).length) (fun B' hb => by have ha := IL.mono ha hb; walk_at "ev") (by omega)) (fun _ => ev_int) ?_
  rintro f vs n tr hI
  refine ⟨_, _, by walk_at "put", by walk_at "put", ?_⟩
  refine ex_forDown (n := (limbs w' x).length) R.h (ev_range3 hG (by walk_at "gk") (ev_sub (by walk_at "ev") ev_int) (ev_neg ev_int) (ev_neg ev_int) (by decide) (by decide)) (by omega)
    (DrI w' x d a f tc tw B) ⟨vs, n, [], 0, tr, none, by rw [List.append_nil]; exact hI, rfl, (fun _ h => nomatch h), hd0, by rw [List.drop_of_length_le (Nat.le_refl _)]; simp [val]⟩ ?_ ?_
  · clear hI
    rintro k tk B₁ _ _ its hk - ⟨vs, n, Q, r, t, o, hI, hF, hs, hr, he⟩ J hJ
    refine ⟨_, by walk_at "put", ?_⟩
    have h1 := getD_small (limbs_small hw x) k
    have hrw : r * 2 ^ w' + (limbs w' x).getD k 0 < d * 2 ^ w' := by
      have : (r + 1) * 2 ^ w' ≤ d * 2 ^ w' := Nat.mul_le_mul_right _ hr
      rw [Nat.add_mul] at this
      omega
    refine ex_asgI (i := (r * 2 ^ w' + (limbs w' x).getD k 0 : Nat)) (ev_vi (ev_or (ev_shl (by walk_at "ev") (by walk_at "ev") (Int.natCast_nonneg _) (by omega) (by omega)) (ev_item (by walk_at "ev") ha (by walk_at "ev") hk (by omega))) (bitOr_shl r w' _ h1)) fun t => ⟨_, by walk_at "put", ?_⟩
    refine ex_setN (k := k) (d := (r * 2 ^ w' + (limbs w' x).getD k 0) / d) hI (by walk_at "lk") (ev_vi (ev_fdiv (by walk_at "ev") (by walk_at "ev") (by omega) (by omega)) ?_) (by walk_at "ev") (by simp; omega) (by simp; omega) fun vs' n' hI' => ?_
    · rw [Int.fdiv_eq_ediv_of_nonneg _ (Int.natCast_nonneg _)]; rfl
    refine ex_ifmod (by walk_at "lk") (by walk_at "ev") (by omega) fun t => ⟨_, by walk_at "put", ?_⟩
    rw [set_rep] at hI'
    refine ex_nil ⟨[_], rfl, Int.fmod_eq_emod_of_nonneg _ (Int.natCast_nonneg d) ▸ hJ _ _ _ ⟨vs', n', _, (r * 2 ^ w' + (limbs w' x).getD k 0) % d, t, _, hI', by rw [List.length_cons]; omega, ?_, Nat.mod_lt _ hd0, dr_step hd0 hk he⟩⟩
    intro e he'
    rcases List.mem_cons.mp he' with rfl | he'
    · exact Nat.div_lt_of_lt_mul hrw
    · exact hs e he'
  clear hI
  rintro B₁ _ _ - ⟨vs, n, Q, r, t, o, hI, hF, hs, hr, he⟩
  rw [List.drop_zero, val_limbs hw] at he
  rw [List.replicate_zero, List.nil_append] at hI
  have hq : val w' Q = x / d := by
    rw [← he, Nat.mul_comm, Nat.mul_add_div hd0, Nat.div_eq_of_lt hr, Nat.add_zero]
  have hrr : r = x % d := by
    rw [← he, Nat.mul_comm, Nat.mul_add_mod, Nat.mod_eq_of_lt hr]
  refine ex_freeze fun hb' => ex_ret (evb_tuple (evs_consB (evb_call (n := 3) R hG (by walk_at "gk") (f_normal Y).2 (evs1 (ev_nameR (by walk_at "lk"))) (post := fun B' v => ∃ q, v = .ref q ∧ NL B' q (norm Q)) ?_) ?_) (P := fun B' vs => ∃ q t, vs = [.ref q, .int (x % d : Nat) t] ∧ NL B' q (limbs w' (x / d))) ?_) ?_
  · rintro _ _ - ⟨rfl, _, rfl, rfl⟩
    exact normal_spec Y ⟨vs, n, PH.add_self _ _ _, hI⟩ (by omega)
  · rintro B' v - ⟨q, rfl, hq'⟩
    rw [norm_limbs hw hs, hq] at hq'
    exact evs_cons (P := VI (r : Nat)) (ev_nameI (by walk_at "lk")) fun u ⟨t, hu⟩ => evs_nil ⟨q, t, by rw [hu, hrr], hq'⟩
  · rintro _ _ ⟨q, t, rfl, _⟩; simp
  · rintro B' v - ⟨B₂, p, vs, ⟨q, t, rfl, hq'⟩, _, hb2, hv, ht⟩
    exact hK _ _ _ _ ⟨p, q, t, hv, ht, hq'.mono hb2⟩

theorem val_set (w' : Nat) : ∀ (L : List Nat) (k d : Nat), k < L.length → val w' (L.set k d) + 2 ^ (w' * k) * L.getD k 0 = val w' L + 2 ^ (w' * k) * d
  | [], k, d, h => absurd h (Nat.not_lt_zero _)
  | e :: r, 0, d, _ => by simp [val]; omega
  | e :: r, k + 1, d, h => by
    have ih := val_set w' r k d (by simpa using h)
    have h1 : (e :: r).getD (k + 1) 0 = r.getD k 0 := rfl
    rw [List.set_cons_succ, val, val, h1, Nat.mul_succ, Nat.pow_add, Nat.mul_comm (2 ^ (w' * k)) (2 ^ w'), Nat.mul_assoc, Nat.mul_assoc, Nat.add_assoc, ← Nat.mul_add, ih, Nat.mul_add, Nat.add_assoc]
theorem getD_set (L : List Nat) (k d j : Nat) (h : j ≠ k) : (L.set k d).getD j 0 = L.getD j 0 := by
  rw [List.getD_eq_getElem?_getD, List.getD_eq_getElem?_getD, List.getElem?_set_ne (Ne.symm h)]
theorem small_set {w' : Nat} {L : List Nat} {d : Nat} (h : Small w' L) (hd : d < 2 ^ w') (k : Nat) : Small w' (L.set k d) := fun e he => by
  rcases List.mem_or_eq_of_mem_set he with he | rfl
  · exact h e he
  · exact hd
theorem mul_step {w' k c h q : Nat} {F : List Nat} {S : Nat} (hk : k < F.length) (he : val w' F + 2 ^ (w' * k) * c = S) (hh : F.getD k 0 = h) :
    val w' (F.set k ((c + (h + q)) % 2 ^ w')) + 2 ^ (w' * (k + 1)) * ((c + (h + q)) / 2 ^ w') = S + 2 ^ (w' * k) * q := by
  have h1 := val_set w' F k ((c + (h + q)) % 2 ^ w') hk
  have e : 2 ^ (w' * (k + 1)) * ((c + (h + q)) / 2 ^ w') = 2 ^ (w' * k) * (2 ^ w' * ((c + (h + q)) / 2 ^ w')) := by
    rw [Nat.mul_succ, Nat.pow_add, Nat.mul_assoc]
  have h2 : 2 ^ (w' * k) * ((c + (h + q)) % 2 ^ w') + 2 ^ (w' * k) * (2 ^ w' * ((c + (h + q)) / 2 ^ w')) = 2 ^ (w' * k) * (c + (h + q)) := by rw [← Nat.mul_add, Nat.mod_add_div]
  rw [Nat.mul_add, Nat.mul_add] at h2
  rw [hh] at h1
  omega
theorem mul_carry {w' c h p q : Nat} (hc : c < 2 ^ w') (hh : h < 2 ^ w') (hp : p < 2 ^ w') (hq : q < 2 ^ w') : (c + (h + p * q)) / 2 ^ w' < 2 ^ w' := by
  obtain ⟨m, hm⟩ : ∃ m, 2 ^ w' = m + 1 := ⟨2 ^ w' - 1, by omega⟩
  have h1 : p * q ≤ m * m := Nat.mul_le_mul (by omega) (by omega)
  rw [hm] at hc hh hp hq ⊢
  refine Nat.div_lt_of_lt_mul ?_
  have e : (m + 1) * (m + 1) = m * m + m + m + 1 := by rw [Nat.add_mul, Nat.mul_add]; omega
  rw [e]
  omega

inductive MulI (w' x y : Nat) (a b f : Addr) (tw tm : Tok) (B₀ : PH) (i : Nat) (B : PH) : List (Addr × Obj) → Locs → Prop
  | mk (vs : List Value) (n : Nat) (F : List Nat) (o1 o2 o3 o4 o5 : Option Value) : B₀.le B → IntsAre vs (znat F) → F.length = (limbs w' x).length + (limbs w' y).length → Small w' F → val w' F = val w' ((limbs w' x).take i) * y → (∀ k, i + (limbs w' y).length ≤ k → F.getD k 0 = 0) →
    MulI w' x y a b f tw tm B₀ i B [(f, listOf (List.toArray vs) n)] [("a", some (.ref a)), ("b", some (.ref b)), ("w", some (.int w' tw)), ("found", some (.ref f)), ("mask", some (.int ((1 : Int) * 2 ^ (w' : Int).toNat - 1) tm)), ("at", o1), ("limb", o2), ("carry", o3), ("spot", o4), ("other", o5)]
inductive MulJ (w' x y : Nat) (a b f : Addr) (tw tm : Tok) (i : Nat) (tk tk' : Tok) (its : List (Addr × Obj)) (B₀ : PH) (j : Nat) (B : PH) : List (Addr × Obj) → Locs → Prop
  | mk (vs : List Value) (n : Nat) (F : List Nat) (c : Nat) (t : Tok) (o4 o5 : Option Value) : B₀.le B → IntsAre vs (znat F) → F.length = (limbs w' x).length + (limbs w' y).length → Small w' F → c < 2 ^ w' →
      val w' F + 2 ^ (w' * (i + j)) * c = val w' ((limbs w' x).take i) * y + 2 ^ (w' * i) * ((limbs w' x).getD i 0 * val w' ((limbs w' y).take j)) → (∀ k, i + (limbs w' y).length ≤ k → F.getD k 0 = 0) →
    MulJ w' x y a b f tw tm i tk tk' its B₀ j B ((f, listOf (List.toArray vs) n) :: its) [("a", some (.ref a)), ("b", some (.ref b)), ("w", some (.int w' tw)), ("found", some (.ref f)), ("mask", some (.int ((1 : Int) * 2 ^ (w' : Int).toNat - 1) tm)), ("at", some (.int i tk)), ("limb", some (.int ((limbs w' x).getD i 0 : Nat) tk')), ("carry", some (.int (c : Nat) t)), ("spot", o4), ("other", o5)]
theorem mul_spec (Y : Wd mg W) {B : PH} {a b : Addr} {w' x y : Nat} {tw : Tok} (hw : 0 < w') (hw2 : w' ≤ 8) (ha : NL B a (limbs w' x)) (hb : NL B b (limbs w' y)) (hx : x < 2 ^ 1000) (hy : y < 2 ^ 1000) :
    Fn prog w W 4 (.ref (adr mg "mul_school")) [.ref a, .ref b, .int w' tw] B (fun B' v => ∃ r, v = .ref r ∧ NL B' r (limbs w' (x * y))) := by
  have la := limbs_len hw hx
  have lb := limbs_len hw hy
  have hp := Nat.two_pow_pos w'
  have hp8 : 2 ^ w' ≤ 256 := Nat.pow_le_pow_right (by decide) hw2
  refine fn_of ["a", "b", "w"] ["found", "mask", "at", "limb", "carry", "spot", "other"] [("len", .builtin "len"), ("enumerate", .type "enumerate"), ("normal", .ref (adr mg "normal"))] (isDef Y 22 16 (by rfl) (by kernel_rfl)) (fun _ _ _ => rfl) (by decide) (by decide) (by simp only [List.map_cons, List.map_nil]; decide)
    (gcons (g_len Y) (gcons (g_enumerate Y) (gcons (f_normal Y).1 gnil))) ?_
  rintro X rfl rfl rfl hG hi R
  simp only [List.zip_cons_cons, List.zip_nil_right, List.map_cons, List.map_nil, List.cons_append, List.nil_append]
  refine ex_abs fun K hK => ?_
  refine ex_new2 R.h (evm_rep (n := (limbs w' x).length + (limbs w' y).length) (fun B' hB => by have ha := IL.mono ha hB; have hb := IL.mono hb hB; exact ev_addN (by walk_at "ev") (by walk_at "ev")) (by omega)) (fun _ => ev_sub (by walk_at "ev") ev_int) ?_
  rintro f vs n tm hI
  refine ⟨_, _, by walk_at "put", by walk_at "put", ?_⟩
  refine ex_forEN R.h hG (by walk_at "gk") (by walk_at "ev") ha
    (MulI w' x y a b f tw tm B) ⟨vs, n, _, _, _, _, _, _, PH.le.refl _, hI, by simp, fun d hd => by rw [List.eq_of_mem_replicate hd]; exact hp, by simp [val, val_replicate], fun k _ => by simp [List.getD_eq_getElem?_getD, List.getElem?_replicate]; split <;> rfl⟩ ?_ ?_ ?_
  · clear hI
    rintro i tk tk' B₁ _ _ its hlt hB ⟨vs, n, F, o1, o2, o3, o4, o5, hB', hI, hF, hs, he, hz⟩ J hJ
    refine ⟨_, _, by walk_at "put", by walk_at "put", ?_⟩
    refine ex_asgI (i := ((0 : Nat) : Int)) ev_int fun tc => ⟨_, by walk_at "put", ?_⟩
    have hx1 := getD_small (limbs_small hw x) i
    have hb1 := IL.mono hb hB
    refine ex_forEN R.h hG (by walk_at "gk") (by walk_at "ev") hb1
      (MulJ w' x y a b f tw tm i tk tk' its B₁) ⟨vs, n, F, 0, tc, _, _, PH.le.refl _, hI, hF, hs, hp, by rw [he]; simp [val], hz⟩ ?_ ?_ ?_
    · clear hI hF hs he hz
      rintro j tj tj' B₂ _ _ its2 hjlt hB2 ⟨vs, n, F, c, t, o4, o5, hB2', hI, hF, hs, hc, he, hz⟩ J2 hJ2
      refine ⟨_, _, by walk_at "put", by walk_at "put", ?_⟩
      have hy1 := getD_small (limbs_small hw y) j
      refine ex_iaddN (b := F.getD (i + j) 0 + (limbs w' x).getD i 0 * (limbs w' y).getD j 0) (by walk_at "lk") (ev_vi (ev_add (ev_itemM (k := i + j) hI (by walk_at "ev") (ev_addN (by walk_at "ev") (by walk_at "ev")) (by omega) (by omega)) (ev_mul (by walk_at "ev") (by walk_at "ev") (by omega))) (by push_cast; rfl)) fun t => ⟨_, by walk_at "put", ?_⟩
      refine ex_setN (k := i + j) hI (by walk_at "lk") (by walk_at "ev") (ev_addN (by walk_at "ev") (by walk_at "ev")) (by omega) (by omega) fun vs' n' hI' => ?_
      refine ex_ishrN (by walk_at "lk") (by walk_at "ev") fun t => ⟨_, by walk_at "put", ?_⟩
      refine ex_nil ⟨((f, _) :: its), rfl, hJ2 _ _ _ ⟨vs', n', _, _, t, _, _, hB2', hI', by rw [List.length_set]; exact hF, small_set hs (Nat.mod_lt _ hp) _, mul_carry hc (getD_small hs _) hx1 hy1, ?_, fun k hk => by rw [getD_set _ _ _ _ (by omega)]; exact hz k hk⟩⟩
      have := mul_step (q := (limbs w' x).getD i 0 * (limbs w' y).getD j 0) (by omega) he rfl
      rw [← Nat.add_assoc i j 1, this, val_take_step, Nat.add_assoc]
      congr 1
      rw [Nat.mul_add ((limbs w' x).getD i 0), Nat.mul_add w' i j, Nat.pow_add, Nat.mul_add (2 ^ (w' * i))]
      congr 1
      rw [Nat.mul_assoc, Nat.mul_left_comm ((limbs w' x).getD i 0)]
    · rintro j B₁ B₂ mu₁ l₁ hle ⟨vs, n, F, c, t, o4, o5, h1, hI, hF, hs, hc, he, hz⟩
      exact ⟨vs, n, F, c, t, o4, o5, h1.trans hle, hI, hF, hs, hc, he, hz⟩
    · clear hI hF hs he hz
      rintro B₂ _ _ hB2 ⟨vs, n, F, c, t, o4, o5, hB2', hI, hF, hs, hc, he, hz⟩
      have hb2 := IL.mono hb1 hB2
      rw [List.take_of_length_le (Nat.le_refl _), val_limbs hw] at he
      refine ex_setN (k := i + (limbs w' y).length) (d := c) hI (by walk_at "lk") (by walk_at "ev") (ev_addN (by walk_at "ev") (by walk_at "ev")) (by omega) (by omega) fun vs' n' hI' => ?_
      have h1 := val_set w' F (i + (limbs w' y).length) c (by omega)
      rw [hz _ (Nat.le_refl _), Nat.mul_zero, Nat.add_zero, he] at h1
      refine ex_nil ⟨[_], rfl, hJ _ _ _ ⟨vs', n', _, _, _, _, _, _, hB.trans hB2', hI', by rw [List.length_set]; exact hF, small_set hs hc _, ?_, fun k hk => by rw [getD_set _ _ _ _ (by omega)]; exact hz k (by omega)⟩⟩
      rw [h1, val_take_step, Nat.add_mul, Nat.mul_assoc]
  · rintro j B₁ B₂ mu₁ l₁ hle ⟨vs, n, F, o1, o2, o3, o4, o5, h1, hI, hF, hs, he, hz⟩
    exact ⟨vs, n, F, o1, o2, o3, o4, o5, h1.trans hle, hI, hF, hs, he, hz⟩
  clear hI
  rintro B₁ _ _ hB ⟨vs, n, F, o1, o2, o3, o4, o5, hB', hI, hF, hs, he, hz⟩
  rw [List.take_of_length_le (Nat.le_refl _), val_limbs hw] at he
  refine ex_freeze fun hb' => ex_ret (evb_call (n := 3) R hG (by walk_at "gk") (f_normal Y).2 (evs1 (ev_nameR (by walk_at "lk"))) (post := fun B' v => ∃ r, v = .ref r ∧ NL B' r (norm F)) ?_) ?_
  · rintro _ _ - ⟨rfl, _, rfl, rfl⟩
    exact normal_spec Y ⟨vs, n, PH.add_self _ _ _, hI⟩ (by omega)
  · rintro B' v - ⟨r, hv', hr⟩
    refine hK _ _ _ _ ?_
    refine ⟨r, hv', ?_⟩
    rw [norm_limbs hw hs, he] at hr
    exact hr
end
end
section
open PySem PySem.W PyProof.Rows PySem.Calls
set_option maxRecDepth 100000
set_option maxHeartbeats 400000
section
variable {prog : Program} {w : World} {mg : Str → Option Value} {W : Heap}

/-- a number with its sign, in limbs of w' bits -/
noncomputable def SR (w' : Nat) (B : PH) (a : Addr) (z : Int) : Prop := ∃ l, B a = some (tupOf [.bool (decide (z < 0)), .ref l]) ∧ NL B l (limbs w' z.natAbs)
theorem SR.mono {w' : Nat} {B B' : PH} {a : Addr} {z : Int} (h : SR w' B a z) (hb : B.le B') : SR w' B' a z := let ⟨l, h1, h2⟩ := h; ⟨l, hb _ _ h1, h2.mono hb⟩
/-- a value that is such a number -/
noncomputable def VS (w' : Nat) (z : Int) (B : PH) (v : Value) : Prop := ∃ a, v = .ref a ∧ SR w' B a z

theorem flag_neg (z : Int) : (!decide (z < 0) && decide (0 < z.natAbs)) = decide (-z < 0) := by
  rw [Bool.eq_iff_iff]
  simp only [Bool.and_eq_true, Bool.not_eq_true', decide_eq_true_eq, decide_eq_false_iff_not]
  omega
theorem flag_of {P Q R : Prop} [Decidable P] [Decidable Q] [Decidable R] (h : (P ∧ Q) ↔ R) : (decide P && decide Q) = decide R := by
  rw [Bool.eq_iff_iff]
  simpa only [Bool.and_eq_true, decide_eq_true_eq] using h
theorem signed_spec (Y : Wd mg W) {B : PH} {a : Addr} {w' n : Nat} {b : Bool} {z : Int} (hw : 0 < w') (ha : NL B a (limbs w' n)) (hn : n < 2 ^ 5000) (hz : z.natAbs = n) (hb : (b && decide (0 < n)) = decide (z < 0)) :
    Fn prog w W 3 (.ref (adr mg "signed")) [.bool b, .ref a] B (VS w' z) := by
  have la := limbs_len hw hn
  refine fn_of ["is_below", "nat"] [] [("len", .builtin "len")] (isDef Y 14 9 (by rfl) (by kernel_rfl)) (fun _ _ _ => rfl) (by decide) (by decide) (by simp only [List.map_cons, List.map_nil]; decide) (gcons (g_len Y) gnil) ?_
  rintro X rfl rfl rfl hG hi R
  simp only [List.zip_cons_cons, List.zip_nil_right, List.map_cons, List.map_nil, List.cons_append, List.nil_append]
  refine ex_ret (evb_tuple (evs2 (ev_andB (ev_nameB (by walk_at "lk")) fun _ => ev_gt (by walk_at "ev") ev_int) (ev_nameR (by walk_at "lk"))) (by rintro _ _ ⟨_, u, v, rfl, _⟩; simp)) ?_
  rintro B' v hle ⟨B₁, p, vs, ⟨rfl, _, _, rfl, rfl, rfl⟩, _, _, rfl, ht⟩
  refine ⟨p, rfl, a, ?_, by rw [hz]; exact IL.mono ha hle⟩
  rw [ht, ← hb]
  have : decide ((0 : Int) < ((limbs w' n).length : Int)) = decide (0 < n) := by
    have := limbs_len0 (n := n) hw
    refine decide_eq_decide.mpr ?_
    omega
  rw [this]

theorem s_neg_spec (Y : Wd mg W) {B : PH} {a : Addr} {w' : Nat} {z : Int} (hw : 0 < w') (ha : SR w' B a z) (hz : z.natAbs < 2 ^ 4000) :
    Fn prog w W 4 (.ref (adr mg "s_neg")) [.ref a] B (VS w' (-z)) := by
  obtain ⟨l, ta, na⟩ := ha
  refine fn_of ["x"] [] [("signed", .ref (adr mg "signed"))] (isDef Y 15 10 (by rfl) (by kernel_rfl)) (fun _ _ _ => rfl) (by decide) (by decide) (by simp only [List.map_cons, List.map_nil]; decide) (gcons (f_signed Y).1 gnil) ?_
  rintro X rfl rfl rfl hG hi R
  simp only [List.zip_cons_cons, List.zip_nil_right, List.map_cons, List.map_nil, List.cons_append, List.nil_append]
  refine ex_ret (evb_call (n := 3) R hG (by walk_at "gk") (f_signed Y).2 (evs2 (ev_notB (ev_tup (P := VB _) ta (by walk_at "ev") rfl rfl (by decide))) (ev_tup (P := VR l) ta (by walk_at "ev") rfl rfl (by decide))) ?_) (fun _ _ _ h => h)
  rintro _ _ - ⟨rfl, _, _, rfl, rfl, rfl⟩
  refine signed_spec Y hw na (Nat.lt_of_lt_of_le hz (Nat.pow_le_pow_right (by decide) (by decide))) (Int.natAbs_neg z) ?_
  exact flag_neg z

theorem s_add_spec (Y : Wd mg W) {B : PH} {a b : Addr} {w' : Nat} {x y : Int} {tw : Tok} (hw : 0 < w') (hw2 : w' ≤ 8) (ha : SR w' B a x) (hb : SR w' B b y) (hx : x.natAbs < 2 ^ 1000) (hy : y.natAbs < 2 ^ 1000) :
    Fn prog w W 5 (.ref (adr mg "s_add")) [.ref a, .ref b, .int w' tw] B (VS w' (x + y)) := by
  obtain ⟨l, ta, na⟩ := ha
  obtain ⟨m, tb, nb⟩ := hb
  have hsum : x.natAbs + y.natAbs < 2 ^ 5000 := Nat.lt_of_lt_of_le (show x.natAbs + y.natAbs < 2 ^ 1001 by rw [Nat.pow_succ]; omega) (Nat.pow_le_pow_right (by decide) (by decide))
  refine fn_of ["x", "y", "w"] [] [("signed", .ref (adr mg "signed")), ("add", .ref (adr mg "add")), ("sub", .ref (adr mg "sub")), ("compare", .ref (adr mg "compare"))] (isDef Y 16 11 (by rfl) (by kernel_rfl)) (fun _ _ _ => rfl) (by decide) (by decide) (by simp only [List.map_cons, List.map_nil]; decide)
    (gcons (f_signed Y).1 (gcons (f_add Y).1 (gcons (f_sub Y).1 (gcons (f_compare Y).1 gnil)))) ?_
  rintro X rfl rfl rfl hG hi R
  simp only [List.zip_cons_cons, List.zip_nil_right, List.map_cons, List.map_nil, List.cons_append, List.nil_append]
  refine ex_if (tst_eqB (ev_tup (P := VB _) ta (by walk_at "ev") rfl rfl (by decide)) (ev_tup (P := VB _) tb (by walk_at "ev") rfl rfl (by decide))) (fun h => ?_) (fun h => ex_nil ?_)
  · refine ex_ret (evb_call (P := fun B' vs => ∃ r, vs = [.bool (decide (x < 0)), .ref r] ∧ NL B' r (limbs w' (x.natAbs + y.natAbs))) (n := 3) (R.less (by decide)) hG (by walk_at "gk") (f_signed Y).2 (evs_cons (ev_tup (P := VB _) ta (by walk_at "ev") rfl rfl (by decide)) fun u hu => evs_consB (evb_call (post := fun B' v => ∃ r, v = .ref r ∧ NL B' r (limbs w' (x.natAbs + y.natAbs))) (n := 3) (R.less (by decide)) hG (by walk_at "gk") (f_add Y).2
      (evs3 (ev_tup (P := VR l) ta (by walk_at "ev") rfl rfl (by decide)) (ev_tup (P := VR m) tb (by walk_at "ev") rfl rfl (by decide)) (ev_nameI (by walk_at "lk"))) ?_) fun B' v _ hv => evs_nil ?_) ?_) (fun _ _ _ h => h)
    · rintro _ _ - ⟨rfl, _, _, _, rfl, rfl, rfl, t, rfl⟩
      exact add_spec Y hw (by omega) na nb hx hy
    · obtain ⟨r, rfl, hr⟩ := hv
      exact ⟨r, by rw [hu], hr⟩
    · rintro _ _ - ⟨r, rfl, hr⟩
      have h1 : decide (x < 0) = decide (y < 0) := by simpa using h
      have h2 := decide_eq_decide.mp h1
      refine signed_spec Y hw hr hsum (by omega) ?_
      exact flag_of (by omega)
  · have h1 : decide (x < 0) ≠ decide (y < 0) := by simpa using h
    have h2 : ¬ (x < 0 ↔ y < 0) := fun e => h1 (decide_eq_decide.mpr e)
    refine ex_if (tst_lt (ev_call (VI (cmpI x.natAbs y.natAbs)) (n := 3) (R.less (by decide)) hG (by walk_at "gk") (f_compare Y).2 (evs2 (ev_tup (P := VR l) ta (by walk_at "ev") rfl rfl (by decide)) (ev_tup (P := VR m) tb (by walk_at "ev") rfl rfl (by decide))) ?_) ev_int) (fun h => ?_) (fun h => ex_nil ?_)
    · rintro _ _ - ⟨rfl, _, _, rfl, rfl, rfl⟩
      exact compare_spec Y hw na nb hx hy
    · have h3 : x.natAbs < y.natAbs := cmpI_lt'.mp (of_decide_eq_true h)
      refine ex_ret (evb_call (P := fun B' vs => ∃ r, vs = [.bool (decide (y < 0)), .ref r] ∧ NL B' r (limbs w' (y.natAbs - x.natAbs))) (n := 3) (R.less (by decide)) hG (by walk_at "gk") (f_signed Y).2 (evs_cons (ev_tup (P := VB _) tb (by walk_at "ev") rfl rfl (by decide)) fun u hu => evs_consB (evb_call (post := fun B' v => ∃ r, v = .ref r ∧ NL B' r (limbs w' (y.natAbs - x.natAbs))) (n := 4) R hG (by walk_at "gk") (f_sub Y).2
        (evs3 (ev_tup (P := VR m) tb (by walk_at "ev") rfl rfl (by decide)) (ev_tup (P := VR l) ta (by walk_at "ev") rfl rfl (by decide)) (ev_nameI (by walk_at "lk"))) ?_) fun B' v _ hv => evs_nil ?_) ?_) (fun _ _ _ h => h)
      · rintro _ _ - ⟨rfl, _, _, _, rfl, rfl, rfl, t, rfl⟩
        exact sub_spec Y hw (by omega) nb na hy (by omega)
      · obtain ⟨r, rfl, hr⟩ := hv
        exact ⟨r, by rw [hu], hr⟩
      · rintro _ _ - ⟨r, rfl, hr⟩
        refine signed_spec Y hw hr (by omega) (by omega) ?_
        exact flag_of (by omega)
    · have h3 : ¬ x.natAbs < y.natAbs := fun e => absurd (cmpI_lt'.mpr e) (of_decide_eq_false h)
      refine ex_ret (evb_call (P := fun B' vs => ∃ r, vs = [.bool (decide (x < 0)), .ref r] ∧ NL B' r (limbs w' (x.natAbs - y.natAbs))) (n := 3) (R.less (by decide)) hG (by walk_at "gk") (f_signed Y).2 (evs_cons (ev_tup (P := VB _) ta (by walk_at "ev") rfl rfl (by decide)) fun u hu => evs_consB (evb_call (post := fun B' v => ∃ r, v = .ref r ∧ NL B' r (limbs w' (x.natAbs - y.natAbs))) (n := 4) R hG (by walk_at "gk") (f_sub Y).2
        (evs3 (ev_tup (P := VR l) ta (by walk_at "ev") rfl rfl (by decide)) (ev_tup (P := VR m) tb (by walk_at "ev") rfl rfl (by decide)) (ev_nameI (by walk_at "lk"))) ?_) fun B' v _ hv => evs_nil ?_) ?_) (fun _ _ _ h => h)
      · rintro _ _ - ⟨rfl, _, _, _, rfl, rfl, rfl, t, rfl⟩
        exact sub_spec Y hw (by omega) na nb hx (by omega)
      · obtain ⟨r, rfl, hr⟩ := hv
        exact ⟨r, by rw [hu], hr⟩
      · rintro _ _ - ⟨r, rfl, hr⟩
        refine signed_spec Y hw hr (by omega) (by omega) ?_
        exact flag_of (by omega)

theorem s_sub_spec (Y : Wd mg W) {B : PH} {a b : Addr} {w' : Nat} {x y : Int} {tw : Tok} (hw : 0 < w') (hw2 : w' ≤ 8) (ha : SR w' B a x) (hb : SR w' B b y) (hx : x.natAbs < 2 ^ 1000) (hy : y.natAbs < 2 ^ 1000) :
    Fn prog w W 6 (.ref (adr mg "s_sub")) [.ref a, .ref b, .int w' tw] B (VS w' (x - y)) := by
  refine fn_of ["x", "y", "w"] [] [("s_add", .ref (adr mg "s_add")), ("s_neg", .ref (adr mg "s_neg"))] (isDef Y 17 12 (by rfl) (by kernel_rfl)) (fun _ _ _ => rfl) (by decide) (by decide) (by simp only [List.map_cons, List.map_nil]; decide)
    (gcons (f_s_add Y).1 (gcons (f_s_neg Y).1 gnil)) ?_
  rintro X rfl rfl rfl hG hi R
  simp only [List.zip_cons_cons, List.zip_nil_right, List.map_cons, List.map_nil, List.cons_append, List.nil_append]
  refine ex_ret (evb_call (P := fun B' vs => ∃ r, vs = [.ref a, .ref r, .int w' tw] ∧ B.le B' ∧ SR w' B' r (-y)) (n := 5) R hG (by walk_at "gk") (f_s_add Y).2 (evs_cons (P := VR a) (ev_nameR (by walk_at "lk")) fun u hu => evs_consB (evb_call (post := VS w' (-y)) (n := 4) (R.less (by decide)) hG (by walk_at "gk") (f_s_neg Y).2 (evs1 (ev_nameR (by walk_at "lk"))) ?_)
    fun B' v hB hv => evs_cons (P := fun v => v = .int w' tw) (ev_name (by walk_at "lk") rfl) fun z hz => evs_nil ?_) ?_) (fun _ _ _ h => h)
  · rintro _ _ - ⟨rfl, _, rfl, rfl⟩
    exact s_neg_spec Y hw hb (Nat.lt_of_lt_of_le hy (Nat.pow_le_pow_right (by decide) (by decide)))
  · obtain ⟨r, rfl, hr⟩ := hv
    exact ⟨r, by rw [hu, hz], hB, hr⟩
  · rintro B' _ - ⟨r, rfl, hB, hr⟩
    rw [Int.sub_eq_add_neg]
    exact s_add_spec Y hw hw2 (ha.mono hB) hr hx (by rw [Int.natAbs_neg]; exact hy)

theorem s_mul_spec (Y : Wd mg W) {B : PH} {a b : Addr} {w' : Nat} {x y : Int} {tw : Tok} (hw : 0 < w') (hw2 : w' ≤ 8) (ha : SR w' B a x) (hb : SR w' B b y) (hx : x.natAbs < 2 ^ 1000) (hy : y.natAbs < 2 ^ 1000) :
    Fn prog w W 5 (.ref (adr mg "s_mul")) [.ref a, .ref b, .int w' tw, .ref (adr mg "mul_school")] B (VS w' (x * y)) := by
  obtain ⟨l, ta, na⟩ := ha
  obtain ⟨m, tb, nb⟩ := hb
  have hprod : x.natAbs * y.natAbs < 2 ^ 5000 := Nat.lt_of_lt_of_le (show x.natAbs * y.natAbs < 2 ^ 1000 * 2 ^ 1000 from Nat.mul_lt_mul'' hx hy) (by rw [← Nat.pow_add]; exact Nat.pow_le_pow_right (by decide) (by decide))
  refine fn_of ["x", "y", "w", "mul"] [] [("signed", .ref (adr mg "signed"))] (isDef Y 18 13 (by rfl) (by kernel_rfl)) (fun _ _ _ => rfl) (by decide) (by decide) (by simp only [List.map_cons, List.map_nil]; decide) (gcons (f_signed Y).1 gnil) ?_
  rintro X rfl rfl rfl hG hi R
  simp only [List.zip_cons_cons, List.zip_nil_right, List.map_cons, List.map_nil, List.cons_append, List.nil_append]
  refine ex_ret (evb_call (P := fun B' vs => ∃ r, vs = [.bool (decide (x < 0) != decide (y < 0)), .ref r] ∧ NL B' r (limbs w' (x.natAbs * y.natAbs))) (n := 3) (R.less (by decide)) hG (by walk_at "gk") (f_signed Y).2 (evs_cons (ev_neB (ev_tup (P := VB _) ta (by walk_at "ev") rfl rfl (by decide)) (ev_tup (P := VB _) tb (by walk_at "ev") rfl rfl (by decide))) fun u hu => evs_consB (evb_callL (post := fun B' v => ∃ r, v = .ref r ∧ NL B' r (limbs w' (x.natAbs * y.natAbs))) (n := 4) R (by walk_at "lk") (f_mul_school Y).2
    (evs3 (ev_tup (P := VR l) ta (by walk_at "ev") rfl rfl (by decide)) (ev_tup (P := VR m) tb (by walk_at "ev") rfl rfl (by decide)) (ev_nameI (by walk_at "lk"))) ?_) fun B' v _ hv => evs_nil ?_) ?_) (fun _ _ _ h => h)
  · rintro _ _ - ⟨rfl, _, _, _, rfl, rfl, rfl, t, rfl⟩
    exact mul_spec Y hw hw2 na nb hx hy
  · obtain ⟨r, rfl, hr⟩ := hv
    exact ⟨r, by rw [hu], hr⟩
  · rintro _ _ - ⟨r, rfl, hr⟩
    refine signed_spec Y hw hr hprod (Int.natAbs_mul x y) ?_
    have h1 : (0 < x.natAbs * y.natAbs) ↔ x ≠ 0 ∧ y ≠ 0 := by
      rw [Nat.pos_iff_ne_zero, Ne, Nat.mul_eq_zero]
      omega
    have h2 : x * y < 0 ↔ (x < 0 ∧ 0 < y) ∨ (0 < x ∧ y < 0) := by
      rcases Int.lt_trichotomy x 0 with hx | rfl | hx
      · rcases Int.lt_trichotomy y 0 with hy | rfl | hy
        · have := Int.mul_pos_of_neg_of_neg hx hy; omega
        · simp
        · have := Int.mul_neg_of_neg_of_pos hx hy; omega
      · simp
      · rcases Int.lt_trichotomy y 0 with hy | rfl | hy
        · have := Int.mul_neg_of_pos_of_neg hx hy; omega
        · simp
        · have := Int.mul_pos hx hy; omega
    clear hx hy hprod hr
    rw [Bool.eq_iff_iff]
    simp only [Bool.and_eq_true, bne_iff_ne, decide_eq_true_eq, ne_eq, decide_eq_decide, h1, h2]
    omega
end
end
section
open PySem PySem.W PyProof.Rows PySem.Calls
set_option maxRecDepth 100000
set_option maxHeartbeats 400000
section
variable {prog : Program} {w : World} {mg : Str → Option Value} {W : Heap}

/-- a pair of numbers in limbs -/
noncomputable def VQ (w' q r : Nat) (B : PH) (v : Value) : Prop := ∃ p a b, v = .ref p ∧ B p = some (tupOf [.ref a, .ref b]) ∧ NL B a (limbs w' q) ∧ NL B b (limbs w' r)

theorem small_spec (Y : Wd mg W) {B : PH} {a b : Addr} {w' x d : Nat} {tw : Tok} (hw : 0 < w') (hw2 : w' ≤ 8) (ha : NL B a (limbs w' x)) (hb : NL B b (limbs w' d)) (hx : x < 2 ^ 1000) (hd0 : 0 < d) (hd : d < 2 ^ w') :
    Fn prog w W 5 (.ref (adr mg "divrem_small")) [.ref a, .ref b, .int w' tw] B (VQ w' (x / d) (x % d)) := by
  have h1 := limbs_one hw hd0 hd
  refine fn_of ["a", "b", "w"] ["quotient", "rest"] [("divrem_limb", .ref (adr mg "divrem_limb"))] (isDef Y 23 17 (by rfl) (by kernel_rfl)) (fun _ _ _ => rfl) (by decide) (by decide) (by simp only [List.map_cons, List.map_nil]; decide) (gcons (f_divrem_limb Y).1 gnil) ?_
  rintro X rfl rfl rfl hG hi R
  simp only [List.zip_cons_cons, List.zip_nil_right, List.map_cons, List.map_nil, List.cons_append, List.nil_append]
  refine ex_asgT2 (P := fun B' u1 u2 => ∃ q t, u1 = .ref q ∧ u2 = .int (x % d : Nat) t ∧ NL B' q (limbs w' (x / d))) R.h ((evb_call (post := fun B' v => ∃ p q t, v = .ref p ∧ B' p = some (tupOf [.ref q, .int (x % d : Nat) t]) ∧ NL B' q (limbs w' (x / d))) (n := 4) R hG (by walk_at "gk") (f_divrem_limb Y).2
    (evs3 (ev_nameR (by walk_at "lk")) (ev_vi (a' := (d : Int)) (ev_item (k := 0) (by walk_at "ev") hb ev_int (by rw [h1]; exact Nat.one_pos) (by rw [h1]; exact Nat.succ_le_succ (Nat.zero_le _))) (by rw [h1]; rfl)) (ev_nameI (by walk_at "lk"))) ?_).mono ?_) ?_
  · rintro _ _ - ⟨rfl, _, _, _, rfl, rfl, ⟨t, rfl⟩, t', rfl⟩
    exact divrem_limb_spec Y hw hw2 ha hx hd0 hd
  · rintro B' v - ⟨p, q, t, rfl, hp, hq⟩
    exact ⟨p, _, _, rfl, hp, q, t, rfl, rfl, hq⟩
  rintro B' _ _ hB ⟨q, t, rfl, rfl, hq⟩
  refine ⟨_, _, by walk_at "put", by walk_at "put", ?_⟩
  refine ex_ret (evb_tuple (P := fun B₁ vs => ∃ l, vs = [.ref q, .ref l] ∧ B'.le B₁ ∧ NL B₁ l (limbs w' (x % d))) (evs_cons (P := VR q) (ev_nameR (by walk_at "lk")) fun u hu => evs_consB (P := fun B₁ v => ∃ l, v = .ref l ∧ NL B₁ l (limbs w' (x % d))) (evb_if (tst_gt (by walk_at "ev") ev_int) (fun h => (evb_list (evs1 (ev_nameI (by walk_at "lk"))) ?_).mono ?_) (fun h => (evb_list (P := fun _ vs => vs = []) (evs_nil rfl) ?_).mono ?_)) fun B₁ v hB₁ hv => evs_nil ?_) ?_) ?_
  · rintro _ _ ⟨_, _, rfl, _⟩; simp
  · rintro B₁ v _ ⟨_, l, vs, ⟨rfl, _, rfl, t', rfl⟩, _, _, rfl, hl⟩
    have h2 := of_decide_eq_true h
    have h3 : x % d < d := Nat.mod_lt _ hd0
    exact ⟨l, rfl, _, _, hl, by rw [limbs_one hw (by omega) (by omega)]; exact .cons _ _ .nil⟩
  · rintro _ _ rfl; simp
  · rintro B₁ v _ ⟨_, l, vs, rfl, _, _, rfl, hl⟩
    have h2 := of_decide_eq_false h
    have h3 : x % d = 0 := by omega
    exact ⟨l, rfl, _, _, hl, by rw [h3, limbs_zero]; exact .nil⟩
  · obtain ⟨l, rfl, hl⟩ := hv
    exact ⟨l, by rw [hu], hB₁, hl⟩
  · rintro _ _ ⟨l, rfl, _⟩; simp
  · rintro B₂ v _ ⟨B₁, p, vs, ⟨l, rfl, hB₁, hl⟩, _, hB₂, rfl, hp⟩
    exact ⟨p, q, l, rfl, hp, hq.mono (hB₁.trans hB₂), hl.mono hB₂⟩

theorem school_spec (Y : Wd mg W) {B : PH} {a b : Addr} {w' x d : Nat} {tw : Tok} (hw : 0 < w') (hw2 : w' ≤ 8) (ha : NL B a (limbs w' x)) (hb : NL B b (limbs w' d)) (hx : x < 2 ^ 1000) (hd0 : 0 < d) (hd : d < 2 ^ w') :
    Fn prog w W 6 (.ref (adr mg "divrem_school")) [.ref a, .ref b, .int w' tw] B (VQ w' (x / d) (x % d)) := by
  have h1 := limbs_one hw hd0 hd
  have la := limbs_len hw hx
  have lb : (limbs w' d).length = 1 := by rw [h1]; rfl
  have hdx : d < 2 ^ 1000 := Nat.lt_of_lt_of_le hd (Nat.pow_le_pow_right (by decide) (by omega))
  refine fn_of ["a", "b", "w"] ["shift", "divisor", "rest", "quotient"] [("len", .builtin "len"), ("compare", .ref (adr mg "compare")), ("divrem_small", .ref (adr mg "divrem_small"))] (isDef Y 28 22 (by rfl) (by kernel_rfl)) (fun _ _ _ => rfl) (by decide) (by decide) (by simp only [List.map_cons, List.map_nil]; decide)
    (gcons (g_len Y) (gcons (f_compare Y).1 (gcons (f_divrem_small Y).1 gnil))) ?_
  rintro X rfl rfl rfl hG hi R
  simp only [List.zip_cons_cons, List.zip_nil_right, List.map_cons, List.map_nil, List.cons_append, List.nil_append]
  refine ex_if (b := false) (tst_of (tst_eq (by walk_at "ev") ev_int) (by rw [lb]; rfl)) (fun h => nomatch h) fun _ => ex_nil ?_
  refine ex_if (tst_lt (ev_call (VI (cmpI x d)) (n := 3) (R.less (by decide)) hG (by walk_at "gk") (f_compare Y).2 (evs2 (ev_nameR (by walk_at "lk")) (ev_nameR (by walk_at "lk"))) ?_) ev_int) (fun h => ?_) (fun h => ex_nil ?_)
  · rintro _ _ - ⟨rfl, _, _, rfl, rfl, rfl⟩
    exact compare_spec Y hw ha hb hx hdx
  · have h3 : x < d := cmpI_lt'.mp (of_decide_eq_true h)
    obtain ⟨vs, n, hl, hI⟩ := id ha
    have hlen := hI.length
    rw [List.length_map] at hlen
    refine ex_ret (evb_tuple (P := fun B₁ us => ∃ q r, us = [.ref q, .ref r] ∧ NL B₁ q [] ∧ NL B₁ r (limbs w' x)) (evs_consB (evb_list (P := fun _ vs => vs = []) (evs_nil rfl) (by rintro _ _ rfl; simp)) fun B₁ v hB₁ hv => evs_consB (evb_slice (lo := none) (hi := none) (hB₁ _ _ hl) (by omega) (by walk_at "ev") part_none part_none) fun B₂ u hB₂ hu => evs_nil ?_) ?_) ?_
    · obtain ⟨_, q, _, rfl, _, _, rfl, hq⟩ := hv
      obtain ⟨r, rfl, hr⟩ := hu
      exact ⟨q, r, rfl, ⟨_, _, hB₂ _ _ hq, .nil⟩, _, _, hr, by have := slice_ints_all hI; simpa using this⟩
    · rintro _ _ ⟨q, r, rfl, _⟩; simp
    · rintro B₂ v _ ⟨B₁, p, vs, ⟨q, r, rfl, hq, hr⟩, _, hB₂, rfl, hp⟩
      refine ⟨p, q, r, rfl, hp, ?_, ?_⟩
      · rw [Nat.div_eq_of_lt h3, limbs_zero]; exact hq.mono hB₂
      · rw [Nat.mod_eq_of_lt h3]; exact hr.mono hB₂
  · refine ex_if (b := true) (tst_of (tst_eq (by walk_at "ev") ev_int) (by rw [lb]; rfl)) (fun _ => ?_) (fun h => nomatch h)
    refine ex_ret (evb_call (n := 5) R hG (by walk_at "gk") (f_divrem_small Y).2 (evs3 (ev_nameR (by walk_at "lk")) (ev_nameR (by walk_at "lk")) (ev_nameI (by walk_at "lk"))) ?_) (fun _ _ _ h => h)
    rintro _ _ - ⟨rfl, _, _, _, rfl, rfl, rfl, t, rfl⟩
    exact small_spec Y hw hw2 ha hb hx hd0 hd

/-- n with the sign of x -/
noncomputable def sgn (x : Int) (n : Nat) : Int := if x < 0 then -(n : Int) else n
theorem sgn_abs (x : Int) (n : Nat) : (sgn x n).natAbs = n := by unfold sgn; split <;> omega
theorem sgn_flag (x : Int) (n : Nat) : (decide (x < 0) && decide (0 < n)) = decide (sgn x n < 0) := flag_of (by unfold sgn; split <;> omega)
/-- a pair of numbers with signs -/
noncomputable def VP (w' : Nat) (x y : Int) (B : PH) (v : Value) : Prop := ∃ p a b, v = .ref p ∧ B p = some (tupOf [.ref a, .ref b]) ∧ SR w' B a x ∧ SR w' B b y

theorem tdiv_spec (Y : Wd mg W) {B : PH} {a b : Addr} {w' d : Nat} {x : Int} {tw : Tok} (hw : 0 < w') (hw2 : w' ≤ 8) (ha : SR w' B a x) (hb : SR w' B b (d : Nat)) (hx : x.natAbs < 2 ^ 1000) (hd0 : 0 < d) (hd : d < 2 ^ w') :
    Fn prog w W 7 (.ref (adr mg "tdiv")) [.ref a, .ref b, .int w' tw, .ref (adr mg "divrem_school")] B (VP w' (sgn x (x.natAbs / d)) (sgn x (x.natAbs % d))) := by
  obtain ⟨l, ta, na⟩ := ha
  obtain ⟨m, tb, nb⟩ := hb
  rw [Int.natAbs_natCast] at nb
  have h1 := limbs_one hw hd0 hd
  have lb : (limbs w' d).length = 1 := by rw [h1]; rfl
  have hq : x.natAbs / d < 2 ^ 5000 := Nat.lt_of_le_of_lt (Nat.div_le_self _ _) (Nat.lt_of_lt_of_le hx (Nat.pow_le_pow_right (by decide) (by decide)))
  have hr : x.natAbs % d < 2 ^ 5000 := Nat.lt_of_le_of_lt (Nat.mod_le _ _) (Nat.lt_of_lt_of_le hx (Nat.pow_le_pow_right (by decide) (by decide)))
  have hneg : decide ((d : Int) < 0) = false := decide_eq_false (by omega)
  rw [hneg] at tb
  refine fn_of ["x", "y", "w", "divrem"] ["quotient", "rest"] [("len", .builtin "len"), ("signed", .ref (adr mg "signed"))] (isDef Y 19 14 (by rfl) (by kernel_rfl)) (fun _ _ _ => rfl) (by decide) (by decide) (by simp only [List.map_cons, List.map_nil]; decide)
    (gcons (g_len Y) (gcons (f_signed Y).1 gnil)) ?_
  rintro X rfl rfl rfl hG hi R
  simp only [List.zip_cons_cons, List.zip_nil_right, List.map_cons, List.map_nil, List.cons_append, List.nil_append]
  refine ex_if (b := false) (tst_of (tst_eq (ev_lenN hG (by walk_at "gk") (ev_tup (P := VR m) tb (by walk_at "ev") rfl rfl (by decide)) nb (by omega)) ev_int) (by rw [lb]; rfl)) (fun h => nomatch h) fun _ => ex_nil ?_
  refine ex_asgT2 (P := fun B' u1 u2 => ∃ q r, u1 = .ref q ∧ u2 = .ref r ∧ NL B' q (limbs w' (x.natAbs / d)) ∧ NL B' r (limbs w' (x.natAbs % d))) R.h ((evb_callL (post := VQ w' (x.natAbs / d) (x.natAbs % d)) (n := 6) R (by walk_at "lk") (f_divrem_school Y).2
    (evs3 (ev_tup (P := VR l) ta (by walk_at "ev") rfl rfl (by decide)) (ev_tup (P := VR m) tb (by walk_at "ev") rfl rfl (by decide)) (ev_nameI (by walk_at "lk"))) ?_).mono ?_) ?_
  · rintro _ _ - ⟨rfl, _, _, _, rfl, rfl, rfl, t', rfl⟩
    exact school_spec Y hw hw2 na nb hx hd0 hd
  · rintro B' v - ⟨p, q, r, rfl, hp, hq, hr⟩
    exact ⟨p, _, _, rfl, hp, q, r, rfl, rfl, hq, hr⟩
  rintro B' _ _ hB ⟨q, r, rfl, rfl, nq, nr⟩
  refine ⟨_, _, by walk_at "put", by walk_at "put", ?_⟩
  have ta := hB _ _ ta
  have tb := hB _ _ tb
  refine ex_ret (evb_tuple (P := fun B₂ vs => ∃ a b, vs = [.ref a, .ref b] ∧ SR w' B₂ a (sgn x (x.natAbs / d)) ∧ SR w' B₂ b (sgn x (x.natAbs % d)))
    (evs_consB (evb_call (post := VS w' (sgn x (x.natAbs / d))) (n := 3) (R.less (by decide)) hG (by walk_at "gk") (f_signed Y).2 (evs2 (ev_neB (ev_tup (P := VB _) ta (by walk_at "ev") rfl rfl (by decide)) (ev_tup (P := VB _) tb (by walk_at "ev") rfl rfl (by decide))) (ev_nameR (by walk_at "lk"))) ?_)
      fun B₁ v hB₁ hv => evs_consB (evb_call (post := VS w' (sgn x (x.natAbs % d))) (n := 3) (R.less (by decide)) hG (by walk_at "gk") (f_signed Y).2 (evs2 (ev_tup (P := VB _) (hB₁ _ _ ta) (by walk_at "ev") rfl rfl (by decide)) (ev_nameR (by walk_at "lk"))) ?_)
      fun B₂ u hB₂ hu => evs_nil ?_) ?_) ?_
  · rintro _ _ - ⟨rfl, _, _, rfl, rfl, rfl⟩
    refine signed_spec Y hw nq hq (sgn_abs _ _) ?_
    rw [← sgn_flag]
    cases decide (x < 0) <;> rfl
  · rintro _ _ - ⟨rfl, _, _, rfl, rfl, rfl⟩
    exact signed_spec Y hw (nr.mono hB₁) hr (sgn_abs _ _) (sgn_flag _ _)
  · obtain ⟨a, rfl, ha⟩ := hv
    obtain ⟨b, rfl, hb⟩ := hu
    exact ⟨a, b, rfl, ha.mono hB₂, hb⟩
  · rintro _ _ ⟨a, b, rfl, _⟩; simp
  · rintro B₂ v _ ⟨B₁, p, vs, ⟨a, b, rfl, ha, hb⟩, _, hB₂, rfl, hp⟩
    exact ⟨p, a, b, rfl, hp, ha.mono hB₂, hb.mono hB₂⟩

theorem ediv_neg {n d : Nat} (hd : 0 < d) (hr : 0 < n % d) : (-(n : Int)) / d = -((n / d + 1 : Nat) : Int) ∧ (-(n : Int)) % d = (d : Int) - (n % d : Nat) := by
  refine (Int.ediv_emod_unique (by omega)).mpr ⟨?_, ?_, ?_⟩
  · have h1 := Nat.div_add_mod n d
    have h2 : (d : Int) * -((n / d + 1 : Nat) : Int) = -((d * (n / d) : Nat) : Int) - d := by push_cast; rw [Int.mul_neg, Int.mul_add, Int.mul_one]; omega
    rw [h2]
    omega
  · have := Nat.mod_lt n hd; omega
  · omega
theorem ediv_pos {x : Int} {d : Nat} (hd : 0 < d) (h : ¬ (0 < x.natAbs % d ∧ x < 0)) : sgn x (x.natAbs / d) = x / d ∧ sgn x (x.natAbs % d) = x % d := by
  have key : x / (d : Int) = sgn x (x.natAbs / d) ∧ x % (d : Int) = sgn x (x.natAbs % d) := by
    refine (Int.ediv_emod_unique (by omega)).mpr ?_
    have h1 := Nat.div_add_mod x.natAbs d
    have h3 := Nat.mod_lt x.natAbs hd
    have h2 : ((d * (x.natAbs / d) : Nat) : Int) = (d : Int) * (x.natAbs / d : Nat) := by push_cast; rfl
    unfold sgn
    split
    · have h4 : x.natAbs % d = 0 := by omega
      rw [Int.mul_neg, ← h2, h4]
      omega
    · rw [← h2]
      omega
  exact ⟨key.1.symm, key.2.symm⟩

theorem ns_neg (q : Nat) : -((q + 1 : Nat) : Int) < 0 := by omega
theorem ns_abs (q : Nat) : (-((q + 1 : Nat) : Int)).natAbs = q + 1 := by omega
theorem fdiv_spec (Y : Wd mg W) {B : PH} {a b : Addr} {w' d : Nat} {x : Int} {tw : Tok} (hw : 0 < w') (hw2 : w' ≤ 8) (ha : SR w' B a x) (hb : SR w' B b (d : Nat)) (hx : x.natAbs < 2 ^ 1000) (hd0 : 0 < d) (hd : d < 2 ^ w') :
    Fn prog w W 8 (.ref (adr mg "fdiv")) [.ref a, .ref b, .int w' tw, .ref (adr mg "divrem_school")] B (VP w' (x / d) (x % d)) := by
  have hdx : d < 2 ^ 1000 := Nat.lt_of_lt_of_le hd (Nat.pow_le_pow_right (by decide) (by omega))
  have hqx : x.natAbs / d < 2 ^ 1000 := Nat.lt_of_le_of_lt (Nat.div_le_self _ _) hx
  have hrx : x.natAbs % d < 2 ^ 1000 := Nat.lt_of_le_of_lt (Nat.mod_le _ _) hx
  have lr := limbs_len hw hrx
  have hneg : decide ((d : Int) < 0) = false := decide_eq_false (by omega)
  refine fn_of ["x", "y", "w", "divrem"] ["quotient", "rest"] [("len", .builtin "len"), ("tdiv", .ref (adr mg "tdiv")), ("add_limb", .ref (adr mg "add_limb")), ("s_add", .ref (adr mg "s_add"))] (isDef Y 20 15 (by rfl) (by kernel_rfl)) (fun _ _ _ => rfl) (by decide) (by decide) (by simp only [List.map_cons, List.map_nil]; decide)
    (gcons (g_len Y) (gcons (f_tdiv Y).1 (gcons (f_add_limb Y).1 (gcons (f_s_add Y).1 gnil)))) ?_
  rintro X rfl rfl rfl hG hi R
  simp only [List.zip_cons_cons, List.zip_nil_right, List.map_cons, List.map_nil, List.cons_append, List.nil_append]
  refine ex_asgT2 (P := fun B' u1 u2 => ∃ q r, u1 = .ref q ∧ u2 = .ref r ∧ SR w' B' q (sgn x (x.natAbs / d)) ∧ SR w' B' r (sgn x (x.natAbs % d))) R.h ((evb_call (post := VP w' (sgn x (x.natAbs / d)) (sgn x (x.natAbs % d))) (n := 7) R hG (by walk_at "gk") (f_tdiv Y).2
    (evs4 (ev_nameR (by walk_at "lk")) (ev_nameR (by walk_at "lk")) (ev_nameI (by walk_at "lk")) (ev_nameR (by walk_at "lk"))) ?_).mono ?_) ?_
  · rintro _ _ - ⟨rfl, _, _, _, _, rfl, rfl, rfl, ⟨t, rfl⟩, rfl⟩
    exact tdiv_spec Y hw hw2 ha hb hx hd0 hd
  · rintro B' v - ⟨p, q, r, rfl, hp, hq, hr⟩
    exact ⟨p, _, _, rfl, hp, q, r, rfl, rfl, hq, hr⟩
  rintro B' _ _ hB ⟨q, r, rfl, rfl, sq, sr⟩
  refine ⟨_, _, by walk_at "put", by walk_at "put", ?_⟩
  obtain ⟨l, ta, na⟩ := ha
  obtain ⟨m, tb, nb⟩ := id hb
  have ta := hB _ _ ta
  have tb := hB _ _ tb
  rw [hneg] at tb
  obtain ⟨lq, tq, nq⟩ := id sq
  obtain ⟨lr', tr, nr⟩ := id sr
  rw [sgn_abs] at nq nr
  refine ex_if (b := decide (0 < x.natAbs % d) && decide (x < 0)) (tst_of (tst_and (tst_gt (ev_lenN hG (by walk_at "gk") (ev_tup (P := VR lr') tr (by walk_at "ev") rfl rfl (by decide)) nr (by omega)) ev_int) fun _ => tst_and (tst_neB (ev_tup (P := VB _) ta (by walk_at "ev") rfl rfl (by decide)) (ev_tup (P := VB _) tb (by walk_at "ev") rfl rfl (by decide))) fun _ => tst_and_nil) ?_) (fun h => ?_) (fun h => ex_nil ?_)
  · have := limbs_len0 (n := x.natAbs % d) hw
    rw [show decide ((0 : Int) < ((limbs w' (x.natAbs % d)).length : Int)) = decide (0 < x.natAbs % d) from decide_eq_decide.mpr (by omega)]
    cases decide (x < 0) <;> rfl
  · simp only [Bool.and_eq_true, decide_eq_true_eq] at h
    have hxn : x = -((x.natAbs : Nat) : Int) := by omega
    have h5 := ediv_neg hd0 h.1
    rw [← hxn] at h5
    refine ex_ret (evb_tuple (P := fun B₂ vs => ∃ a b, vs = [.ref a, .ref b] ∧ SR w' B₂ a (x / d) ∧ SR w' B₂ b (x % d))
      (evs_consB (P := VS w' (x / d)) ((evb_tuple (P := fun B₂ vs => ∃ l, vs = [.bool true, .ref l] ∧ NL B₂ l (limbs w' (x.natAbs / d + 1))) (evs_cons (P := VB true) ev_bool fun _ h1 => evs_consB (evb_call (post := fun B' v => ∃ r, v = .ref r ∧ NL B' r (limbs w' (x.natAbs / d + 1))) (n := 3) (R.less (by decide)) hG (by walk_at "gk") (f_add_limb Y).2
          (evs3 (ev_tup (P := VR lq) tq (by walk_at "ev") rfl rfl (by decide)) ev_int (ev_nameI (by walk_at "lk"))) ?_) fun B₁ v hB₁ hv => evs_nil ?_) ?_).mono ?_)
        fun B₁ v hB₁ hv => evs_consB (evb_call (post := VS w' (x % d)) (n := 5) (R.less (by decide)) hG (by walk_at "gk") (f_s_add Y).2 (evs3 (ev_nameR (by walk_at "lk")) (ev_nameR (by walk_at "lk")) (ev_nameI (by walk_at "lk"))) ?_) fun B₂ u hB₂ hu => evs_nil ?_) ?_) ?_
    · rintro _ _ - ⟨rfl, _, _, _, rfl, rfl, ⟨t, rfl⟩, t', rfl⟩
      exact add_limb_spec (c0 := 1) Y hw (by omega) nq hqx (Nat.one_lt_two_pow (by omega))
    · obtain ⟨r, rfl, hr⟩ := hv
      exact ⟨r, by rw [h1], hr⟩
    · rintro _ _ ⟨l, rfl, _⟩; simp
    · rintro B₁ v _ ⟨B₂, p, vs, ⟨l, rfl, hl⟩, _, hB₂, rfl, hp⟩
      refine ⟨p, rfl, l, ?_, ?_⟩
      · rw [hp, h5.1, decide_eq_true (ns_neg _)]
      · rw [h5.1, ns_abs]; exact hl.mono hB₂
    · rintro _ _ - ⟨rfl, _, _, _, rfl, rfl, rfl, t', rfl⟩
      have h6 := s_add_spec (prog := X.prog) (w := X.w) (tw := t') Y hw hw2 (sr.mono hB₁) (hb.mono (hB.trans hB₁)) (by rw [sgn_abs]; exact hrx) (by rw [Int.natAbs_natCast]; exact hdx)
      rw [show sgn x (x.natAbs % d) + (d : Int) = x % d by rw [h5.2]; unfold sgn; rw [if_pos h.2]; omega] at h6
      exact h6
    · obtain ⟨a, rfl, ha⟩ := hv
      obtain ⟨b, rfl, hb⟩ := hu
      exact ⟨a, b, rfl, ha.mono hB₂, hb⟩
    · rintro _ _ ⟨a, b, rfl, _⟩; simp
    · rintro B₂ v _ ⟨B₁, p, vs, ⟨a, b, rfl, ha, hb⟩, _, hB₂, rfl, hp⟩
      exact ⟨p, a, b, rfl, hp, ha.mono hB₂, hb.mono hB₂⟩
  · have h6 : ¬ (0 < x.natAbs % d ∧ x < 0) := fun e => by simp [e.1, e.2] at h
    obtain ⟨h7, h8⟩ := ediv_pos hd0 h6
    rw [h7] at sq
    rw [h8] at sr
    refine ex_ret (evb_tuple (evs2 (ev_nameR (by walk_at "lk")) (ev_nameR (by walk_at "lk"))) (by rintro _ _ ⟨_, _, _, rfl, _⟩; simp)) ?_
    rintro B₂ v _ ⟨B₁, p, vs, ⟨rfl, _, _, rfl, rfl, rfl⟩, _, hB₂, rfl, hp⟩
    exact ⟨p, q, r, rfl, hp, sq.mono hB₂, sr.mono hB₂⟩
end
end
section
open PySem PySem.W PyProof.Rows PySem.Calls
set_option maxRecDepth 100000
set_option maxHeartbeats 400000
section
variable {prog : Program} {w : World} {mg : Str → Option Value} {W : Heap}

inductive LimbsI (w' n : Nat) (f : Addr) (tw : Tok) (B : PH) (m : Nat) : PH → List (Addr × Obj) → Locs → Prop
  | mk (vs : List Value) (k : Nat) (F : List Nat) (t : Tok) : IntsAre vs (znat F) → F ++ limbs w' m = limbs w' n → LimbsI w' n f tw B m B [(f, listOf (List.toArray vs) k)] [("number", some (.int (m : Nat) t)), ("w", some (.int w' tw)), ("found", some (.ref f))]
theorem limbs_spec (Y : Wd mg W) {B : PH} {w' n : Nat} {tn tw : Tok} (hw : 0 < w') (hw2 : w' ≤ 8) (hn : n < 2 ^ 1000) :
    Fn prog w W 3 (.ref (adr mg "_law_limbs")) [.int n tn, .int w' tw] B (fun B' v => ∃ r, v = .ref r ∧ NL B' r (limbs w' n)) := by
  have hp := Nat.two_pow_pos w'
  have hp8 : 2 ^ w' ≤ 256 := Nat.pow_le_pow_right (by decide) hw2
  have e2 : (2 : Int) ^ ((w' : Nat) : Int).toNat = ((2 ^ w' : Nat) : Int) := by rw [Int.toNat_natCast]; push_cast; rfl
  have la := limbs_len hw hn
  refine fn_of ["number", "w"] ["found"] [] (isDef Y 31 24 (by rfl) (by kernel_rfl)) (fun _ _ _ => rfl) (by decide) (by decide) (by decide) gnil ?_
  rintro X rfl rfl rfl hG hi R
  simp only [List.zip_cons_cons, List.zip_nil_right, List.map_cons, List.map_nil, List.cons_append, List.nil_append]
  refine ex_abs fun K hK => ?_
  refine ex_asgList fun f => ⟨_, by walk_at "put", ?_⟩
  refine ex_while (LimbsI w' n f tw B) n ⟨[], 0, [], tn, .nil, rfl⟩ ?_
  rintro m B₁ _ _ - ⟨vs, k, F, t, hI, hF⟩
  have hFl : F.length ≤ 1000 := by
    have := congrArg List.length hF
    rw [List.length_append] at this
    omega
  refine ⟨_, tst_gt (by walk_at "ev") ev_int, fun h J hJ => ?_, fun h => ?_⟩
  · have hm : 0 < m := by have := of_decide_eq_true h; omega
    refine ex_appN (d := m % 2 ^ w') hI hi (by walk_at "lk") (ev_vi (ev_fmod (by walk_at "ev") (ev_pow ev_int (by walk_at "ev") (Int.natCast_nonneg _) (by omega) (by decide)) (by rw [e2]; omega)) (by rw [e2, Int.fmod_eq_emod_of_nonneg _ (Int.natCast_nonneg _)]; rfl)) (by omega) fun vs' n' hI' => ?_
    refine ex_asgI (i := ((m / 2 ^ w' : Nat) : Int)) (ev_vi (ev_fdiv (by walk_at "ev") (ev_pow ev_int (by walk_at "ev") (Int.natCast_nonneg _) (by omega) (by decide)) (by rw [e2]; omega) (by rw [e2]; omega)) (by rw [e2, Int.fdiv_eq_ediv_of_nonneg _ (Int.natCast_nonneg _)]; rfl)) fun t => ⟨_, by walk_at "put", ?_⟩
    refine ex_nil (hJ (m / 2 ^ w') _ _ _ (Nat.div_lt_self hm (Nat.one_lt_two_pow (by omega))) ⟨vs', n', _, t, hI', ?_⟩)
    rw [← hF, limbs_pos hw hm, List.append_assoc]
    rfl
  · have hm : m = 0 := by have := of_decide_eq_false h; omega
    subst hm
    rw [limbs_zero, List.append_nil] at hF
    refine ex_freeze fun hb => ex_ret (ev_nameR (a := f) (by walk_at "lk")).up fun B' v _ ⟨hB, hv⟩ => ?_
    subst hB
    exact hK _ _ _ _ ⟨f, hv, vs, k, PH.add_self _ _ _, by rw [← hF]; exact hI⟩

theorem lsigned_spec (Y : Wd mg W) {B : PH} {w' : Nat} {z : Int} {tn tw : Tok} (hw : 0 < w') (hw2 : w' ≤ 8) (hz : z.natAbs < 2 ^ 1000) :
    Fn prog w W 4 (.ref (adr mg "_law_signed")) [.int z tn, .int w' tw] B (VS w' z) := by
  refine fn_of ["number", "w"] [] [("abs", .builtin "abs"), ("_law_limbs", .ref (adr mg "_law_limbs"))] (isDef Y 32 25 (by rfl) (by kernel_rfl)) (fun _ _ _ => rfl) (by decide) (by decide) (by simp only [List.map_cons, List.map_nil]; decide)
    (gcons (g_abs Y) (gcons (f_limbs Y).1 gnil)) ?_
  rintro X rfl rfl rfl hG hi R
  simp only [List.zip_cons_cons, List.zip_nil_right, List.map_cons, List.map_nil, List.cons_append, List.nil_append]
  refine ex_ret (evb_tuple (P := fun B₂ vs => ∃ l, vs = [.bool (decide (z < 0)), .ref l] ∧ NL B₂ l (limbs w' z.natAbs)) (evs_cons (P := VB (decide (z < 0))) (ev_lt (by walk_at "ev") ev_int) fun _ h1 => evs_consB (evb_call (post := fun B' v => ∃ r, v = .ref r ∧ NL B' r (limbs w' z.natAbs)) (n := 3) R hG (by walk_at "gk") (f_limbs Y).2
    (evs2 (ev_abs hG (by walk_at "gk") (by walk_at "ev")) (ev_nameI (by walk_at "lk"))) ?_) fun B₁ v hB₁ hv => evs_nil ?_) ?_) ?_
  · rintro _ _ - ⟨rfl, _, _, rfl, ⟨t, rfl⟩, t', rfl⟩
    exact limbs_spec Y hw hw2 hz
  · obtain ⟨r, rfl, hr⟩ := hv
    exact ⟨r, by rw [h1], hr⟩
  · rintro _ _ ⟨l, rfl, _⟩; simp
  · rintro B₂ v _ ⟨B₁, p, vs, ⟨l, rfl, hl⟩, _, hB₂, rfl, hp⟩
    exact ⟨p, rfl, l, hp, hl.mono hB₂⟩

/-- values that are these numbers -/
noncomputable def VDs (w' : Nat) (B : PH) : List Value → List Int → Prop
  | [], [] => True
  | v :: vs, d :: ds => VS w' d B v ∧ VDs w' B vs ds
  | _, _ => False
theorem VS.mono {w' : Nat} {B B' : PH} {z : Int} {v : Value} (h : VS w' z B v) (hb : B.le B') : VS w' z B' v := let ⟨a, e, s⟩ := h; ⟨a, e, s.mono hb⟩
theorem VDs.mono {w' : Nat} {B B' : PH} (hb : B.le B') : ∀ {vs : List Value} {ds : List Int}, VDs w' B vs ds → VDs w' B' vs ds
  | [], [], _ => trivial
  | _ :: _, _ :: _, h => ⟨h.1.mono hb, VDs.mono hb h.2⟩
theorem VDs.snoc {w' : Nat} {B : PH} {v : Value} {d : Int} (hv : VS w' d B v) : ∀ {vs : List Value} {ds : List Int}, VDs w' B vs ds → VDs w' B (vs ++ [v]) (ds ++ [d])
  | [], [], _ => ⟨hv, trivial⟩
  | _ :: _, _ :: _, h => ⟨h.1, VDs.snoc hv h.2⟩
theorem VDs.length {w' : Nat} {B : PH} : ∀ {vs : List Value} {ds : List Int}, VDs w' B vs ds → vs.length = ds.length
  | [], [], _ => rfl
  | _ :: _, _ :: _, h => congrArg (· + 1) (VDs.length h.2)
theorem VDs.get {w' : Nat} {B : PH} {vs : List Value} {ds : List Int} {i : Nat} {v : Value} (h : VDs w' B vs ds) (e : vs[i]? = some v) : ∃ d, ds[i]? = some d ∧ VS w' d B v := by
  induction vs generalizing ds i with
  | nil => cases e
  | cons u r ih =>
    cases ds with
    | nil => exact h.elim
    | cons d q =>
      cases i with
      | zero => cases e; exact ⟨d, rfl, h.1⟩
      | succ i => exact ih (ds := q) (i := i) h.2 e
theorem VDs.app {w' : Nat} {B : PH} {us : List Value} {es : List Int} (hu : VDs w' B us es) : ∀ {vs : List Value} {ds : List Int}, VDs w' B vs ds → VDs w' B (vs ++ us) (ds ++ es)
  | [], [], _ => hu
  | _ :: _, _ :: _, h => ⟨h.1, VDs.app hu h.2⟩
theorem VDs.rev {w' : Nat} {B : PH} : ∀ {vs : List Value} {ds : List Int}, VDs w' B vs ds → VDs w' B vs.reverse ds.reverse
  | [], [], _ => trivial
  | _ :: _, _ :: _, h => by
    rw [List.reverse_cons, List.reverse_cons]
    exact VDs.snoc h.1 (VDs.rev h.2)
/-- a frozen list of such numbers -/
noncomputable def DL (w' : Nat) (B : PH) (a : Addr) (ds : List Int) : Prop := ∃ vs n, B a = some (listOf vs.toArray n) ∧ VDs w' B vs ds
theorem DL.mono {w' : Nat} {B B' : PH} {a : Addr} {ds : List Int} (h : DL w' B a ds) (hb : B.le B') : DL w' B' a ds := let ⟨vs, n, e, s⟩ := h; ⟨vs, n, hb _ _ e, s.mono hb⟩

/-- the row of digits, by turns -/
noncomputable def nd (b : Int) : Nat → Int → List Int
  | 0, _ => []
  | k + 1, z => if z = 0 then [] else (z % b) :: nd b k (-(z / b))
/-- nought is reached within k turns -/
noncomputable def Done (b : Int) : Nat → Int → Prop
  | 0, z => z = 0
  | k + 1, z => z = 0 ∨ Done b k (-(z / b))
theorem nd_zero (b : Int) (k : Nat) : nd b k 0 = [] := by cases k <;> rfl
theorem div_small {z : Int} {d k : Nat} (hz : z.natAbs < 2 ^ k) : (-(z / (d : Int))).natAbs < 2 ^ k + 1 := by
  have : (z / (d : Int)).natAbs ≤ z.natAbs := by exact Int.natAbs_ediv_le_natAbs z d
  omega

theorem ex_append' {X : Cx} {B : PH} {mu : List (Addr × Obj)} {l : Locs} {rest : List Stmt} {K : Kont} {x : Str} {np ap pos pos' : Pos} {e : Expr} {a : Addr} {vs : List Value} {n : Nat} (P : Value → Prop) (hi : interactive X.c.env = false) (hx : Lk x (.ref a) l) (he : Ev X B ((a, listOf vs.toArray n) :: mu) l e P) (hz : vs.length ≤ 1000000)
    (h : ∀ v n', P v → Ex X B ((a, listOf (vs ++ [v]).toArray n') :: mu) l rest K)
    (hline : (ap.endLine == pos.line) = true := by rfl)
    (hd : (x == ("__debug__" : Str)) = false := by decide) (hst : backTo pos (starEach [e] X.c.env) = [(false, eval e X.c.env)] := by rfl)
    (hbase : attributeBase (.Name x np) "append" X.c.env (eval (.Name x np) X.c.env) = eval (.Name x np) X.c.env := by rfl)
    (hfew : ((backTo pos (starEach [e] X.c.env)).all (fun x => !x.1) && (backToKw pos (keywordEach [] X.c.env)).all (fun x => x.1.isSome)
      && decide (([e] : List Expr).length + ([] : List Keyword).length + (if ([] : List Keyword).isEmpty then 0 else 1) < 30)) = true := by rfl)
    (hs : swapsWith (.Call (.Attribute (.Name x np) "append" ap) [e] [] pos) none pos'.line X.c.env = pure false := by rfl) :
    Ex X B ((a, listOf vs.toArray n) :: mu) l (.Expr (.Call (.Attribute (.Name x np) "append" ap) [e] [] pos) pos' :: rest) K :=
  ex_append hi hx he.up hz (fun B' v n' _ ⟨hB, hv⟩ => by subst hB; exact h v n' hv) hline hd hst hbase hfew hs

inductive DigI (w' b : Nat) (z : Int) (p f : Addr) (tb tw : Tok) (B₀ : PH) (i : Nat) (B : PH) : List (Addr × Obj) → Locs → Prop
  | mk (vs : List Value) (n : Nat) (ds : List Int) (z' : Int) (a' : Addr) (o1 o2 o3 : Option Value) : i ≤ 39 → B₀.le B → VDs w' B vs ds → ds.length = i → ds ++ nd b (40 - i) z' = nd b 40 z → SR w' B a' z' → z'.natAbs < 2 ^ 900 + i → Done b (39 - i) z' →
    DigI w' b z p f tb tw B₀ i B [(f, listOf (List.toArray vs) n)] [("number", some (.ref a')), ("base", some (.int (-(b : Nat)) tb)), ("w", some (.int w' tw)), ("size", some (.ref p)), ("found", some (.ref f)), ("turn", o1), ("quotient", o2), ("rest", o3)]
theorem digits_spec (Y : Wd mg W) {B : PH} {a : Addr} {w' b : Nat} {z : Int} {tb tw : Tok} (hw : 4 ≤ w') (hw2 : w' ≤ 8) (hb0 : 2 ≤ b) (hb9 : b ≤ 9) (ha : SR w' B a z) (hz : z.natAbs < 2 ^ 900) (hd : Done b 39 z) :
    Fn prog w W 9 (.ref (adr mg "_law_digits")) [.ref a, .int (-(b : Nat)) tb, .int w' tw] B (fun B' v => ∃ r, v = .ref r ∧ DL w' B' r (nd b 40 z)) := by
  have hw0 : 0 < w' := by omega
  have hb2 : b < 2 ^ w' := Nat.lt_of_le_of_lt hb9 (Nat.lt_of_lt_of_le (by decide : 9 < 2 ^ 4) (Nat.pow_le_pow_right (by decide) hw))
  refine fn_of ["number", "base", "w"] ["size", "found", "turn", "quotient", "rest"] [("len", .builtin "len"), ("range", .type "range"), ("_law_signed", .ref (adr mg "_law_signed")), ("fdiv", .ref (adr mg "fdiv")), ("s_neg", .ref (adr mg "s_neg")), ("divrem_school", .ref (adr mg "divrem_school"))]
    (isDef Y 33 26 (by rfl) (by kernel_rfl)) (fun _ _ _ => rfl) (by decide) (by decide) (by simp only [List.map_cons, List.map_nil]; decide)
    (gcons (g_len Y) (gcons (g_range Y) (gcons (f_lsigned Y).1 (gcons (f_fdiv Y).1 (gcons (f_s_neg Y).1 (gcons (f_divrem_school Y).1 gnil)))))) ?_
  rintro X rfl rfl rfl hG hi R
  simp only [List.zip_cons_cons, List.zip_nil_right, List.map_cons, List.map_nil, List.cons_append, List.nil_append]
  refine ex_abs fun K hK => ?_
  refine ex_swap2m (P := fun B' mu' vs => ∃ p f n, vs = [.ref p, .ref f] ∧ mu' = [(f, listOf ([] : List Value).toArray n)] ∧ SR w' B' p (-(b : Nat))) R.h
    (evsm_cons (evb_call (post := VS w' (-(b : Nat))) (n := 4) (R.less (by decide)) hG (by walk_at "gk") (f_lsigned Y).2 (evs2 (ev_nameI (by walk_at "lk")) (ev_nameI (by walk_at "lk"))) ?_) fun B' v _ hv => evsm_new evm_nil fun f us n hu => evsm_nil ?_) ?_
  · rintro _ _ - ⟨rfl, _, _, rfl, ⟨t, rfl⟩, t', rfl⟩
    exact lsigned_spec Y hw0 hw2 (by rw [Int.natAbs_neg, Int.natAbs_natCast]; exact Nat.lt_of_le_of_lt hb9 (Nat.lt_of_lt_of_le (by decide : 9 < 2 ^ 4) (Nat.pow_le_pow_right (by decide) (by decide))))
  · obtain ⟨p, rfl, hp⟩ := hv
    subst hu
    exact ⟨p, f, n, rfl, rfl, hp⟩
  rintro B₀ _ _ hB₀ ⟨p, f, n, rfl, rfl, hp⟩
  refine ⟨_, _, _, _, rfl, by walk_at "put", by walk_at "put", ?_⟩
  refine ex_forUp (a := 0) (b := 40) R.h (ev_range1 hG (by walk_at "gk") ev_int) (by decide) (by decide)
    (DigI w' b z p f tb tw B₀) ⟨[], n, [], z, a, none, none, none, by decide, PH.le.refl _, trivial, rfl, rfl, ha.mono hB₀, hz, hd⟩ ?_ ?_
  · rintro i tk B₁ _ _ its - hlt - ⟨vs, n, ds, z', a', o1, o2, o3, hi39, hB₁, hds, hdl, hnd, sa, hz', hD⟩ J hJ
    refine ⟨_, by walk_at "put", ?_⟩
    have hz1 : z'.natAbs < 2 ^ 1000 := Nat.lt_of_lt_of_le (show z'.natAbs < 2 ^ 900 + 40 by omega) (by decide)
    have la := limbs_len hw0 hz1
    obtain ⟨l1, t1, n1⟩ := id sa
    have hl0 := limbs_len0 (n := z'.natAbs) hw0
    refine ex_if (b := decide (z' = 0)) (tst_of (tst_eq (ev_lenN hG (by walk_at "gk") (ev_tup (P := VR l1) t1 (by walk_at "ev") rfl rfl (by decide)) n1 (by omega)) ev_int) ?_) (fun h => ?_) (fun h => ex_nil ?_)
    · rw [Bool.eq_iff_iff, beq_iff_eq, decide_eq_true_eq]; omega
    · have h0 : z' = 0 := of_decide_eq_true h
      subst h0
      rw [nd_zero, List.append_nil] at hnd
      refine ex_freeze fun hb => ex_ret (ev_nameR (a := f) (by walk_at "lk")).up fun B' v _ ⟨hB, hv⟩ => ?_
      subst hB
      exact hK _ _ _ _ ⟨f, hv, vs, n, PH.add_self _ _ _, by rw [← hnd]; exact hds.mono hb⟩
    · have h0 : z' ≠ 0 := of_decide_eq_false h
      refine ex_asgT2 (P := fun B' u1 u2 => VS w' (z' / b) B' u1 ∧ VS w' (z' % b) B' u2) R.h ((evb_call (post := VP w' (z' / b) (z' % b)) (n := 8) R hG (by walk_at "gk") (f_fdiv Y).2
        (P := fun B' vs => ∃ q t, vs = [.ref a', .ref q, .int w' t, .ref (adr mg "divrem_school")] ∧ B₁.le B' ∧ SR w' B' q (b : Nat))
        (evs_cons (P := VR a') (ev_nameR (by walk_at "lk")) fun _ h1 => evs_consB (evb_call (post := VS w' (b : Nat)) (n := 4) (R.less (by decide)) hG (by walk_at "gk") (f_s_neg Y).2 (evs1 (ev_nameR (by walk_at "lk"))) ?_) fun B₂ v hB₂ hv =>
          evs_cons (P := VI w') (ev_nameI (by walk_at "lk")) fun _ h3 => evs_cons (P := fun v => v = .ref (adr mg "divrem_school")) (ev_glob hG (by walk_at "gk")) fun _ h4 => evs_nil ?_) ?_).mono ?_) ?_
      · rintro _ _ - ⟨rfl, _, rfl, rfl⟩
        have := s_neg_spec (prog := X.prog) (w := X.w) Y hw0 (hp.mono hB₁) (by rw [Int.natAbs_neg, Int.natAbs_natCast]; exact Nat.lt_of_le_of_lt hb9 (Nat.lt_of_lt_of_le (by decide : 9 < 2 ^ 4) (Nat.pow_le_pow_right (by decide) (by decide))))
        rwa [Int.neg_neg] at this
      · obtain ⟨q, rfl, hq⟩ := hv
        obtain ⟨t, rfl⟩ := h3
        exact ⟨q, t, by rw [h1, h4], hB₂, hq⟩
      · rintro B₂ _ - ⟨q, t, rfl, hB₂, hq⟩
        exact fdiv_spec Y hw0 hw2 (sa.mono hB₂) hq hz1 (by omega) hb2
      · rintro B₂ v - ⟨p2, q, r, rfl, hp2, hq, hr⟩
        exact ⟨p2, _, _, rfl, hp2, ⟨q, rfl, hq⟩, r, rfl, hr⟩
      rintro B₂ u1 _ hB₂ ⟨⟨q, rfl, hq⟩, r, rfl, hr⟩
      refine ⟨_, _, by walk_at "put", by walk_at "put", ?_⟩
      have hqs := div_small (d := b) (z := z') (k := 1000) hz1
      refine ex_asg (evb_call (post := VS w' (-(z' / b))) (n := 4) (R.less (by decide)) hG (by walk_at "gk") (f_s_neg Y).2 (evs1 (ev_nameR (by walk_at "lk"))) ?_) ?_
      · rintro _ _ - ⟨rfl, _, rfl, rfl⟩
        exact s_neg_spec Y hw0 hq (by rw [← Int.natAbs_neg]; exact Nat.lt_of_lt_of_le hqs (by decide))
      rintro B₃ _ hB₃ ⟨a3, rfl, h3⟩
      refine ⟨_, by walk_at "put", ?_⟩
      refine ex_append' (VR r) hi (by walk_at "lk") (ev_nameR (by walk_at "lk")) (by rw [hds.length]; omega) ?_
      rintro _ n' rfl
      have hle : (z' / (b : Int)).natAbs ≤ z'.natAbs := Int.natAbs_ediv_le_natAbs z' b
      have hne : 39 - i ≠ 0 := fun e => by rw [e] at hD; exact h0 hD
      have hD' : Done b (39 - (i + 1)) (-(z' / b)) := by
        rw [show 39 - i = (39 - (i + 1)) + 1 by omega] at hD
        exact hD.resolve_left h0
      refine ex_nil ⟨[_], rfl, hJ _ _ _ ⟨_, n', ds ++ [z' % b], _, a3, _, _, _, by omega, (hB₁.trans hB₂).trans hB₃, VDs.snoc ⟨r, rfl, hr.mono hB₃⟩ (hds.mono (hB₂.trans hB₃)), by rw [List.length_append, hdl]; rfl, ?_, h3, by omega, hD'⟩⟩
      rw [← hnd, show 40 - i = (40 - (i + 1)) + 1 by omega, nd, if_neg h0, List.append_assoc]
      rfl
  · rintro B₁ _ _ - ⟨_, _, _, _, _, _, _, _, hi39⟩
    exact absurd hi39 (by decide)
end
end
section
open PySem PySem.W PyProof.Rows PySem.Calls
set_option maxRecDepth 100000
set_option maxHeartbeats 400000
section
variable {prog : Program} {w : World} {mg : Str → Option Value} {W : Heap}

section
variable {X : Cx} {B : PH} {mu : List (Addr × Obj)} {l : Locs} {w' : Nat}
/-- an expression whose value is this number, whatever else there is -/
noncomputable def EvU (w' : Nat) (X : Cx) (B : PH) (mu : List (Addr × Obj)) (l : Locs) (e : Expr) (z : Int) : Prop := ∀ B', B.le B' → EvB X B' mu l e (VS w' z)
theorem EvU.mono {B' : PH} {e : Expr} {z : Int} (h : EvU w' X B mu l e z) (hb : B.le B') : EvU w' X B' mu l e z := fun B'' hb' => h B'' (hb.trans hb')
theorem EvU.at {e : Expr} {z : Int} (h : EvU w' X B mu l e z) : EvB X B mu l e (VS w' z) := h B (PH.le.refl _)
theorem EvU.eq {e : Expr} {z z' : Int} (h : EvU w' X B mu l e z) (hz : z = z') : EvU w' X B mu l e z' := hz ▸ h
theorem eu_name {x : Str} {pos : Pos} {a : Addr} {z : Int} (hx : Lk x (.ref a) l) (h : SR w' B a z) (hd : (x == ("__debug__" : Str)) = false := by decide) : EvU w' X B mu l (.Name x pos) z := fun B' hb =>
  (ev_nameR (a := a) hx hd).up.mono fun B'' v _ ⟨hB, hv⟩ => ⟨a, hv, by rw [hB]; exact h.mono hb⟩
/-- (False, []) -/
theorem eu_nought {k : Nat} {kt : Nat} {p0 p1 pos : Pos} (h1 : starEach [.Constant (.bool false) k p0, .List [] p1] X.c.env = (false, eval (.Constant (.bool false) k p0) X.c.env) :: starEach [.List [] p1] X.c.env := by rfl) (h2 : starEach [.List [] p1] X.c.env = (false, eval (.List [] p1) X.c.env) :: starEach [] X.c.env := by rfl) :
    EvU w' X B mu l (.Tuple [.Constant (.bool false) k p0, .List [] p1] kt pos) 0 := fun B' _ =>
  (evb_tuple (P := fun B₂ vs => ∃ r, vs = [.bool false, .ref r] ∧ NL B₂ r []) (evs_cons (P := VB false) ev_bool (fun _ e1 => evs_consB (evb_list (P := fun _ vs => vs = []) (evs_nil rfl) (by rintro _ _ rfl; simp)) (fun B₁ v _ hv => evs_nil (by
    obtain ⟨_, r, _, rfl, _, _, rfl, hr⟩ := hv
    exact ⟨r, by rw [e1], _, _, hr, .nil⟩)) h2) h1) (by rintro _ _ ⟨r, rfl, _⟩; simp)).mono fun B₂ v _ ⟨B₁, p, vs, hv, _, hb, hp, ht⟩ => by
    obtain ⟨r, rfl, hr⟩ := hv
    exact ⟨p, hp, r, ht, by rw [show (0 : Int).natAbs = 0 from rfl, limbs_zero]; exact hr.mono hb⟩

variable {G : List (Str × Value)} {e f : Expr} {p pw' pos : Pos} {x y : Int} {tw : Tok}
theorem eu_add (Y : Wd mg X.c.W) (hw : 0 < w') (hw2 : w' ≤ 8) (R : Room X.A 5) (hG : X.c.G = G) (hg : Gk "s_add" (.ref (adr mg "s_add")) G) (hlw : Lk "w" (.int w' tw) l) (he : EvU w' X B mu l e x) (hf : EvU w' X B mu l f y) (hx : x.natAbs < 2 ^ 1000) (hy : y.natAbs < 2 ^ 1000)
    (h1 : starEach [e, f, .Name "w" pw'] X.c.env = (false, eval e X.c.env) :: starEach [f, .Name "w" pw'] X.c.env := by rfl) (h2 : starEach [f, .Name "w" pw'] X.c.env = (false, eval f X.c.env) :: starEach [.Name "w" pw'] X.c.env := by rfl) :
    EvU w' X B mu l (.Call (.Name "s_add" p) [e, f, .Name "w" pw'] [] pos) (x + y) := fun B' hb =>
  evb_call (n := 5) (P := fun B₂ vs => ∃ a b, vs = [.ref a, .ref b, .int w' tw] ∧ SR w' B₂ a x ∧ SR w' B₂ b y) R hG hg (f_s_add Y).2
    (evs_consB (he B' hb) (fun B₁ v hb1 hv => evs_consB (hf B₁ (hb.trans hb1)) (fun B₂ u hb2 hu => evs_cons (P := fun z => z = .int w' tw) (ev_name hlw rfl) fun z hz => evs_nil (by
      obtain ⟨a, rfl, ha⟩ := hv
      obtain ⟨b, rfl, hb⟩ := hu
      exact ⟨a, b, by rw [hz], ha.mono hb2, hb⟩)) h2) h1)
    (fun B₂ vs _ ⟨a, b, hv, ha, hb⟩ => by subst hv; exact s_add_spec Y hw hw2 ha hb hx hy) h1
theorem eu_sub (Y : Wd mg X.c.W) (hw : 0 < w') (hw2 : w' ≤ 8) (R : Room X.A 6) (hG : X.c.G = G) (hg : Gk "s_sub" (.ref (adr mg "s_sub")) G) (hlw : Lk "w" (.int w' tw) l) (he : EvU w' X B mu l e x) (hf : EvU w' X B mu l f y) (hx : x.natAbs < 2 ^ 1000) (hy : y.natAbs < 2 ^ 1000)
    (h1 : starEach [e, f, .Name "w" pw'] X.c.env = (false, eval e X.c.env) :: starEach [f, .Name "w" pw'] X.c.env := by rfl) (h2 : starEach [f, .Name "w" pw'] X.c.env = (false, eval f X.c.env) :: starEach [.Name "w" pw'] X.c.env := by rfl) :
    EvU w' X B mu l (.Call (.Name "s_sub" p) [e, f, .Name "w" pw'] [] pos) (x - y) := fun B' hb =>
  evb_call (n := 6) (P := fun B₂ vs => ∃ a b, vs = [.ref a, .ref b, .int w' tw] ∧ SR w' B₂ a x ∧ SR w' B₂ b y) R hG hg (f_s_sub Y).2
    (evs_consB (he B' hb) (fun B₁ v hb1 hv => evs_consB (hf B₁ (hb.trans hb1)) (fun B₂ u hb2 hu => evs_cons (P := fun z => z = .int w' tw) (ev_name hlw rfl) fun z hz => evs_nil (by
      obtain ⟨a, rfl, ha⟩ := hv
      obtain ⟨b, rfl, hb⟩ := hu
      exact ⟨a, b, by rw [hz], ha.mono hb2, hb⟩)) h2) h1)
    (fun B₂ vs _ ⟨a, b, hv, ha, hb⟩ => by subst hv; exact s_sub_spec Y hw hw2 ha hb hx hy) h1
theorem eu_neg (Y : Wd mg X.c.W) (hw : 0 < w') (R : Room X.A 4) (hG : X.c.G = G) (hg : Gk "s_neg" (.ref (adr mg "s_neg")) G) (he : EvU w' X B mu l e x) (hx : x.natAbs < 2 ^ 4000)
    (h1 : starEach [e] X.c.env = (false, eval e X.c.env) :: starEach [] X.c.env := by rfl) :
    EvU w' X B mu l (.Call (.Name "s_neg" p) [e] [] pos) (-x) := fun B' hb =>
  evb_call (n := 4) (P := fun B₂ vs => ∃ a, vs = [.ref a] ∧ SR w' B₂ a x) R hG hg (f_s_neg Y).2
    (evs_consB (he B' hb) (fun B₁ v hb1 hv => evs_nil (by
      obtain ⟨a, rfl, ha⟩ := hv
      exact ⟨a, rfl, ha⟩)) h1)
    (fun B₂ vs _ ⟨a, hv, ha⟩ => by subst hv; exact s_neg_spec Y hw ha hx) h1
theorem eu_mul {pm : Pos} (Y : Wd mg X.c.W) (hw : 0 < w') (hw2 : w' ≤ 8) (R : Room X.A 5) (hG : X.c.G = G) (hg : Gk "s_mul" (.ref (adr mg "s_mul")) G) (hg2 : Gk "mul_school" (.ref (adr mg "mul_school")) G) (hlw : Lk "w" (.int w' tw) l) (he : EvU w' X B mu l e x) (hf : EvU w' X B mu l f y) (hx : x.natAbs < 2 ^ 1000) (hy : y.natAbs < 2 ^ 1000)
    (h1 : starEach [e, f, .Name "w" pw', .Name "mul_school" pm] X.c.env = (false, eval e X.c.env) :: starEach [f, .Name "w" pw', .Name "mul_school" pm] X.c.env := by rfl) (h2 : starEach [f, .Name "w" pw', .Name "mul_school" pm] X.c.env = (false, eval f X.c.env) :: starEach [.Name "w" pw', .Name "mul_school" pm] X.c.env := by rfl) :
    EvU w' X B mu l (.Call (.Name "s_mul" p) [e, f, .Name "w" pw', .Name "mul_school" pm] [] pos) (x * y) := fun B' hb =>
  evb_call (n := 5) (P := fun B₂ vs => ∃ a b, vs = [.ref a, .ref b, .int w' tw, .ref (adr mg "mul_school")] ∧ SR w' B₂ a x ∧ SR w' B₂ b y) R hG hg (f_s_mul Y).2
    (evs_consB (he B' hb) (fun B₁ v hb1 hv => evs_consB (hf B₁ (hb.trans hb1)) (fun B₂ u hb2 hu => evs_cons (P := fun z => z = .int w' tw) (ev_name hlw rfl) fun z hz => evs_cons (ev_glob hG hg2) fun m hm => evs_nil (by
      obtain ⟨a, rfl, ha⟩ := hv
      obtain ⟨b, rfl, hb⟩ := hu
      exact ⟨a, b, by rw [hz, hm], ha.mono hb2, hb⟩)) h2) h1)
    (fun B₂ vs _ ⟨a, b, hv, ha, hb⟩ => by subst hv; exact s_mul_spec Y hw hw2 ha hb hx hy) h1
theorem eu_signed (Y : Wd mg X.c.W) (hw : 0 < w') (hw2 : w' ≤ 8) (R : Room X.A 4) (hG : X.c.G = G) (hg : Gk "_law_signed" (.ref (adr mg "_law_signed")) G) (hlw : Lk "w" (.int w' tw) l) (he : ∀ B', B.le B' → Ev X B' mu l e (VI x)) (hx : x.natAbs < 2 ^ 1000)
    (h1 : starEach [e, .Name "w" pw'] X.c.env = (false, eval e X.c.env) :: starEach [.Name "w" pw'] X.c.env := by rfl) :
    EvU w' X B mu l (.Call (.Name "_law_signed" p) [e, .Name "w" pw'] [] pos) x := fun B' hb =>
  evb_call (n := 4) R hG hg (f_lsigned Y).2 (evs2 (he B' hb) (ev_nameI hlw) h1)
    (fun B₂ vs _ ⟨_, u, v, hv, ⟨t, hu⟩, t', hv'⟩ => by subst hv hu hv'; exact lsigned_spec Y hw hw2 hx) h1
/-- item of a tuple that a call gives -/
theorem evb_tupB {j : Nat} {kk : Nat} {p pos : Pos} {P : PH → List Value → Prop} {Q' : PH → Value → Prop} (he : EvB X B mu l e (fun B' v => ∃ a vs, v = .ref a ∧ B' a = some (tupOf vs) ∧ P B' vs)) (h : ∀ B' vs, P B' vs → ∃ u, vs[j]? = some u ∧ Q' B' u) (hj : j < 1000000)
    (hs : ∀ a u, subscripted (.Constant (.int j) kk p) false (.ref a) (.int j u) = operate [.ref a, .int j u] (getItem (.ref a) (.int j u)) := by intro _ _; with_unfolding_all rfl) : EvB X B mu l (.Subscript e (.Constant (.int j) kk p) pos) Q' :=
  .mk fun s Q S k => Subscript_ (he.run s _ S fun v s' B' ⟨a, vs, hv, ht, hp⟩ S' hb => r_int S' fun t s'' S'' => by
    subst hv
    obtain ⟨u, hu, hq⟩ := h B' vs hp
    exact r_tup S'' ht hj hu (k u _ B' hq S'' hb) (hs a t))
theorem evb_fdiv {d : Nat} {pm : Pos} (Y : Wd mg X.c.W) (hw : 0 < w') (hw2 : w' ≤ 8) (R : Room X.A 8) (hG : X.c.G = G) (hg : Gk "fdiv" (.ref (adr mg "fdiv")) G) (hg2 : Gk "divrem_school" (.ref (adr mg "divrem_school")) G) (hlw : Lk "w" (.int w' tw) l) (he : EvU w' X B mu l e x) (hf : EvU w' X B mu l f (d : Nat)) (hx : x.natAbs < 2 ^ 1000) (hd0 : 0 < d) (hd : d < 2 ^ w')
    (h1 : starEach [e, f, .Name "w" pw', .Name "divrem_school" pm] X.c.env = (false, eval e X.c.env) :: starEach [f, .Name "w" pw', .Name "divrem_school" pm] X.c.env := by rfl) (h2 : starEach [f, .Name "w" pw', .Name "divrem_school" pm] X.c.env = (false, eval f X.c.env) :: starEach [.Name "w" pw', .Name "divrem_school" pm] X.c.env := by rfl) :
    EvB X B mu l (.Call (.Name "fdiv" p) [e, f, .Name "w" pw', .Name "divrem_school" pm] [] pos) (VP w' (x / d) (x % d)) :=
  evb_call (n := 8) (P := fun B₂ vs => ∃ a b, vs = [.ref a, .ref b, .int w' tw, .ref (adr mg "divrem_school")] ∧ SR w' B₂ a x ∧ SR w' B₂ b (d : Nat)) R hG hg (f_fdiv Y).2
    (evs_consB he.at (fun B₁ v hb1 hv => evs_consB (hf B₁ hb1) (fun B₂ u hb2 hu => evs_cons (P := fun z => z = .int w' tw) (ev_name hlw rfl) fun z hz => evs_cons (ev_glob hG hg2) fun m hm => evs_nil (by
      obtain ⟨a, rfl, ha⟩ := hv
      obtain ⟨b, rfl, hb⟩ := hu
      exact ⟨a, b, by rw [hz, hm], ha.mono hb2, hb⟩)) h2) h1)
    (fun B₂ vs _ ⟨a, b, hv, ha, hb⟩ => by subst hv; exact fdiv_spec Y hw hw2 ha hb hx hd0 hd) h1
theorem VP.pair {x y : Int} {B : PH} {v : Value} (h : VP w' x y B v) : ∃ a vs, v = .ref a ∧ B a = some (tupOf vs) ∧ ∃ u1 u2, vs = [u1, u2] ∧ VS w' x B u1 ∧ VS w' y B u2 :=
  let ⟨p, a, b, hv, hp, ha, hb⟩ := h
  ⟨p, _, hv, hp, _, _, rfl, ⟨a, rfl, ha⟩, b, rfl, hb⟩
theorem eu_fdiv0 {d k : Nat} {pm pc ps : Pos} (Y : Wd mg X.c.W) (hw : 0 < w') (hw2 : w' ≤ 8) (R : Room X.A 8) (hG : X.c.G = G) (hg : Gk "fdiv" (.ref (adr mg "fdiv")) G) (hg2 : Gk "divrem_school" (.ref (adr mg "divrem_school")) G) (hlw : Lk "w" (.int w' tw) l) (he : EvU w' X B mu l e x) (hf : EvU w' X B mu l f (d : Nat)) (hx : x.natAbs < 2 ^ 1000) (hd0 : 0 < d) (hd : d < 2 ^ w')
    (h1 : starEach [e, f, .Name "w" pw', .Name "divrem_school" pm] X.c.env = (false, eval e X.c.env) :: starEach [f, .Name "w" pw', .Name "divrem_school" pm] X.c.env := by rfl) (h2 : starEach [f, .Name "w" pw', .Name "divrem_school" pm] X.c.env = (false, eval f X.c.env) :: starEach [.Name "w" pw', .Name "divrem_school" pm] X.c.env := by rfl) :
    EvU w' X B mu l (.Subscript (.Call (.Name "fdiv" p) [e, f, .Name "w" pw', .Name "divrem_school" pm] [] pos) (.Constant (.int 0) k pc) ps) (x / d) := fun _ hb =>
  evb_tupB (j := 0) ((evb_fdiv Y hw hw2 R hG hg hg2 hlw (he.mono hb) (hf.mono hb) hx hd0 hd h1 h2).mono fun _ _ _ h => h.pair) (fun _ _ ⟨u1, _, hv, h1, _⟩ => ⟨u1, by rw [hv]; rfl, h1⟩) (by decide)
theorem eu_fdiv1 {d k : Nat} {pm pc ps : Pos} (Y : Wd mg X.c.W) (hw : 0 < w') (hw2 : w' ≤ 8) (R : Room X.A 8) (hG : X.c.G = G) (hg : Gk "fdiv" (.ref (adr mg "fdiv")) G) (hg2 : Gk "divrem_school" (.ref (adr mg "divrem_school")) G) (hlw : Lk "w" (.int w' tw) l) (he : EvU w' X B mu l e x) (hf : EvU w' X B mu l f (d : Nat)) (hx : x.natAbs < 2 ^ 1000) (hd0 : 0 < d) (hd : d < 2 ^ w')
    (h1 : starEach [e, f, .Name "w" pw', .Name "divrem_school" pm] X.c.env = (false, eval e X.c.env) :: starEach [f, .Name "w" pw', .Name "divrem_school" pm] X.c.env := by rfl) (h2 : starEach [f, .Name "w" pw', .Name "divrem_school" pm] X.c.env = (false, eval f X.c.env) :: starEach [.Name "w" pw', .Name "divrem_school" pm] X.c.env := by rfl) :
    EvU w' X B mu l (.Subscript (.Call (.Name "fdiv" p) [e, f, .Name "w" pw', .Name "divrem_school" pm] [] pos) (.Constant (.int 1) k pc) ps) (x % d) := fun _ hb =>
  evb_tupB (j := 1) ((evb_fdiv Y hw hw2 R hG hg hg2 hlw (he.mono hb) (hf.mono hb) hx hd0 hd h1 h2).mono fun _ _ _ h => h.pair) (fun _ _ ⟨_, u2, hv, _, h2⟩ => ⟨u2, by rw [hv]; rfl, h2⟩) (by decide)
end

/-- what the digits tell, from the last one -/
noncomputable def tell (base : Int) (acc d : Int) : Int := acc * base + d
theorem fold_take {α β : Type} (g : β → α → β) (z : β) (l : List α) {i : Nat} {d : α} (h : l[i]? = some d) : (l.take (i + 1)).foldl g z = g ((l.take i).foldl g z) d := by
  rw [List.take_succ, h, List.foldl_append]
  rfl

inductive ReadI (w' : Nat) (base : Int) (Ds : List Int) (a : Addr) (tb tw : Tok) (B₀ : PH) (i : Nat) (B : PH) : List (Addr × Obj) → Locs → Prop
  | mk (q : Addr) (o : Option Value) : B₀.le B → SR w' B q ((Ds.reverse.take i).foldl (tell base) 0) → ReadI w' base Ds a tb tw B₀ i B [] [("digits", some (.ref a)), ("base", some (.int base tb)), ("w", some (.int w' tw)), ("found", some (.ref q)), ("digit", o)]
theorem read_spec (Y : Wd mg W) {B : PH} {a : Addr} {w' : Nat} {base : Int} {Ds : List Int} {tb tw : Tok} (hw : 0 < w') (hw2 : w' ≤ 8) (ha : DL w' B a Ds) (hl : Ds.length ≤ 1000) (hbase : base.natAbs < 2 ^ 900)
    (hacc : ∀ i, ((Ds.reverse.take i).foldl (tell base) 0).natAbs < 2 ^ 900 ∧ ((Ds.reverse.take i).foldl (tell base) 0 * base).natAbs < 2 ^ 1000) (hds : ∀ d ∈ Ds, d.natAbs < 2 ^ 1000) :
    Fn prog w W 7 (.ref (adr mg "_law_read")) [.ref a, .int base tb, .int w' tw] B (VS w' (Ds.reverse.foldl (tell base) 0)) := by
  obtain ⟨vs, n, hB, hv⟩ := ha
  have hlen := hv.length
  refine fn_of ["digits", "base", "w"] ["found", "digit"] [("s_add", .ref (adr mg "s_add")), ("s_mul", .ref (adr mg "s_mul")), ("_law_signed", .ref (adr mg "_law_signed")), ("mul_school", .ref (adr mg "mul_school"))] (isDef Y 34 27 (by rfl) (by kernel_rfl)) (fun _ _ _ => rfl) (by decide) (by decide) (by simp only [List.map_cons, List.map_nil]; decide)
    (gcons (f_s_add Y).1 (gcons (f_s_mul Y).1 (gcons (f_lsigned Y).1 (gcons (f_mul_school Y).1 gnil)))) ?_
  rintro X rfl rfl rfl hG hi R
  simp only [List.zip_cons_cons, List.zip_nil_right, List.map_cons, List.map_nil, List.cons_append, List.nil_append]
  refine ex_abs fun K hK => ?_
  refine ex_asg (EvU.at (w' := w') (z := 0) eu_nought) ?_
  rintro B₀ _ hB₀ ⟨f, rfl, hf⟩
  refine ⟨_, by walk_at "put", ?_⟩
  refine ex_forL (P := fun _ _ us => us = vs.reverse) R.h ((evb_rev (hB₀ _ _ hB) (by omega) (by walk_at "ev")).mono fun B' v _ ⟨r, hv, hr⟩ => ⟨r, _, _, hv, hr, rfl⟩)
    (fun _ _ => ReadI w' base Ds a tb tw B₀) ?_
  rintro B₁ r us hB₁ rfl
  refine ⟨⟨f, none, hB₁, hf.mono hB₁⟩, ?_, ?_⟩
  · rintro i v B₂ _ _ its hvi hB₂ ⟨q, o, hB₂', hq⟩ J hJ
    refine ⟨_, by walk_at "put", ?_⟩
    obtain ⟨d, hd, dd, rfl, hdd⟩ := (hv.rev.mono (hB₀.trans hB₂')).get hvi
    refine ex_asg (EvU.at (eu_add Y hw hw2 (R.less (by decide)) hG (by walk_at "gk") (by walk_at "lk") (eu_mul Y hw hw2 (R.less (by decide)) hG (by walk_at "gk") (by walk_at "gk") (by walk_at "lk") (eu_name (by walk_at "lk") hq)
      (eu_signed Y hw hw2 (R.less (by decide)) hG (by walk_at "gk") (by walk_at "lk") (fun _ _ => ev_nameI (by walk_at "lk")) (Nat.lt_of_lt_of_le hbase (Nat.pow_le_pow_right (by decide) (by decide)))) (Nat.lt_of_lt_of_le (hacc i).1 (Nat.pow_le_pow_right (by decide) (by decide))) (Nat.lt_of_lt_of_le hbase (Nat.pow_le_pow_right (by decide) (by decide))))
      (eu_name (by walk_at "lk") hdd) (hacc i).2 (hds d (List.mem_reverse.mp (List.mem_of_getElem? hd))))) ?_
    rintro B₃ _ hB₃ ⟨q', rfl, hq'⟩
    refine ⟨_, by walk_at "put", ex_nil ⟨[], rfl, hJ _ _ _ ⟨q', _, hB₂'.trans hB₃, ?_⟩⟩⟩
    rw [fold_take _ _ _ hd]
    exact hq'
  · rintro B₂ _ _ hB₂ ⟨q, o, hB₂', hq⟩
    refine ex_ret (EvU.at (eu_name (by walk_at "lk") hq)) fun B' v _ hv' => ?_
    rw [List.length_reverse, hlen, List.take_of_length_le (by rw [List.length_reverse]; exact Nat.le_refl _)] at hv'
    exact hK _ _ _ _ hv'
end
end
section
open PySem PySem.W PyProof.Rows PySem.Calls
set_option maxRecDepth 100000
set_option maxHeartbeats 1000000
section
variable {prog : Program} {w : World} {mg : Str → Option Value} {W : Heap}

/-- the row of noughts and ones of a pair -/
noncomputable def pd : Nat → Int → Int → List Int
  | 0, _, _ => []
  | k + 1, x, y => if x = 0 ∧ y = 0 then [] else ((x + y) % 2) :: pd k ((y - (x - (x + y) % 2)) / 2) (-((x - (x + y) % 2 + y) / 2))
noncomputable def PDone : Nat → Int → Int → Prop
  | 0, x, y => x = 0 ∧ y = 0
  | k + 1, x, y => (x = 0 ∧ y = 0) ∨ PDone k ((y - (x - (x + y) % 2)) / 2) (-((x - (x + y) % 2 + y) / 2))
theorem pd_zero (k : Nat) : pd k 0 0 = [] := by cases k <;> rfl
/-- between two bounds -/
noncomputable def Bd (K z : Int) : Prop := -K ≤ z ∧ z ≤ K
theorem Bd.abs {K z : Int} (h : Bd K z) (hK : K ≤ 100000) : z.natAbs < 2 ^ 1000 := Nat.lt_of_lt_of_le (show z.natAbs < 100001 by unfold Bd at h; omega) (by decide)
theorem Bd.abs4 {K z : Int} (h : Bd K z) (hK : K ≤ 100000) : z.natAbs < 2 ^ 4000 := Nat.lt_of_lt_of_le (show z.natAbs < 100001 by unfold Bd at h; omega) (by decide)
theorem Bd.sum {K x y : Int} (hx : Bd K x) (hy : Bd K y) : Bd (2 * K) (x + y) := by unfold Bd at *; omega
theorem Bd.low {K x d : Int} (hx : Bd K x) (hd : 0 ≤ d ∧ d < 2) : Bd (K + 1) (x - d) := by unfold Bd at *; omega
theorem Bd.dif {K x y d : Int} (hx : Bd K x) (hy : Bd K y) (hd : 0 ≤ d ∧ d < 2) : Bd (2 * K + 1) (y - (x - d)) := by unfold Bd at *; omega
theorem Bd.add {K x y d : Int} (hx : Bd K x) (hy : Bd K y) (hd : 0 ≤ d ∧ d < 2) : Bd (2 * K + 1) (x - d + y) := by unfold Bd at *; omega
theorem Bd.half {K z : Int} (h : Bd (2 * K + 1) z) : Bd (K + 1) (z / 2) := by unfold Bd at *; omega
theorem Bd.halfn {K z : Int} (h : Bd (2 * K + 1) z) : Bd (K + 1) (-(z / 2)) := by unfold Bd at *; omega
theorem Bd.neg {K z : Int} (h : Bd K z) : Bd K (-z) := by unfold Bd at *; omega
theorem Bd.up {K K' z : Int} (h : Bd K z) (hK : K ≤ K') : Bd K' z := by unfold Bd at *; omega
theorem two_range (z : Int) : 0 ≤ z % 2 ∧ z % 2 < 2 := ⟨Int.emod_nonneg _ (by decide), Int.emod_lt_of_pos _ (by decide)⟩
theorem len_zero {w' : Nat} (hw : 0 < w') (z : Int) : (((limbs w' z.natAbs).length : Nat) : Int) = 0 ↔ z = 0 := by
  have := limbs_len0 (n := z.natAbs) hw
  omega
theorem two_spec {X : Cx} {B : PH} {mu : List (Addr × Obj)} {l : Locs} {w' : Nat} (hw : 0 < w') (h2 : 2 < 2 ^ w') {k kt : Nat} {k2 : Nat} {p0 p1 p2 pos : Pos} (h1 : starEach [.Constant (.bool false) k p0, .List [.Constant (.int 2) k2 p2] p1] X.c.env = (false, eval (.Constant (.bool false) k p0) X.c.env) :: starEach [.List [.Constant (.int 2) k2 p2] p1] X.c.env := by rfl)
    (h2' : starEach [.List [.Constant (.int 2) k2 p2] p1] X.c.env = (false, eval (.List [.Constant (.int 2) k2 p2] p1) X.c.env) :: starEach [] X.c.env := by rfl) (h3 : starEach [.Constant (.int 2) k2 p2] X.c.env = (false, eval (.Constant (.int 2) k2 p2) X.c.env) :: starEach [] X.c.env := by rfl) :
    EvB X B mu l (.Tuple [.Constant (.bool false) k p0, .List [.Constant (.int 2) k2 p2] p1] kt pos) (VS w' 2) :=
  (evb_tuple (P := fun B₂ vs => ∃ r, vs = [.bool false, .ref r] ∧ NL B₂ r [2]) (evs_cons (P := VB false) ev_bool (fun _ e1 => evs_consB (evb_list (evs1 ev_int h3) (by rintro _ _ ⟨_, _, rfl, _⟩; simp)) (fun B₁ v _ hv => evs_nil (by
    obtain ⟨_, r, _, ⟨_, _, rfl, t, rfl⟩, _, _, rfl, hr⟩ := hv
    exact ⟨r, by rw [e1], _, _, hr, .cons 2 t .nil⟩)) h2') h1) (by rintro _ _ ⟨r, rfl, _⟩; simp)).mono fun B₂ v _ ⟨B₁, p, vs, hv, _, hb, hp, ht⟩ => by
    obtain ⟨r, rfl, hr⟩ := hv
    exact ⟨p, hp, r, ht, by rw [show (2 : Int).natAbs = 2 from rfl, limbs_one hw (by decide) h2]; exact hr.mono hb⟩

section
variable {X : Cx} {B : PH} {mu : List (Addr × Obj)} {l : Locs} {w' : Nat} {G : List (Str × Value)} {e f : Expr} {p pw' pos : Pos} {x : Int} {tw : Tok}
theorem eu_half0 {k : Nat} {pm pc ps : Pos} (Y : Wd mg X.c.W) (hw : 0 < w') (hw2 : w' ≤ 8) (R : Room X.A 8) (hG : X.c.G = G) (hg : Gk "fdiv" (.ref (adr mg "fdiv")) G) (hg2 : Gk "divrem_school" (.ref (adr mg "divrem_school")) G) (hlw : Lk "w" (.int w' tw) l) (he : EvU w' X B mu l e x) (hf : EvU w' X B mu l f 2) (hx : x.natAbs < 2 ^ 1000) (hd : 2 < 2 ^ w')
    (h1 : starEach [e, f, .Name "w" pw', .Name "divrem_school" pm] X.c.env = (false, eval e X.c.env) :: starEach [f, .Name "w" pw', .Name "divrem_school" pm] X.c.env := by rfl) (h2 : starEach [f, .Name "w" pw', .Name "divrem_school" pm] X.c.env = (false, eval f X.c.env) :: starEach [.Name "w" pw', .Name "divrem_school" pm] X.c.env := by rfl) :
    EvU w' X B mu l (.Subscript (.Call (.Name "fdiv" p) [e, f, .Name "w" pw', .Name "divrem_school" pm] [] pos) (.Constant (.int 0) k pc) ps) (x / 2) := eu_fdiv0 (d := 2) Y hw hw2 R hG hg hg2 hlw he hf hx (by decide) hd h1 h2
theorem eu_half1 {k : Nat} {pm pc ps : Pos} (Y : Wd mg X.c.W) (hw : 0 < w') (hw2 : w' ≤ 8) (R : Room X.A 8) (hG : X.c.G = G) (hg : Gk "fdiv" (.ref (adr mg "fdiv")) G) (hg2 : Gk "divrem_school" (.ref (adr mg "divrem_school")) G) (hlw : Lk "w" (.int w' tw) l) (he : EvU w' X B mu l e x) (hf : EvU w' X B mu l f 2) (hx : x.natAbs < 2 ^ 1000) (hd : 2 < 2 ^ w')
    (h1 : starEach [e, f, .Name "w" pw', .Name "divrem_school" pm] X.c.env = (false, eval e X.c.env) :: starEach [f, .Name "w" pw', .Name "divrem_school" pm] X.c.env := by rfl) (h2 : starEach [f, .Name "w" pw', .Name "divrem_school" pm] X.c.env = (false, eval f X.c.env) :: starEach [.Name "w" pw', .Name "divrem_school" pm] X.c.env := by rfl) :
    EvU w' X B mu l (.Subscript (.Call (.Name "fdiv" p) [e, f, .Name "w" pw', .Name "divrem_school" pm] [] pos) (.Constant (.int 1) k pc) ps) (x % 2) := eu_fdiv1 (d := 2) Y hw hw2 R hG hg hg2 hlw he hf hx (by decide) hd h1 h2
end
inductive PairI (w' : Nat) (x y : Int) (p f : Addr) (tw : Tok) (B₀ : PH) (i : Nat) (B : PH) : List (Addr × Obj) → Locs → Prop
  | mk (vs : List Value) (n : Nat) (ds : List Int) (x' y' : Int) (a' b' : Addr) (o1 o2 : Option Value) : i ≤ 59 → B₀.le B → VDs w' B vs ds → ds.length = i → ds ++ pd (60 - i) x' y' = pd 60 x y → SR w' B a' x' → SR w' B b' y' → Bd (1000 + (i : Nat)) x' → Bd (1000 + (i : Nat)) y' → PDone (59 - i) x' y' →
    PairI w' x y p f tw B₀ i B [(f, listOf (List.toArray vs) n)] [("x", some (.ref a')), ("y", some (.ref b')), ("w", some (.int w' tw)), ("two", some (.ref p)), ("found", some (.ref f)), ("turn", o1), ("digit", o2)]
inductive PairH (w' : Nat) (z1 z2 : Int) (B : PH) (m : List (Addr × Obj)) : List (Addr × Obj) → List Value → Prop
  | mk (q r : Addr) : SR w' B q z1 → SR w' B r z2 → PairH w' z1 z2 B m m [.ref q, .ref r]
theorem pair_digits_spec (Y : Wd mg W) {B : PH} {a b : Addr} {w' : Nat} {x y : Int} {tw : Tok} (hw : 4 ≤ w') (hw2 : w' ≤ 8) (ha : SR w' B a x) (hb : SR w' B b y) (hx : Bd 1000 x) (hy : Bd 1000 y) (hd : PDone 59 x y) :
    Fn prog w W 9 (.ref (adr mg "_law_pair_digits")) [.ref a, .ref b, .int w' tw] B (fun B' v => ∃ r, v = .ref r ∧ DL w' B' r (pd 60 x y)) := by
  have hw0 : 0 < w' := by omega
  have h2w : 2 < 2 ^ w' := Nat.lt_of_lt_of_le (by decide : 2 < 2 ^ 4) (Nat.pow_le_pow_right (by decide) hw)
  refine fn_of ["x", "y", "w"] ["two", "found", "turn", "digit"] [("len", .builtin "len"), ("range", .type "range"), ("fdiv", .ref (adr mg "fdiv")), ("s_add", .ref (adr mg "s_add")), ("s_sub", .ref (adr mg "s_sub")), ("s_neg", .ref (adr mg "s_neg")), ("divrem_school", .ref (adr mg "divrem_school"))]
    (isDef Y 36 29 (by rfl) (by kernel_rfl)) (fun _ _ _ => rfl) (by decide) (by decide) (by simp only [List.map_cons, List.map_nil]; decide)
    (gcons (g_len Y) (gcons (g_range Y) (gcons (f_fdiv Y).1 (gcons (f_s_add Y).1 (gcons (f_s_sub Y).1 (gcons (f_s_neg Y).1 (gcons (f_divrem_school Y).1 gnil))))))) ?_
  rintro X rfl rfl rfl hG hi R
  simp only [List.zip_cons_cons, List.zip_nil_right, List.map_cons, List.map_nil, List.cons_append, List.nil_append]
  refine ex_abs fun K hK => ?_
  refine ex_swap2m (P := fun B' mu' vs => ∃ p f n, vs = [.ref p, .ref f] ∧ mu' = [(f, listOf ([] : List Value).toArray n)] ∧ SR w' B' p 2) R.h
    (evsm_cons (two_spec hw0 h2w) fun B' v _ hv => evsm_new evm_nil fun f us n hu => evsm_nil ?_) ?_
  · obtain ⟨p, rfl, hp⟩ := hv
    subst hu
    exact ⟨p, f, n, rfl, rfl, hp⟩
  rintro B₀ _ _ hB₀ ⟨p, f, n, rfl, rfl, hp⟩
  refine ⟨_, _, _, _, rfl, by walk_at "put", by walk_at "put", ?_⟩
  refine ex_forUp (a := 0) (b := 60) R.h (ev_range1 hG (by walk_at "gk") ev_int) (by decide) (by decide)
    (PairI w' x y p f tw B₀) ⟨[], n, [], x, y, a, b, none, none, by decide, PH.le.refl _, trivial, rfl, rfl, ha.mono hB₀, hb.mono hB₀, hx, hy, hd⟩ ?_ ?_
  · rintro i tk B₁ _ _ its - hlt - ⟨vs, n, ds, x', y', a', b', o1, o2, hi39, hB₁, hds, hdl, hnd, sa, sb, bx, by', hD⟩ J hJ
    refine ⟨_, by walk_at "put", ?_⟩
    have hKk : (1000 : Int) + (i : Nat) ≤ 10000 := by omega
    have hx1 := bx.abs (Int.le_trans hKk (by decide))
    have hy1 := by'.abs (Int.le_trans hKk (by decide))
    have la := limbs_len hw0 hx1
    have lb := limbs_len hw0 hy1
    obtain ⟨l1, t1, n1⟩ := id sa
    obtain ⟨l2, t2, n2⟩ := id sb
    refine ex_if (b := decide (x' = 0 ∧ y' = 0)) (tst_of (tst_and (tst_eq (ev_lenN hG (by walk_at "gk") (ev_tup (P := VR l1) t1 (by walk_at "ev") rfl rfl (by decide)) n1 (by omega)) ev_int) fun _ => tst_and (tst_eq (ev_lenN hG (by walk_at "gk") (ev_tup (P := VR l2) t2 (by walk_at "ev") rfl rfl (by decide)) n2 (by omega)) ev_int) fun _ => tst_and_nil) ?_) (fun h => ?_) (fun h => ex_nil ?_)
    · rw [Bool.eq_iff_iff]
      simp only [Bool.and_true, Bool.and_eq_true, beq_iff_eq, decide_eq_true_eq]
      rw [len_zero hw0, len_zero hw0]
    · obtain ⟨h0, h0'⟩ : x' = 0 ∧ y' = 0 := of_decide_eq_true h
      subst h0 h0'
      rw [pd_zero, List.append_nil] at hnd
      refine ex_freeze fun hb => ex_ret (ev_nameR (a := f) (by walk_at "lk")).up fun B' v _ ⟨hB, hv⟩ => ?_
      subst hB
      exact hK _ _ _ _ ⟨f, hv, vs, n, PH.add_self _ _ _, by rw [← hnd]; exact hds.mono hb⟩
    · have h0 : ¬ (x' = 0 ∧ y' = 0) := of_decide_eq_false h
      have hp1 := hp.mono hB₁
      have hK2 : 2 * ((1000 : Int) + (i : Nat)) + 1 ≤ 100000 := by omega
      have hK1 : ((1000 : Int) + (i : Nat)) + 1 ≤ 100000 := by omega
      have hd2 := two_range (x' + y')
      have hs2 := (bx.sum by').abs (Int.le_trans (Int.le_add_of_nonneg_right (by decide)) hK2)
      refine ex_asg (EvU.at (eu_half1 Y hw0 hw2 (R.less (by decide)) hG (by walk_at "gk") (by walk_at "gk") (by walk_at "lk") (eu_add Y hw0 hw2 (R.less (by decide)) hG (by walk_at "gk") (by walk_at "lk") (eu_name (by walk_at "lk") sa) (eu_name (by walk_at "lk") sb) hx1 hy1) (eu_name (by walk_at "lk") hp1) hs2 h2w)) ?_
      rintro B₂ _ hB₂ ⟨d, rfl, hd'⟩
      refine ⟨_, by walk_at "put", ?_⟩
      have hdb : ((x' + y') % 2).natAbs < 2 ^ 1000 := Bd.abs (K := 2) ⟨by omega, by omega⟩ (by decide)
      refine ex_asg (EvU.at (eu_sub Y hw0 hw2 (R.less (by decide)) hG (by walk_at "gk") (by walk_at "lk") (eu_name (by walk_at "lk") (sa.mono hB₂)) (eu_name (by walk_at "lk") hd') hx1 hdb)) ?_
      rintro B₃ _ hB₃ ⟨a3, rfl, h3⟩
      refine ⟨_, by walk_at "put", ?_⟩
      have hx3 := (bx.low hd2).abs hK1
      have bsb := bx.dif by' hd2
      have bsa := bx.add by' hd2
      have hsb := bsb.abs hK2
      have hsa := bsa.abs hK2
      have sb3 := sb.mono (hB₂.trans hB₃)
      have hp3 := hp1.mono (hB₂.trans hB₃)
      refine ex_swap2m (P := fun B' => PairH w' ((y' - (x' - (x' + y') % 2)) / 2) (-((x' - (x' + y') % 2 + y') / 2)) B' ((f, listOf (List.toArray vs) n) :: its)) R.h
        (evsm_cons (EvU.at (eu_half0 Y hw0 hw2 (R.less (by decide)) hG (by walk_at "gk") (by walk_at "gk") (by walk_at "lk") (eu_sub Y hw0 hw2 (R.less (by decide)) hG (by walk_at "gk") (by walk_at "lk") (eu_name (by walk_at "lk") sb3) (eu_name (by walk_at "lk") h3) hy1 hx3) (eu_name (by walk_at "lk") hp3) hsb h2w)) fun B₄ v hB₄ hv =>
          evsm_cons (EvU.at (EvU.mono (eu_neg Y hw0 (R.less (by decide)) hG (by walk_at "gk") (eu_half0 Y hw0 hw2 (R.less (by decide)) hG (by walk_at "gk") (by walk_at "gk") (by walk_at "lk") (eu_add Y hw0 hw2 (R.less (by decide)) hG (by walk_at "gk") (by walk_at "lk") (eu_name (by walk_at "lk") h3) (eu_name (by walk_at "lk") sb3) hx3 hy1) (eu_name (by walk_at "lk") hp3) hsa h2w) ?_) hB₄)) fun B₅ u hB₅ hu => evsm_nil ?_) ?_
      · exact bsa.half.abs4 hK1
      · obtain ⟨q, rfl, hq⟩ := hv
        obtain ⟨r, rfl, hr⟩ := hu
        exact ⟨q, r, hq.mono hB₅, hr⟩
      rintro B₅ _ _ hB₅ ⟨q, r, hq, hr⟩
      refine ⟨_, _, _, _, rfl, by walk_at "put", by walk_at "put", ?_⟩
      refine ex_append' (VR d) hi (by walk_at "lk") (ev_nameR (by walk_at "lk")) (by rw [hds.length]; omega) ?_
      rintro _ n' rfl
      have hne : 59 - i ≠ 0 := fun e => by rw [e] at hD; exact h0 hD
      have hD' : PDone (59 - (i + 1)) ((y' - (x' - (x' + y') % 2)) / 2) (-((x' - (x' + y') % 2 + y') / 2)) := by
        rw [show 59 - i = (59 - (i + 1)) + 1 by omega] at hD
        exact hD.resolve_left h0
      refine ex_nil ⟨[_], rfl, hJ _ _ _ ⟨_, n', ds ++ [(x' + y') % 2], _, _, q, r, _, _, by omega, hB₁.trans (hB₂.trans (hB₃.trans hB₅)), VDs.snoc ⟨d, rfl, hd'.mono (hB₃.trans hB₅)⟩ (hds.mono (hB₂.trans (hB₃.trans hB₅))), by rw [List.length_append, hdl]; rfl, ?_, hq, hr, bsb.half.up (Int.le_of_eq (by omega)), bsa.halfn.up (Int.le_of_eq (by omega)), hD'⟩⟩
      rw [← hnd, show 60 - i = (60 - (i + 1)) + 1 by omega, pd, if_neg h0, List.append_assoc]
      rfl
  · rintro B₁ _ _ - ⟨_, _, _, _, _, _, _, _, _, hi39⟩
    exact absurd hi39 (by decide)

/-- what a row of noughts and ones tells -/
noncomputable def ptell (p : Int × Int) (d : Int) : Int × Int := (-(p.1 + p.2) + d, p.1 - p.2)
inductive PReadI (w' : Nat) (Ds : List Int) (a : Addr) (tw : Tok) (B₀ : PH) (i : Nat) (B : PH) : List (Addr × Obj) → Locs → Prop
  | mk (p q : Addr) (o : Option Value) : B₀.le B → SR w' B p ((Ds.reverse.take i).foldl ptell (0, 0)).1 → SR w' B q ((Ds.reverse.take i).foldl ptell (0, 0)).2 → PReadI w' Ds a tw B₀ i B [] [("digits", some (.ref a)), ("w", some (.int w' tw)), ("x", some (.ref p)), ("y", some (.ref q)), ("digit", o)]
theorem pair_read_spec (Y : Wd mg W) {B : PH} {a : Addr} {w' : Nat} {Ds : List Int} {tw : Tok} (hw : 0 < w') (hw2 : w' ≤ 8) (ha : DL w' B a Ds) (hl : Ds.length ≤ 1000)
    (hacc : ∀ i, Bd 1000 ((Ds.reverse.take i).foldl ptell (0, 0)).1 ∧ Bd 1000 ((Ds.reverse.take i).foldl ptell (0, 0)).2) (hds : ∀ d ∈ Ds, d.natAbs < 2 ^ 1000) :
    Fn prog w W 7 (.ref (adr mg "_law_pair_read")) [.ref a, .int w' tw] B (VP w' (Ds.reverse.foldl ptell (0, 0)).1 (Ds.reverse.foldl ptell (0, 0)).2) := by
  obtain ⟨vs, n, hB, hv⟩ := ha
  have hlen := hv.length
  refine fn_of ["digits", "w"] ["x", "y", "digit"] [("s_add", .ref (adr mg "s_add")), ("s_neg", .ref (adr mg "s_neg")), ("s_sub", .ref (adr mg "s_sub"))] (isDef Y 37 30 (by rfl) (by kernel_rfl)) (fun _ _ _ => rfl) (by decide) (by decide) (by simp only [List.map_cons, List.map_nil]; decide)
    (gcons (f_s_add Y).1 (gcons (f_s_neg Y).1 (gcons (f_s_sub Y).1 gnil))) ?_
  rintro X rfl rfl rfl hG hi R
  simp only [List.zip_cons_cons, List.zip_nil_right, List.map_cons, List.map_nil, List.cons_append, List.nil_append]
  refine ex_abs fun K hK => ?_
  refine ex_swap2m (P := fun B' => PairH w' 0 0 B' []) R.h (evsm_cons (EvU.at (w' := w') (z := 0) eu_nought) fun B₁ v hB₁ hv => evsm_cons (EvU.at (w' := w') (z := 0) eu_nought) fun B₂ u hB₂ hu => evsm_nil ?_) ?_
  · obtain ⟨p, rfl, hp⟩ := hv
    obtain ⟨q, rfl, hq⟩ := hu
    exact ⟨p, q, hp.mono hB₂, hq⟩
  rintro B₀ _ _ hB₀ ⟨p, q, hp, hq⟩
  refine ⟨_, _, _, _, rfl, by walk_at "put", by walk_at "put", ?_⟩
  refine ex_forL (P := fun _ _ us => us = vs.reverse) R.h ((evb_rev (hB₀ _ _ hB) (by omega) (by walk_at "ev")).mono fun B' v _ ⟨r, hv, hr⟩ => ⟨r, _, _, hv, hr, rfl⟩)
    (fun _ _ => PReadI w' Ds a tw B₀) ?_
  rintro B₁ r us hB₁ rfl
  refine ⟨⟨p, q, none, hB₁, hp.mono hB₁, hq.mono hB₁⟩, ?_, ?_⟩
  · clear hp hq
    rintro i v B₂ _ _ its hvi hB₂ ⟨p, q, o, hB₂', hp, hq⟩ J hJ
    refine ⟨_, by walk_at "put", ?_⟩
    obtain ⟨d, hd, dd, rfl, hdd⟩ := (hv.rev.mono (hB₀.trans hB₂')).get hvi
    have hb := hacc i
    generalize hpt : (Ds.reverse.take i).foldl ptell (0, 0) = pt at hp hq hb
    have h1 := hb.1.abs (by decide)
    have h2 := hb.2.abs (by decide)
    have h3 := (hb.1.sum hb.2).neg.abs (by decide)
    refine ex_swap2m (P := fun B' => PairH w' (ptell pt d).1 (ptell pt d).2 B' its) R.h
      (evsm_cons (EvU.at (eu_add Y hw hw2 (R.less (by decide)) hG (by walk_at "gk") (by walk_at "lk") (eu_neg Y hw (R.less (by decide)) hG (by walk_at "gk") (eu_add Y hw hw2 (R.less (by decide)) hG (by walk_at "gk") (by walk_at "lk") (eu_name (by walk_at "lk") hp) (eu_name (by walk_at "lk") hq) h1 h2) ((hb.1.sum hb.2).abs4 (by decide))) (eu_name (by walk_at "lk") hdd) h3 (hds d (List.mem_reverse.mp (List.mem_of_getElem? hd))))) fun B₃ v hB₃ hv =>
        evsm_cons (EvU.at (EvU.mono (eu_sub Y hw hw2 (R.less (by decide)) hG (by walk_at "gk") (by walk_at "lk") (eu_name (by walk_at "lk") hp) (eu_name (by walk_at "lk") hq) h1 h2) hB₃)) fun B₄ u hB₄ hu => evsm_nil ?_) ?_
    · obtain ⟨q, rfl, hq⟩ := hv
      obtain ⟨r, rfl, hr⟩ := hu
      exact ⟨q, r, hq.mono hB₄, hr⟩
    rintro B₄ _ _ hB₄ ⟨p', q', hp', hq'⟩
    refine ⟨_, _, _, _, rfl, by walk_at "put", by walk_at "put", ex_nil ⟨[], rfl, hJ _ _ _ ⟨p', q', _, hB₂'.trans hB₄, ?_, ?_⟩⟩⟩
    · rw [fold_take _ _ _ hd, hpt]; exact hp'
    · rw [fold_take _ _ _ hd, hpt]; exact hq'
  · clear hp hq
    rintro B₂ _ _ hB₂ ⟨p, q, o, hB₂', hp, hq⟩
    rw [List.length_reverse, hlen, List.take_of_length_le (by rw [List.length_reverse]; exact Nat.le_refl _)] at hp hq
    refine ex_ret (evb_tuple (evs2 (ev_nameR (by walk_at "lk")) (ev_nameR (by walk_at "lk"))) (by rintro _ _ ⟨_, _, _, rfl, _⟩; simp)) ?_
    rintro B₃ v _ ⟨_, t, vs, ⟨rfl, _, _, rfl, rfl, rfl⟩, _, hB₃, rfl, ht⟩
    exact hK _ _ _ _ ⟨t, p, q, rfl, ht, hp.mono hB₃, hq.mono hB₃⟩
end
end
section
open PySem PySem.W PyProof.Rows PySem.Calls
set_option maxRecDepth 100000
set_option maxHeartbeats 1000000
section
variable {prog : Program} {w : World} {mg : Str → Option Value} {W : Heap}

theorem Done.zero (b : Int) (k : Nat) : Done b k 0 := by cases k <;> first | rfl | exact .inl rfl
theorem nd_nil {b : Int} {k : Nat} {z : Int} (hd : Done b k z) (h : nd b k z = []) : z = 0 := by
  cases k with
  | zero => exact hd
  | succ k =>
    refine Classical.byContradiction fun h0 => ?_
    rw [nd, if_neg h0] at h
    cases h
theorem zero_of {b : Nat} {m : Int} (h1 : -(m / (b : Int)) = 0) (h2 : m % (b : Int) = 0) : m = 0 := by
  have := Int.mul_ediv_add_emod m b
  rw [h2, show m / (b : Int) = 0 by omega] at this
  simpa using this.symm
theorem norm_cons (d : Nat) (r : List Nat) (h : norm r = [] → d ≠ 0) : norm (d :: r) = d :: norm r := by
  rw [norm]
  split
  · rename_i e; rw [if_neg (h e), e]
  · rfl
theorem norm_cons0 (r : List Nat) (h : norm r = []) : norm (0 :: r) = [] := by rw [norm, h]; rfl
theorem znat_inj : ∀ {L M : List Nat}, znat L = znat M → L = M
  | [], [], _ => rfl
  | a :: L, b :: M, h => by
    have h1 := (List.cons.inj h).1
    have h2 := znat_inj (List.cons.inj h).2
    rw [h2, Int.ofNat.inj h1]
/-- a row of digits has no nought at its end -/
theorem norm_nd {b : Nat} : ∀ {k : Nat} {m : Int} {L : List Nat}, Done b k m → znat L = nd b k m → norm L = L
  | 0, _, [], _, _ => rfl
  | 0, _, _ :: _, _, h => nomatch h
  | k + 1, m, [], _, _ => rfl
  | k + 1, m, d :: L, hd, h => by
    by_cases h0 : m = 0
    · rw [nd, if_pos h0] at h; cases h
    · rw [nd, if_neg h0] at h
      have h1 : ((d : Nat) : Int) = m % b := (List.cons.inj h).1
      have h2 : znat L = nd b k (-(m / b)) := (List.cons.inj h).2
      have hd' := hd.resolve_left h0
      have ih := norm_nd hd' h2
      rw [norm_cons d L, ih]
      intro hn hd0
      rw [ih] at hn
      subst hn hd0
      exact h0 (zero_of (nd_nil hd' h2.symm) h1.symm)
/-- the first digits, noughts at the end let stand -/
inductive Exp (b : Nat) : List Nat → Int → Int → Prop
  | nil {m : Int} : Exp b [] m m
  | cons {d : Nat} {P : List Nat} {m m' : Int} (h : ((d : Nat) : Int) = m % b) (r : Exp b P (-(m / b)) m') : Exp b (d :: P) m m'
theorem Exp.snoc {b d : Nat} {P : List Nat} {m m' : Int} (h : Exp b P m m') (hd : ((d : Nat) : Int) = m' % b) : Exp b (P ++ [d]) m (-(m' / b)) := by
  induction h with
  | nil => exact .cons hd .nil
  | cons h _ ih => exact .cons h (ih hd)
theorem nd_fuel {b : Int} : ∀ {k K : Nat} {z : Int}, Done b k z → Done b K z → nd b k z = nd b K z
  | 0, K, z, h, _ => by have : z = 0 := h; subst this; rw [nd_zero, nd_zero]
  | k + 1, 0, z, _, h => by have : z = 0 := h; subst this; rw [nd_zero, nd_zero]
  | k + 1, K + 1, z, h, h' => by
    by_cases h0 : z = 0
    · subst h0; rw [nd_zero, nd_zero]
    · rw [nd, nd, if_neg h0, if_neg h0, nd_fuel (h.resolve_left h0) (h'.resolve_left h0)]
theorem Exp.fin {b : Nat} {P R : List Nat} {m m' : Int} (h : Exp b P m m') {k : Nat} (hr : Done b k m') (hR : znat R = nd b k m') : ∀ {K : Nat}, Done b K m → znat (norm (P ++ R)) = nd b K m := by
  induction h with
  | nil =>
    intro K hK
    rw [List.nil_append, norm_nd hr hR, hR, nd_fuel hr hK]
  | @cons d P m m' hd r ih =>
    intro K hK
    by_cases h0 : m = 0
    · subst h0
      have hd0 : d = 0 := by simpa using hd
      subst hd0
      have := ih hr hR (K := K) (by simpa using Done.zero b K)
      simp only [Int.zero_ediv, Int.neg_zero, nd_zero] at this
      rw [List.cons_append, norm_cons0 _ (List.map_eq_nil_iff.mp this), nd_zero]
      rfl
    · cases K with
      | zero => exact absurd hK h0
      | succ K =>
        have hK' := hK.resolve_left h0
        have h1 := ih hr hR hK'
        rw [List.cons_append, norm_cons, nd, if_neg h0, ← h1, ← hd]
        · rfl
        · intro hn hd0
          rw [hn] at h1
          subst hd0
          exact h0 (zero_of (nd_nil hK' h1.symm) hd.symm)
theorem norm_snoc0 : ∀ L : List Nat, norm (L ++ [0]) = norm L
  | [] => rfl
  | d :: r => by rw [List.cons_append, norm, norm, norm_snoc0 r]

theorem Done.succ {b : Int} : ∀ {k : Nat} {z : Int}, Done b k z → Done b (k + 1) z
  | 0, _, h => .inl h
  | _ + 1, _, .inl h => .inl h
  | _ + 1, _, .inr h => .inr (Done.succ h)
theorem ints_snoc {vs : List Value} {ns : List Int} {k : Int} (h : IntsAre vs (ns ++ [k])) : ∃ us t, vs = us ++ [Value.int k t] ∧ IntsAre us ns := by
  induction ns generalizing vs with
  | nil =>
    cases h with
    | cons _ t h => cases h; exact ⟨[], t, rfl, .nil⟩
  | cons n r ih =>
    cases h with
    | cons _ t h =>
      obtain ⟨us, t', hu, h'⟩ := ih h
      exact ⟨_ :: us, t', by rw [hu]; rfl, .cons n t h'⟩
/-- carries, one digit on -/
theorem carry_on {b : Nat} {zc c d : Int} (hb : 2 ≤ b) (hd : d = zc % b) (hc : -1 ≤ c ∧ c ≤ 1) :
    (d + c) % b = (zc + c) % b ∧ -((zc + c) / b) = -(zc / b) + -((d + c) / b) ∧ -1 ≤ -((d + c) / b) ∧ -((d + c) / b) ≤ 1 ∧ 0 ≤ (d + c) % b ∧ (zc + c) % b < b := by
  have h1 := Int.mul_ediv_add_emod zc b
  have h2 : zc + c = (d + c) + b * (zc / b) := by omega
  have hb0 : (b : Int) ≠ 0 := by omega
  have h3 : (zc + c) % b = (d + c) % b := by rw [h2, Int.add_mul_emod_self_left]
  have h4 : (zc + c) / b = (d + c) / b + zc / b := by rw [h2, Int.add_mul_ediv_left _ _ hb0]
  have h5 : 0 ≤ d := hd ▸ Int.emod_nonneg _ hb0
  have h6 : d < b := hd ▸ Int.emod_lt_of_pos _ (by omega)
  have h7 : -1 ≤ (d + c) / (b : Int) := (Int.le_ediv_iff_mul_le (by omega)).mpr (by omega)
  have h8 : (d + c) / (b : Int) < 2 := (Int.ediv_lt_iff_lt_mul (by omega)).mpr (by omega)
  have h9 := Int.emod_nonneg (d + c) hb0
  have h10 := Int.emod_lt_of_pos (zc + c) (show (0 : Int) < b by omega)
  refine ⟨h3.symm, ?_, ?_, ?_, h9, h10⟩
  · rw [h4, Int.neg_add, Int.add_comm]
  · omega
  · omega

theorem swapped_sub {env : Env} {o i e f : Expr} {y : Str} {ip py pt p' : Pos} {kt k' : Nat} : swappedStores [.Tuple [.Subscript o i ip, .Name y py] kt pt] (.Tuple [e, f] k' p') env = pure none := by
  unfold swappedStores
  simp only [List.filterMap_cons, List.filterMap_nil]
  split
  · rfl
  · split
    · rfl
    · refine if_pos ?_
      rw [Bool.or_eq_true]
      left
      split
      · rfl
      · rename_i h
        split at h
        · cases h; rfl
        · cases h
/-- how far the carry may run -/
noncomputable def far (R : List Nat) (c : Int) : Nat := 3 * R.length + (if c = 0 then 0 else if c = 1 then 1 else 2)

inductive MoreI (b : Nat) (z : Int) (a f : Addr) (tb : Tok) (B : PH) (m : Nat) : PH → List (Addr × Obj) → Locs → Prop
  | mk (vs : List Value) (n : Nat) (P R : List Nat) (zc c : Int) (k : Nat) (ta tc : Tok) (o : Option Value) : IntsAre vs (znat (P ++ R)) → Exp b P (z + 1) (zc + c) → znat R = nd b k zc → Done b k zc → -1 ≤ c → c ≤ 1 → m = far R c → m + P.length ≤ 200 → R.length ≤ 40 →
    MoreI b z a f tb B m B [(f, listOf (List.toArray vs) n)] [("digits", some (.ref a)), ("base", some (.int (-(b : Nat)) tb)), ("found", some (.ref f)), ("at", some (.int (P.length : Nat) ta)), ("carry", some (.int c tc)), ("worth", o)]
inductive MoreJ (b m : Nat) (zc c : Int) (P : List Nat) (a f : Addr) (tb ta tc : Tok) (o : Option Value) (B : PH) : PH → List (Addr × Obj) → Locs → Prop
  | mk (vs : List Value) (n d : Nat) (Q : List Nat) (k' : Nat) : IntsAre vs (znat (P ++ d :: Q)) → ((d : Nat) : Int) = zc % b → znat Q = nd b k' (-(zc / b)) → Done b k' (-(zc / b)) → Q.length ≤ 40 → (∀ c', -1 ≤ c' → c' ≤ 1 → (zc = 0 → c' = -((zc + c) / b)) → far Q c' < m) →
    MoreJ b m zc c P a f tb ta tc o B B [(f, listOf (List.toArray vs) n)] [("digits", some (.ref a)), ("base", some (.int (-(b : Nat)) tb)), ("found", some (.ref f)), ("at", some (.int (P.length : Nat) ta)), ("carry", some (.int c tc)), ("worth", o)]
inductive MoreE (f : Addr) (L : List Nat) (B : PH) (m : Nat) : PH → List (Addr × Obj) → Locs → Prop
  | mk (vs : List Value) (n : Nat) (F : List Nat) (l : Locs) : Lk "found" (.ref f) l → IntsAre vs (znat F) → F.length = m → F.length ≤ 300 → norm F = norm L → MoreE f L B m B [(f, listOf (List.toArray vs) n)] l
theorem more_spec (Y : Wd mg W) {B : PH} {a : Addr} {b : Nat} {z : Int} {L : List Nat} {tb : Tok} (hb : 2 ≤ b) (hb9 : b ≤ 9) (ha : NL B a L) (hL : znat L = nd b 40 z) (hLl : L.length ≤ 40) (hd : Done b 39 z) (hd' : Done b 39 (z + 1)) :
    Fn prog w W 7 (.ref (adr mg "_law_more")) [.ref a, .int (-(b : Nat)) tb] B (fun B' v => ∃ r M, v = .ref r ∧ NL B' r M ∧ znat M = nd b 39 (z + 1)) := by
  obtain ⟨vs, n, hB, hI⟩ := id ha
  have hlen := hI.length
  rw [List.length_map] at hlen
  refine fn_of ["digits", "base"] ["found", "at", "carry", "worth"] [("len", .builtin "len")] (isDef Y 35 28 (by rfl) (by kernel_rfl)) (fun _ _ _ => rfl) (by decide) (by decide) (by simp only [List.map_cons, List.map_nil]; decide)
    (gcons (g_len Y) gnil) ?_
  rintro X rfl rfl rfl hG hi R
  simp only [List.zip_cons_cons, List.zip_nil_right, List.map_cons, List.map_nil, List.cons_append, List.nil_append]
  refine ex_abs fun K hK => ?_
  refine ex_new3 R.h (evm_copy hB (by omega) (by walk_at "ev")) (fun _ => ev_int) (fun _ => ev_int) ?_
  rintro f us n ta tc hus
  subst hus
  refine ⟨_, _, _, by walk_at "put", by walk_at "put", by walk_at "put", ?_⟩
  refine ex_while (MoreI b z a f tb B) (far L 1) ⟨us, n, [], L, z, 1, 40, ta, tc, none, hI, .nil, hL, hd.succ, by decide, by decide, rfl, by unfold far; simp; omega, hLl⟩ ?_
  clear hI hlen
  rintro m B₁ _ _ - ⟨vs, n, P, R', zc, c, k, ta, tc, o, hI, hE, hR, hD, hc1, hc2, hm, hmP, hRl⟩
  have hlen := hI.length
  rw [List.length_map, List.length_append] at hlen
  refine ⟨_, tst_ne (by walk_at "ev") ev_int, fun h J hJ => ?_, fun h => ?_⟩
  · have hc0 : c ≠ 0 := by simpa using h
    refine ex_ifJ (MoreJ b m zc c P a f tb ta tc o B)
      (tst_of (b' := decide (R' = [])) (tst_eq (by walk_at "ev") (ev_lenM hG (by walk_at "gk") (by walk_at "ev") (by unfold far at hm; omega))) ?_) (fun hr => ?_) (fun hr => ?_) ?_
    · rw [Bool.eq_iff_iff, beq_iff_eq, decide_eq_true_eq, ← List.length_eq_zero_iff]
      omega
    · have hr := of_decide_eq_true hr
      subst hr
      have hz0 : zc = 0 := nd_nil hD hR.symm
      refine ex_appN (d := 0) hI hi (by walk_at "lk") ev_int (by rw [List.length_append]; unfold far at hm; omega) fun vs' n' hI' => ex_nil ⟨rfl, vs', n', 0, [], k, by rwa [List.append_nil] at hI', by rw [hz0]; rfl, by rw [hz0]; simp [nd_zero], by rw [hz0]; simpa using Done.zero b k, by simp, ?_⟩
      intro c' h1 h2 h3
      have h3 := h3 hz0
      rw [hz0, Int.zero_add] at h3
      unfold far at hm ⊢
      simp only [List.length_nil, if_neg hc0] at hm ⊢
      rcases (show c = 1 ∨ c = -1 by omega) with rfl | rfl
      · have : (1 : Int) / b = 0 := Int.ediv_eq_zero_of_lt (by decide) (by omega)
        rw [this] at h3
        simp at hm
        rw [if_pos (by omega)]
        omega
      · have : (-1 : Int) / b = -1 := by
          have := (Int.ediv_emod_unique (a := -1) (b := (b : Int)) (r := (b : Int) - 1) (q := -1) (by omega)).mpr ⟨by omega, by omega, by omega⟩
          exact this.1
        rw [this] at h3
        simp at hm
        rw [if_neg (by omega), if_pos (by omega)]
        omega
    · cases R' with
      | nil => exact absurd rfl (of_decide_eq_false hr)
      | cons d Q =>
        cases k with
        | zero => cases hR
        | succ k =>
          have hz0 : zc ≠ 0 := fun e => by rw [e, nd_zero] at hR; cases hR
          rw [nd, if_neg hz0] at hR
          refine ex_nil ⟨rfl, vs, n, d, Q, k, hI, (List.cons.inj hR).1, (List.cons.inj hR).2, hD.resolve_left hz0, by simp at hRl; omega, ?_⟩
          intro c' h1 h2 _
          unfold far at hm ⊢
          rw [hm, List.length_cons, if_neg hc0]
          split <;> split <;> (try split) <;> omega
    · clear hI hlen vs n
      rintro _ _ _ - ⟨vs, n, d, Q, k', hI, hd0, hQ, hDQ, hQl, hfar⟩
      obtain ⟨g1, g2, g3, g4, g5, g6⟩ := carry_on hb hd0 ⟨hc1, hc2⟩
      have hpl : P.length < (P ++ d :: Q).length := by rw [List.length_append, List.length_cons]; omega
      have hpz : (P ++ d :: Q).length ≤ 1000000 := by rw [List.length_append, List.length_cons]; omega
      have hat : (P ++ d :: Q).getD P.length 0 = d := by simp [List.getD_eq_getElem?_getD]
      refine ex_asgI (i := ((d : Nat) : Int) + c) (ev_vi (ev_add (ev_itemM hI (by walk_at "ev") (by walk_at "ev") hpl hpz) (by walk_at "ev")) (by rw [hat])) fun tw => ⟨_, by walk_at "put", ?_⟩
      have eb : (0 : Int) - -((b : Nat) : Int) = b := by omega
      refine ex_setSwap (k := P.length) (d := (((d : Nat) : Int) + c).emod b |>.toNat) (j := -((((d : Nat) : Int) + c) / b)) R.h hI (by walk_at "lk") (ev_vi (ev_fmod (by walk_at "ev") (ev_sub ev_int (by walk_at "ev")) (by omega)) ?_) (ev_vi (ev_sub ev_int (ev_fdiv (by walk_at "ev") (ev_sub ev_int (by walk_at "ev")) (by omega) (by omega))) ?_) (by walk_at "ev") hpl hpz (fun vs' n' t hI' => ⟨_, by walk_at "put", ?_⟩) (hw := ?_)
      · rw [eb, Int.fmod_eq_emod_of_nonneg _ (Int.natCast_nonneg _)]
        exact (Int.toNat_of_nonneg g5).symm
      · rw [eb, Int.fdiv_eq_ediv_of_nonneg _ (Int.natCast_nonneg _)]
        omega
      · refine ex_asgI (i := (((P ++ [(((d : Nat) : Int) + c).emod b |>.toNat]).length : Nat) : Int)) (ev_vi (ev_addN (by walk_at "ev") ev_int) (by rw [List.length_append]; rfl)) fun t2 => ⟨_, by walk_at "put", ?_⟩
        have hset : (P ++ d :: Q).set P.length ((((d : Nat) : Int) + c).emod b |>.toNat) = (P ++ [(((d : Nat) : Int) + c).emod b |>.toNat]) ++ Q := by simp
        rw [hset] at hI'
        have hx : (((((d : Nat) : Int) + c).emod b |>.toNat : Nat) : Int) = (zc + c) % b := (Int.toNat_of_nonneg g5).trans g1
        have hf := hfar (-((((d : Nat) : Int) + c) / b)) g3 g4 (fun e => by rw [g2, e]; simp)
        refine ex_nil (hJ _ _ _ _ hf ⟨vs', n', _, Q, -(zc / b), _, k', t2, t, _, hI', by have := hE.snoc hx; rwa [g2] at this, hQ, hDQ, g3, g4, rfl, ?_, hQl⟩)
        rw [List.length_append, List.length_singleton]
        omega
      · exact swapped_sub
  · have hc0 : c = 0 := by simpa using h
    subst hc0
    rw [Int.add_zero] at hE
    have hfin := hE.fin hD hR hd'
    have hlenF : (P ++ R').length ≤ 300 := by rw [List.length_append]; omega
    refine ex_while (MoreE f (P ++ R') B) (P ++ R').length ⟨vs, n, _, _, by walk_at "lk", hI, rfl, hlenF, rfl⟩ ?_
    clear hI hlen vs n
    rintro m B₂ _ _ - ⟨vs, n, F, l', hl, hI, hFm, hFl, hF⟩
    refine ⟨_, tst_and (tst_neNil (R.less (by decide)) hI (ev_nameR hl)) fun h => tst_and (tst_eq (ev_lastM hI (ev_nameR hl) (by simp at h; exact List.length_pos_iff.mpr h) (by omega)) ev_int) fun _ => tst_and_nil, fun h J hJ => ?_, fun h => ?_⟩
    · simp only [Bool.and_eq_true, Bool.not_eq_true', decide_eq_false_iff_not, Bool.and_true, beq_iff_eq] at h
      obtain ⟨h1, h2⟩ := h
      have hne : F ≠ [] := fun e => h1 (by rw [e]; rfl)
      obtain ⟨F', x, rfl⟩ : ∃ F' x, F = F' ++ [x] := ⟨F.dropLast, F.getLast hne, (List.dropLast_concat_getLast hne).symm⟩
      have hx : x = 0 := by
        simp [List.getD_eq_getElem?_getD] at h2
        exact h2
      subst hx
      have hI2 : IntsAre vs (znat F' ++ [0]) := by rw [znat, List.map_append] at hI; exact hI
      obtain ⟨us, t, rfl, hus⟩ := ints_snoc hI2
      have hul := hus.length
      rw [List.length_map] at hul
      rw [List.length_append, List.length_singleton] at hFm hFl
      refine ex_pop hi hl (by omega) fun n' => ex_nil (hJ F'.length _ _ _ (by omega) ⟨us, n', F', _, hl, hus, rfl, by omega, ?_⟩)
      rw [← hF, norm_snoc0]
    · have hFF : norm F = F := by
        have := norm_take F F.length (Nat.le_refl _) (fun j h1 h2 => absurd h2 (by omega)) (by
          by_cases h0 : F = []
          · left; rw [h0]; rfl
          · right
            intro h1
            have h2 : (!decide (znat F = [])) = true := by simp [h0]
            rw [h2, h1] at h
            simp at h)
        rwa [List.take_of_length_le (Nat.le_refl _)] at this
      refine ex_freeze fun hb => ex_ret (ev_nameR (a := f) hl).up fun B' v _ ⟨hB, hv⟩ => ?_
      subst hB
      refine hK _ _ _ _ ⟨f, F, hv, ⟨vs, n, PH.add_self _ _ _, hI⟩, ?_⟩
      rw [← hFF, hF, hfin]
end
end
section
open PySem PySem.W PyProof.Rows PySem.Calls
set_option maxRecDepth 100000
set_option maxHeartbeats 1000000
section
section
variable {prog : Program} {w : World} {A : Around} {E : Value → Shared → Prop} {c : Fx} {B : PH} {mu : List (Addr × Obj)} {l : Locs} {s : Shared}
theorem r_addTup {t b : Addr} {vs ws : List Value} {Q : Value → Shared → Prop} (S : St c B mu l s) (ht : B t = some (tupOf vs)) (hb : B b = some (tupOf ws)) (hw : ws ≠ []) (hsz : vs.length + ws.length ≤ 1000)
    (h : ∀ r s' B', B.le B' → B' r = some (tupOf (vs ++ ws)) → St c B' mu l s' → Q (.ref r) s') : wpAny (model prog w) A (binaryOp .Add (.ref t) (.ref b)) Q E s := by
  have ho := S.keep _ _ ht
  have ho2 := S.keep _ _ hb
  have e : vs.toArray ++ ws.toArray = (vs ++ ws).toArray := by simp
  by_cases hv : vs = []
  · subst hv
    exact concat_meets ⟨_, ho, rfl⟩ ⟨_, ho2, rfl⟩ noFill_tuple_add seq_tuple_add PySem.F.slot_tuple_add PySem.F.entry_tuple_add (PySem.F.args_tuple_add_2 _ _)
      (tuple_addW0 t b _ ws.toArray _ _ none none #[] #[] (by simp)) ⟨ho, ho2, h b s B (PH.le.refl _) hb S⟩
  · refine concat_meets ⟨_, ho, rfl⟩ ⟨_, ho2, rfl⟩ noFill_tuple_add seq_tuple_add PySem.F.slot_tuple_add PySem.F.entry_tuple_add (PySem.F.args_tuple_add_2 _ _)
      (tuple_addW2 t b vs.toArray ws.toArray _ _ none none #[] #[] (by simpa using hv) (by simpa using hw) (by rw [List.size_toArray, List.size_toArray, sizeLine_eq]; omega)) ⟨ho, ho2, ?_⟩
    rw [e]
    obtain ⟨S', hle, _⟩ := S.alloc (o := tupOf (vs ++ ws)) rfl
    exact h _ _ _ hle (PH.add_self _ _ _) S'
end
section
variable {X : Cx} {B : PH} {mu : List (Addr × Obj)} {l : Locs} {rest : List Stmt} {K : Kont}
/-- for x in e, x in a cell, e a frozen list -/
theorem ex_forC {x : Str} {px pos : Pos} {iter : Expr} {body : List Stmt} {a ra : Addr} {vs : List Value} {n : Nat} {o : Obj} {v₀ : Option Value} (R : X.A.handled = none) (hk : X.c.env.kindOf x = some .cell) (hc : X.c.env.cells.lookup x = some a) (ho : o.data = .cell v₀)
    (he : Ev X B ((a, o) :: mu) l iter (VR ra)) (hl : B ra = some (listOf vs.toArray n)) (Inv : Nat → PH → List (Addr × Obj) → Locs → Prop) (hI : Inv 0 B mu l)
    (step : ∀ i v B₁ mu₁ l₁ its o', vs[i]? = some v → B.le B₁ → Inv i B₁ mu₁ l₁ → o'.data = .cell (some v) → Ex X B₁ ((a, o') :: (mu₁ ++ its)) l₁ body (Lp its (fun B' mu' l' => ∃ o'' v', o''.data = .cell v' ∧ ∃ mu'', mu' = (a, o'') :: mu'' ∧ Inv (i + 1) B' mu'' l') K))
    (fin : ∀ B₁ mu₁ l₁ o' v', B.le B₁ → Inv vs.length B₁ mu₁ l₁ → o'.data = .cell v' → Ex X B₁ ((a, o') :: mu₁) l₁ rest K)
    (hs : ∀ x, foldedSetIterable iter X.c.env x = pure x := by intro _; rfl) : Ex X B ((a, o) :: mu) l (.For (.Name x px) iter body [] pos :: rest) K :=
  ex_cons fun s S => wpAny_For (he.run s _ S fun v s' hv S' => by
    subst hv
    exact loop_list R (fun _ _ => rfl) S' hl (fun i B' mu' l' => ∃ o'' v', o''.data = .cell v' ∧ ∃ mu'', mu' = (a, o'') :: mu'' ∧ Inv i B' mu'' l') ⟨o, v₀, ho, mu, rfl, hI⟩ (fun i v B₁ mu₁ l₁ its s₁ hv hb ⟨o', v', hd, mu', hm, hJ⟩ S₁ => by
      subst hm
      refine PySem.wpAny_assign_Name (r_storeC S₁ hk hc hd fun o'' s₂ hd2 S₂ => ?_)
      exact turn_of (mu := (a, o'') :: mu') hb (step i v B₁ mu' l₁ its o'' hv hb hJ hd2) S₂) fun B₁ mu₁ l₁ s₁ hb ⟨o', v', hd, mu', hm, hJ⟩ S₁ => by
      subst hm
      exact ⟨B₁, _, l₁, hb, S₁, fin B₁ mu' l₁ o' v' hb hJ hd⟩) hs
end

/-- values beside things -/
inductive Al2 {α : Type} (R : Value → α → Prop) : List Value → List α → Prop
  | nil : Al2 R [] []
  | cons {v : Value} {x : α} {vs : List Value} {xs : List α} : R v x → Al2 R vs xs → Al2 R (v :: vs) (x :: xs)
section
variable {α : Type} {R R' : Value → α → Prop}
theorem Al2.mono (h : ∀ v x, R v x → R' v x) {vs : List Value} {xs : List α} (a : Al2 R vs xs) : Al2 R' vs xs := by
  induction a with
  | nil => exact .nil
  | cons r _ ih => exact .cons (h _ _ r) ih
theorem Al2.app {vs us : List Value} {xs ys : List α} (a : Al2 R vs xs) (b : Al2 R us ys) : Al2 R (vs ++ us) (xs ++ ys) := by
  induction a with
  | nil => exact b
  | cons r _ ih => exact .cons r ih
theorem Al2.snoc {vs : List Value} {xs : List α} {v : Value} {x : α} (a : Al2 R vs xs) (r : R v x) : Al2 R (vs ++ [v]) (xs ++ [x]) := a.app (.cons r .nil)
theorem Al2.length {vs : List Value} {xs : List α} (a : Al2 R vs xs) : vs.length = xs.length := by
  induction a with
  | nil => rfl
  | cons _ _ ih => simp [ih]
theorem Al2.get {vs : List Value} {xs : List α} (a : Al2 R vs xs) {i : Nat} {v : Value} (e : vs[i]? = some v) : ∃ x, xs[i]? = some x ∧ R v x := by
  induction a generalizing i with
  | nil => simp at e
  | cons r _ ih =>
    cases i with
    | zero => cases e; exact ⟨_, rfl, r⟩
    | succ i => exact ih e
end
/-- a value that is a tuple of nats -/
noncomputable def TR (B : PH) (v : Value) (row : List Nat) : Prop := ∃ t us, v = .ref t ∧ B t = some (tupOf us) ∧ IntsAre us (znat row)
theorem TR.mono {B B' : PH} {v : Value} {row : List Nat} (h : TR B v row) (hb : B.le B') : TR B' v row := let ⟨t, us, e, ht, hi⟩ := h; ⟨t, us, e, hb _ _ ht, hi⟩
noncomputable def rowsL (b : Nat) : Nat → List (List Nat)
  | 0 => [[]]
  | k + 1 => (rowsL b k).flatMap fun row => (List.range b).map fun d => row ++ [d]

theorem TR.del {B : PH} {v u : Value} {row : List Nat} {a : Addr} {o : Obj} (h : TR B v row) (ha : B a = some o) (ho : o.data = .cell (some u)) : TR (B.del a) v row := by
  obtain ⟨t, us, e, ht, hi⟩ := h
  refine ⟨t, us, e, ?_, hi⟩
  rw [PH.del_ne]
  · exact ht
  · intro q
    rw [q, ha] at ht
    cases ht
    cases ho
theorem rowsL_len {b : Nat} : ∀ {k : Nat} {row : List Nat}, row ∈ rowsL b k → row.length = k
  | 0, row, h => by simp [rowsL] at h; rw [h]; rfl
  | k + 1, row, h => by
    simp only [rowsL, List.mem_flatMap, List.mem_map] at h
    obtain ⟨r, hr, d, _, rfl⟩ := h
    rw [List.length_append, rowsL_len hr]; rfl
theorem flatMap_take {α β : Type} (g : α → List β) (l : List α) {i : Nat} {d : α} (h : l[i]? = some d) : (l.take (i + 1)).flatMap g = (l.take i).flatMap g ++ g d := by
  rw [List.take_succ, h, List.flatMap_append]
  simp
theorem flat_le {b : Nat} : ∀ (l : List (List Nat)), (l.flatMap fun row => (List.range b).map fun d => row ++ [d]).length = l.length * b
  | [] => by simp
  | r :: l => by rw [List.flatMap_cons, List.length_append, flat_le l]; simp [Nat.add_mul, Nat.add_comm]

section
variable {prog : Program} {w : World} {mg : Str → Option Value} {W : Heap}
inductive RowsI (b k : Nat) (tb tk : Tok) (C : Addr) (i : Nat) (B : PH) : List (Addr × Obj) → Locs → Prop
  | mk (o : Obj) (v : Option Value) (r : Addr) (vs : List Value) (n : Nat) (o1 o2 : Option Value) : o.data = .cell v → B r = some (listOf (List.toArray vs) n) → Al2 (TR B) vs (rowsL b i) →
    RowsI b k tb tk C i B [(C, o)] [("base", some (.int b tb)), ("size", some (.int k tk)), ("rows", some (.ref r)), ("turn", o1), ("longer", o2)]
inductive RowsJ (b k i : Nat) (tb tk ti : Tok) (r f : Addr) (its : List (Addr × Obj)) (B₀ : PH) (j : Nat) (B : PH) : List (Addr × Obj) → Locs → Prop
  | mk (us : List Value) (n : Nat) : B₀.le B → Al2 (TR B) us (((rowsL b i).take j).flatMap fun row => (List.range b).map fun d => row ++ [d]) →
    RowsJ b k i tb tk ti r f its B₀ j B ((f, listOf (List.toArray us) n) :: its) [("base", some (.int b tb)), ("size", some (.int k tk)), ("rows", some (.ref r)), ("turn", some (.int i ti)), ("longer", some (.ref f))]
theorem rows_spec (Y : Wd mg W) {B : PH} {b k : Nat} {tb tk : Tok} (hb : b ≤ 9) (hk3 : k ≤ 3) :
    Fn prog w W 7 (.ref (adr mg "_law_rows")) [.int b tb, .int k tk] B (fun B' v => ∃ r vs n, v = .ref r ∧ B' r = some (listOf (List.toArray vs) n) ∧ Al2 (TR B') vs (rowsL b k)) := by
  have hlen : ∀ i, i ≤ 3 → (rowsL b i).length ≤ 1000 := fun i hi => by
    have h9 : ∀ j, (rowsL b j).length ≤ 9 ^ j := fun j => by
      induction j with
      | zero => exact Nat.le_refl 1
      | succ j ih => rw [rowsL, flat_le, Nat.pow_succ]; exact Nat.mul_le_mul ih hb
    exact Nat.le_trans (h9 i) (Nat.le_trans (Nat.pow_le_pow_right (by decide) hi) (by decide))
  refine fn_ofC ["base", "size"] ["rows", "turn", "longer"] [("range", .type "range")] (isDef Y 38 31 (by rfl) (by kernel_rfl)) (fun _ _ _ => rfl) (by decide) (by decide) (by simp only [List.map_cons, List.map_nil]; decide) (gcons (g_range Y) gnil) (by decide) (fun n => by simp [cellsFrom]) ?_
  rintro X L cells rfl rfl rfl hG hi R hsc hcells hX hfr
  simp only [List.zip_cons_cons, List.zip_nil_right, List.map_cons, List.map_nil, List.cons_append, List.nil_append]
  refine ex_abs fun K hK => ?_
  obtain ⟨o, rfl, ho⟩ := CellsAre.one (n := "row") (c := L + 1) hX
  have hkc : X.c.env.kindOf ("row" : Str) = some .cell := by show X.c.env.scope.names.lookup _ = _; rw [hsc]; rfl
  have hcl : X.c.env.cells.lookup ("row" : Str) = some (L + 1) := by rw [hcells]; rfl
  have h0 : X.c.B₀ (L + 1) = none := hfr _ List.mem_cons_self
  refine ex_asg (evb_list (P := fun B' vs => Al2 (TR B') vs [[]]) (evs_consB (evb_tuple (P := fun _ vs => vs = []) (evs_nil rfl) (by rintro _ _ rfl; simp)) fun B' v _ hv => evs_nil ?_) ?_) ?_
  · obtain ⟨_, t, _, rfl, _, _, rfl, ht⟩ := hv
    exact .cons ⟨t, [], rfl, ht, .nil⟩ .nil
  · intro _ _ h; rw [h.length]; simp
  rintro B₀ _ hB₀ ⟨_, r, vs, hv, _, hle, rfl, hr⟩
  refine ⟨_, by walk_at "put", ?_⟩
  refine ex_forUp (a := 0) (b := k) R.h (ev_range1 hG (by walk_at "gk") (by walk_at "ev")) (Nat.zero_le _) (by omega)
    (RowsI b k tb tk (L + 1)) ⟨o, none, r, vs, 0, none, none, ho, hr, hv.mono fun _ _ h => h.mono hle⟩ ?_ ?_
  · clear hv hr hle ho
    rintro i ti B₁ _ _ its - hlt hB₁ ⟨o, v, r, vs, n, o1, o2, ho, hr, hv⟩ J hJ
    refine ⟨_, by walk_at "put", ?_⟩
    have hvl : vs.length ≤ 1000 := by rw [hv.length]; exact hlen i (by omega)
    refine ex_asgList fun f => ⟨_, by walk_at "put", ?_⟩
    refine ex_perm (mu' := (L + 1, o) :: (f, listOf ([] : List Value).toArray 0) :: its) (List.Perm.swap _ _ _) ?_
    refine ex_forC R.h hkc hcl ho (by walk_at "ev") hr (RowsJ b k i tb tk ti r f its B₁) ⟨[], 0, PH.le.refl _, by simpa using Al2.nil⟩ ?_ ?_
    · rintro j v B₂ _ _ its2 o' hvj hB₂ ⟨us, n', hB₂', hus⟩ ho'
      obtain ⟨row, hrow, t, ts, rfl, ht, hts⟩ := hv.get hvj
      have hrl : row.length = i := rowsL_len (List.mem_of_getElem? hrow)
      have htl : ts.length = i := by rw [hts.length, List.length_map, hrl]
      have hul : us.length ≤ 9000 := by
        rw [hus.length, flat_le]
        have := Nat.mul_le_mul (Nat.le_trans (List.length_take_le' j (rowsL b i)) (hlen i (by omega))) hb
        exact Nat.le_trans this (by decide)
      refine ex_hold (fun fl B' mu' l' => fl = .next ∧ ∃ us' n'', mu' = (((f, listOf (List.toArray us') n'') :: its) ++ its2) ∧ Al2 (TR B') us' (((rowsL b i).take (j + 1)).flatMap fun row => (List.range b).map fun d => row ++ [d]) ∧
        l' = ([("base", some (.int b tb)), ("size", some (.int k tk)), ("rows", some (.ref r)), ("turn", some (.int i ti)), ("longer", some (.ref f))] : Locs)) h0 (fun hadd => ?_) ?_
      · refine ex_extend (P := fun B' ws => Al2 (TR B') ws ((List.range b).map fun d => row ++ [d])) hi (by walk_at "lk") ((evb_compR (cl := [("row", L + 1)]) (G' := []) R.h hG (by walk_at "gk") (ev_nameI (by walk_at "lk")) (by omega) ?_ (by rfl) (fun _ h => nomatch h)
          (fun d B' ws => Al2 (TR B') ws ((List.range d).map fun d => row ++ [d])) (fun _ _ _ _ hb h => h.mono fun _ _ x => x.mono hb) (by simpa using Al2.nil) ?_).mono ?_) (by omega) ?_
        · exact closureFor_one [(".0", .local), ("one", .local)] rfl (by decide) hcl
        · rintro c' d td B₃ ws mu' hW hG' hc' hk' hd hB₃ hI
          have hkk : c'.env.kindOf ("row" : Str) = some .cell := by
            rw [hk']
            have hkf : X.c.env.scope.kind = .function := by rw [hsc]
            simp [relabel, hkf, hkc]
            rfl
          refine .mk fun s Q S k => wpAny_BinOp ((ev_cell (X := ⟨X.prog, X.w, X.A, c'⟩) (v := .ref t) hkk (by rw [hc']; rfl) (hB₃ _ _ (PH.add_self B₂ (L + 1) o')) ho').run s _ S fun v s1 hv S1 =>
            (evb_tuple (X := ⟨X.prog, X.w, X.A, c'⟩) (evs1 (ev_nameI (by walk_at "lk"))) (by rintro _ _ ⟨_, _, rfl, _⟩; simp)).run s1 _ S1 fun u s2 B' hu S2 hb' => ?_)
          obtain ⟨_, q, _, ⟨_, _, rfl, t2, rfl⟩, _, _, rfl, hq⟩ := hu
          subst hv
          have htt : B₃ t = some (tupOf ts) := hB₃ _ _ (hadd _ _ (hB₂ _ _ ht))
          refine r_addTup S2 (hb' _ _ htt) hq (by simp) (by simp; omega) fun r s3 B'' hle' hr S3 => k _ _ _ ?_ S3 (hb'.trans hle')
          rw [List.range_succ, List.map_append]
          refine (hI.mono fun _ _ x => x.mono (hb'.trans hle')).snoc ⟨r, _, rfl, hr, ?_⟩
          rw [znat, List.map_append]
          exact intsAre_snoc hts _ _
        · exact fun B' v _ h => h
        · intro B' ws n' hBw hw
          exact ex_nil ⟨rfl, _, n', rfl, by rw [flatMap_take _ _ hrow]; exact (hus.mono fun _ _ x => x.mono (hadd.trans hBw)).app hw, rfl⟩
      · rintro _ B' _ _ hle hB' ⟨rfl, us', n'', rfl, hus', rfl⟩
        exact ⟨(L + 1, o') :: (f, _) :: its, rfl, o', _, ho', _, rfl, us', n'', hB₂'.trans hle, hus'.mono fun _ _ x => x.del hB' ho'⟩
    · rintro B₂ _ _ o' v' hB₂ ⟨us, n', hB₂', hus⟩ ho'
      refine ex_perm (mu' := (f, listOf (List.toArray us) n') :: (L + 1, o') :: its) (List.Perm.swap _ _ _) (ex_freeze fun hle => ex_asgE (P := VR f) (ev_nameR (by walk_at "lk")) fun v hv => ⟨_, by walk_at "put", ?_⟩)
      subst hv
      rw [hv.length, List.take_of_length_le (Nat.le_refl _)] at hus
      exact ex_nil ⟨[(L + 1, o')], rfl, hJ _ _ _ ⟨o', v', f, us, n', _, _, ho', PH.add_self _ _ _, hus.mono fun _ _ x => x.mono hle⟩⟩
  · clear hv hr hle ho
    rintro B₁ _ _ - ⟨o, v, r, vs, n, o1, o2, ho, hr, hv⟩
    refine ex_ret (ev_nameR (a := r) (by walk_at "lk")).up fun B' v _ ⟨hB, hv'⟩ => ?_
    subst hB
    exact hK _ _ _ _ ⟨r, vs, n, hv', hr, hv⟩
end
end
end
section
open PySem PySem.W PyProof.Rows PySem.Calls
set_option maxRecDepth 100000
set_option maxHeartbeats 1000000
section
/-- the list from which law draws -/
noncomputable abbrev lakeO (k : Nat) (t : Tok) (a : Addr) (n : Nat) : Obj := listOf (List.toArray [Value.int (k : Nat) t, Value.ref a]) n
/-- what the next draw gives -/
noncomputable def dr (L : List Nat) (k many : Nat) : Nat := (if k + 1 ≤ L.length then L.getD k 0 else 9 * (k + 1) + (k + 1) / 2 + 2) % many

section
variable {X : Cx} {B : PH} {mu : List (Addr × Obj)} {l : Locs} {rest : List Stmt} {K : Kont}
/-- an item of the list at the head -/
theorem ev_itemV {e : Expr} {j kk : Nat} {p pos : Pos} {a : Addr} {vs : List Value} {n : Nat} {v : Value} {P : Value → Prop} (he : Ev X B ((a, listOf vs.toArray n) :: mu) l e (VR a)) (hv : vs[j]? = some v) (hp : P v) (hj : j < 1000000)
    (hs : ∀ u, subscripted (.Constant (.int j) kk p) false (.ref a) (.int j u) = operate [.ref a, .int j u] (getItem (.ref a) (.int j u)) := by intro _; with_unfolding_all rfl) :
    Ev X B ((a, listOf vs.toArray n) :: mu) l (.Subscript e (.Constant (.int j) kk p) pos) P :=
  ev_at he ev_int fun u s Q S k' => r_item S.isListM (Int.natCast_nonneg j) (by omega) (by simpa using hv) (k' v s hp S) (hs u)
theorem ex_setV {x : Str} {np ip pos : Pos} {i e : Expr} {a : Addr} {vs : List Value} {n : Nat} {k : Nat} {P : Value → Prop} (hx : Lk x (.ref a) l) (he : Ev X B ((a, listOf vs.toArray n) :: mu) l e P) (hi : Ev X B ((a, listOf vs.toArray n) :: mu) l i (VI k)) (hk : k < vs.length) (hz : vs.length ≤ 1000000)
    (h : ∀ v n', P v → Ex X B ((a, listOf (vs.set k v).toArray n') :: mu) l rest K) (hd : (x == ("__debug__" : Str)) = false := by decide)
    (hs : swapsWith e (some (.Subscript (.Name x np) i ip)) pos.line X.c.env = pure false := by rfl) :
    Ex X B ((a, listOf vs.toArray n) :: mu) l (.Assign [.Subscript (.Name x np) i ip] e pos :: rest) K := by
  refine ex_cons fun s S => wpAny_Assign_Subscript (he.run s _ S fun v s1 hv S1 => r_name S1 hx (hi.run s1 _ S1 fun kv s2 ⟨u, hu⟩ S2 => ?_) hd) hs
  subst hu
  exact r_setM S2 (by omega) (by omega) (by omega) fun n' s3 S3 => ⟨B, _, l, PH.le.refl _, S3, h v n' hv⟩
end

/-- the contract of a call that changes one object -/
noncomputable def FnL (prog : Program) (w : World) (W : Heap) (r : Nat) (f : Value) (args : List Value) (B : PH) (lake : Addr) (o : Obj) (post : Obj → Value → Prop) : Prop :=
  ∀ (A : Around) (E : Value → Shared → Prop) (Q : Value → Shared → Prop) (s : Shared), Room A r → HLe W s.heap → B.on s.heap → W.get? lake = none → B lake = none → s.heap.get? lake = some o →
    (∀ v s' o', (∃ h tk, s' = { s with heap := h, toks := tk }) → (∀ b x, b ≠ lake → s.heap.get? b = some x → s'.heap.get? b = some x) → s'.heap.get? lake = some o' → post o' v → Q v s') →
    wpAny (model prog w) A (call f args) Q E s

theorem fn_ofL {W : Heap} {f : Addr} {name : Str} {params : Arguments} {body : List Stmt} {scope : Scope} {args : List Value} {post : Obj → Value → Prop} {r : Nat} {prog : Program} {w : World} {B : PH} {lake : Addr} {o : Obj} (ps : List Str) (rest : List Str) (G : List (Str × Value))
    (D : IsDef W f name params body scope)
    (hbind : ∀ pm cd doc, bindArgs (docDef name params body scope pm cd doc) ⟨args, []⟩ = pure (ps.zip args))
    (hnd : (ps ++ rest).Nodup)
    (hloc : ∀ x ∈ ps ++ rest, scope.names.lookup x = some .local)
    (hG : ∀ x ∈ G.map (·.1), scope.names.lookup x = some .globalImplicit ∧ (x == ("__debug__" : Str)) = false) (hGW : ∀ p ∈ G, GlobAt W p.1 p.2)
    (h : ∀ X : Cx, X.prog = prog → X.w = w → X.c.W = W → X.c.G = G → interactive X.c.env = false → Room X.A r →
      Ex X B [(lake, o)] ((ps.zip args).map (fun p => (p.1, some p.2)) ++ rest.map fun x => (x, none)) body (fun f _ mu' _ => ∃ o', mu' = [(lake, o')] ∧ post o' (retOf f)))
    (hlen : ps.length = args.length := by rfl)
    (hco : scope.isCoroutine = false := by rfl) (hgen : scope.isGenerator = false := by rfl) (hk : scope.kind = .function := by rfl)
    (hcell : ∀ x ∈ scope.names, x.2 ≠ .cell := by decide) : FnL prog w W (r + 1) (.ref f) args B lake o post := by
  intro A E Q s R hw hb hWl hBl hlk k
  obtain ⟨fo, pm, cd, doc, ho, hdata, hcd⟩ := D.at_
  generalize hbs : ps.zip args = binds at hbind h
  have hps : binds.map (·.1) = ps := by rw [← hbs, List.map_fst_zip (by omega)]
  rw [← hps] at hnd hloc
  have nm : ((binds.map (fun p => (p.1, some p.2)) ++ rest.map fun x => (x, (none : Option Value))).map (·.1)) = binds.map (·.1) ++ rest := by simp [Function.comp_def]
  refine wpAny_call (call_plain_ret (binds := binds) R.depth (hw _ _ ho) hdata (D.lim.keeps hw) (hcd.keeps hw) (hbind pm cd doc) (fun x hx => hloc _ (List.mem_append_left _ (List.mem_map.mpr ⟨x, hx, rfl⟩))) (fun h₁ F => ?_) hco hgen hk hcell)
  generalize henv : envOf name scope s.heap.objs.size f cd = env
  have e1 : env.scope = scope := by rw [← henv]; rfl
  have e2 : env.locals = s.heap.objs.size := by rw [← henv]; rfl
  have e3 : env.globals = mainGlobals := by rw [← henv]; rfl
  have e4 : env.builtins = builtinsNs := by rw [← henv]; rfl
  have e5 : interactive env = false := by rw [← henv]; unfold interactive; rw [show (envOf name scope s.heap.objs.size f cd).scope.kind = .function from hk]; rfl
  have new : s.heap.get? s.heap.objs.size = none := new_none
  let c : Fx := ⟨env, W, { s with heap := wipe s.heap [lake] }, B, G⟩
  have ok : c.Ok := by
    refine ⟨by show env.scope.kind = _; rw [e1]; exact hk, fun p hp => ⟨by show env.scope.names.lookup p.1 = _; rw [e1]; exact (hG _ (List.mem_map.mpr ⟨p, hp, rfl⟩)).1, (hG _ (List.mem_map.mpr ⟨p, hp, rfl⟩)).2, fun M A Q E s hw h => loads e3 e4 (hGW p hp) hw h⟩, fun b x e => wipe_to (fun hm => ?_) (hw b x e), fun b x e => wipe_to (fun hm => ?_) (hb b x e)⟩
    · have e' : W.get? b = some x := e
      rw [List.mem_singleton.mp hm, hWl] at e'; cases e'
    · have e' : B b = some x := e
      rw [List.mem_singleton.mp hm, hBl] at e'; cases e'
  have S : St c B [(lake, o)] (binds.map (fun p => (p.1, some p.2)) ++ rest.map fun x => (x, none)) { s with heap := h₁, toks := s.toks + binds.length } := by
    refine ⟨ok, ⟨_, _, rfl⟩, ?_, ?_, ?_, fun b x e => F.keep b x (wipe_of e).2, fun b o e => F.keep b o (hb b o e), PH.le.refl _, fun b o e => .inl e, ?_, ?_, fun p hp => ?_, by simp⟩
    · rw [lk_init (hnd.sublist (List.sublist_append_left _ _))]
      show Heap.Ns h₁ env.locals _
      rw [e2]; exact F.ns
    · rw [nm]; exact hnd
    · rw [nm]
      intro x hx
      show env.scope.names.lookup x = _
      rw [e1]; exact hloc x hx
    · show B env.locals = none
      rw [e2]
      cases e : B s.heap.objs.size with
      | none => rfl
      | some x => have := hb _ _ e; rw [new] at this; cases this
    · show (wipe s.heap [lake]).get? env.locals = none
      rw [e2, wipe_get]
      split <;> first | rfl | exact new
    · rw [List.mem_singleton.mp hp]
      refine ⟨F.keep _ _ hlk, fun q => ?_, hBl, ?_⟩
      · have q' : lake = env.locals := q
        rw [q', e2, new] at hlk; cases hlk
      · show (wipe s.heap [lake]).get? lake = none
        rw [wipe_get, if_pos (List.mem_singleton.mpr rfl)]
  have Xr := h ⟨prog, w, A.deeper env, c⟩ rfl rfl rfl rfl e5 R.deeper
  refine wpAny_mono (Xr.run _ S) (fun fl s' hf => ?_) fun _ _ x => x
  obtain ⟨B', mu', l', _, S', o', rfl, hp⟩ := hf
  have fin : Q (retOf fl) s' := k _ s' o' (by obtain ⟨h, tk, e⟩ := S'.up; exact ⟨h, tk, e⟩) (fun b x hb e => S'.old b x (wipe_to (fun hm => hb (List.mem_singleton.mp hm)) e)) (S'.cur _ List.mem_cons_self).1 hp
  cases fl <;> exact fin

section
variable {prog : Program} {w : World} {mg : Str → Option Value} {W : Heap}
theorem mirrored_spec (Y : Wd mg W) {B : PH} {lake a : Addr} {L : List Nat} {k n many : Nat} {t tm : Tok} (hL : NL B a L) (hz : L.length ≤ 1000) (hk : k ≤ 1000) (hm0 : 0 < many) :
    FnL prog w W 3 (.ref (adr mg "_law_mirrored")) [.ref lake, .int many tm] B lake (lakeO k t a n) (fun o' v => ∃ t' n', o' = lakeO (k + 1) t' a n' ∧ VI (dr L k many) v) := by
  refine fn_ofL ["lake", "many"] [] [("len", .builtin "len")] (isDef Y 30 23 (by rfl) (by kernel_rfl)) (fun _ _ _ => rfl) (by decide) (by decide) (by simp only [List.map_cons, List.map_nil]; decide) (gcons (g_len Y) gnil) ?_
  rintro X rfl rfl rfl hG hi R
  simp only [List.zip_cons_cons, List.zip_nil_right, List.map_cons, List.map_nil, List.cons_append, List.nil_append]
  have i0 : ∀ {B mu l k t n kk p pos pn}, Lk "lake" (.ref lake) l → Ev X B ((lake, lakeO k t a n) :: mu) l (.Subscript (.Name "lake" pn) (.Constant (.int ((0 : Nat) : Int)) kk p) pos) (VI (k : Nat)) := fun h => ev_itemV (j := 0) (ev_nameR h) rfl ⟨_, rfl⟩ (by decide)
  have i1 : ∀ {B mu l k t n kk p pos pn}, Lk "lake" (.ref lake) l → Ev X B ((lake, lakeO k t a n) :: mu) l (.Subscript (.Name "lake" pn) (.Constant (.int ((1 : Nat) : Int)) kk p) pos) (VR a) := fun h => ev_itemV (j := 1) (ev_nameR h) rfl rfl (by decide)
  refine ex_setV (k := 0) (by walk_at "lk") (ev_addN (b := 1) (i0 (by walk_at "lk")) ev_int) ev_int (by simp) (by simp) ?_
  rintro _ n1 ⟨t1, rfl⟩
  refine ex_if (tst_le (i0 (k := k + 1) (by walk_at "lk")) (ev_lenN hG (by walk_at "gk") (i1 (by walk_at "lk")) hL (by omega))) (fun h => ?_) (fun h => ex_nil ?_)
  · have h1 : k + 1 ≤ L.length := by have := of_decide_eq_true h; omega
    refine ex_ret (P := fun _ v => VI (dr L k many) v) ((ev_vi (a' := (dr L k many : Nat)) (ev_fmod (ev_item (k := k) (i1 (by walk_at "lk")) hL (ev_vi (ev_sub (i0 (k := k + 1) (by walk_at "lk")) ev_int) (by omega)) (by omega) (by omega)) (by walk_at "ev") (by omega)) ?_).up.mono fun _ _ _ h => h.2) ?_
    · rw [Int.fmod_eq_emod_of_nonneg _ (Int.natCast_nonneg _), dr, if_pos h1]; rfl
    · intro B' v _ hv
      exact ⟨_, rfl, t1, n1, rfl, hv⟩
  · have h1 : ¬ k + 1 ≤ L.length := by have := of_decide_eq_false h; omega
    refine ex_ret (P := fun _ v => VI (dr L k many) v) ((ev_vi (a' := (dr L k many : Nat)) (ev_fmod (ev_add (ev_add (ev_mul ev_int (i0 (k := k + 1) (by walk_at "lk")) (by decide)) (ev_fdiv (i0 (k := k + 1) (by walk_at "lk")) ev_int (by decide) (by decide))) ev_int) (by walk_at "ev") (by omega)) ?_).up.mono fun _ _ _ h => h.2) ?_
    · rw [Int.fmod_eq_emod_of_nonneg _ (Int.natCast_nonneg _), dr, if_neg h1, Int.fdiv_eq_ediv_of_nonneg _ (by decide)]
      push_cast
      rfl
    · intro B' v _ hv
      exact ⟨_, rfl, t1, n1, rfl, hv⟩
end
end
end
section
open PySem PySem.W PyProof.Rows PySem.Calls
set_option maxRecDepth 100000
set_option maxHeartbeats 1000000
section
section
variable {c : Fx} {B : PH} {mu m1 m2 : List (Addr × Obj)} {l : Locs} {s : Shared}
/-- a call that changes one object of the ledger -/
theorem St.callL {prog : Program} {w : World} {A : Around} {E : Value → Shared → Prop} {r : Nat} {f : Value} {args : List Value} {lake : Addr} {o : Obj} {post : Obj → Value → Prop} {Q : Value → Shared → Prop} (S : St c B (m1 ++ (lake, o) :: m2) l s) (H : FnL prog w c.W r f args B lake o post) (R : Room A r)
    (h : ∀ v s' o', St c B (m1 ++ (lake, o') :: m2) l s' → post o' v → Q v s') : wpAny (model prog w) A (call f args) Q E s := by
  have Sp : St c B ((lake, o) :: (m1 ++ m2)) l s := S.perm List.perm_middle.symm
  have hc := Sp.cur _ List.mem_cons_self
  have hW : c.W.get? lake = none := by
    cases e : c.W.get? lake with
    | none => rfl
    | some x => have := S.ok.w _ _ e; rw [hc.2.2.2] at this; cases this
  refine H A E Q s R S.glob S.keep hW hc.2.2.1 hc.1 fun v s' o' ⟨h', tk, e⟩ hk ho p => ?_
  subst e
  exact h v _ o' ((Sp.upd tk (fun b x hb e => hk b x hb e) ho).perm List.perm_middle) p
end

/-- an expression that draws -/
structure EvL (X : Cx) (B : PH) (m1 m2 : List (Addr × Obj)) (lake a : Addr) (l : Locs) (e : Expr) (k k' : Nat) (i : Int) : Prop where
  run : ∀ s t n (Q : Value → Shared → Prop), St X.c B (m1 ++ (lake, lakeO k t a n) :: m2) l s → (∀ tv t' n' s', St X.c B (m1 ++ (lake, lakeO k' t' a n') :: m2) l s' → Q (.int i tv) s') → wpAny (model X.prog X.w) X.A (eval e X.c.env) Q NoE s
section
variable {X : Cx} {B : PH} {m1 m2 : List (Addr × Obj)} {lake a : Addr} {l : Locs} {e f : Expr} {k k' k'' : Nat} {i j : Int} {pos : Pos}
theorem el_int {kk : Nat} : EvL X B m1 m2 lake a l (.Constant (.int i) kk pos) k k i := .mk fun s t n _ S K => r_int S fun t' s' S' => K t' t n s' S'
theorem el_bin {op : Operator} {r : Int} (he : EvL X B m1 m2 lake a l e k k' i) (hf : EvL X B m1 m2 lake a l f k' k'' j)
    (h : ∀ t u s mu (Q : Value → Shared → Prop), St X.c B mu l s → (∀ t s', St X.c B mu l s' → Q (.int r t) s') → wpAny (model X.prog X.w) X.A (binaryOp op (.int i t) (.int j u)) Q NoE s) : EvL X B m1 m2 lake a l (.BinOp e op f pos) k k'' r :=
  .mk fun s t n _ S K => wpAny_BinOp (he.run s t n _ S fun tv t' n' s' S' => hf.run s' t' n' _ S' fun tu t'' n'' s'' S'' => h tv tu s'' _ _ S'' fun tr s3 S3 => K tr t'' n'' s3 S3)
theorem el_add (he : EvL X B m1 m2 lake a l e k k' i) (hf : EvL X B m1 m2 lake a l f k' k'' j) : EvL X B m1 m2 lake a l (.BinOp e .Add f pos) k k'' (i + j) := el_bin he hf fun _ _ _ _ _ S k => r_add S k
theorem el_sub (he : EvL X B m1 m2 lake a l e k k' i) (hf : EvL X B m1 m2 lake a l f k' k'' j) : EvL X B m1 m2 lake a l (.BinOp e .Sub f pos) k k'' (i - j) := el_bin he hf fun _ _ _ _ _ S k => r_sub S k
theorem el_mul (he : EvL X B m1 m2 lake a l e k k' i) (hf : EvL X B m1 m2 lake a l f k' k'' j) (hi : i.natAbs < 2 ^ 64) : EvL X B m1 m2 lake a l (.BinOp e .Mult f pos) k k'' (i * j) := el_bin he hf fun _ _ _ _ _ S k => r_mul S hi k
/-- _law_mirrored(lake, many) -/
theorem el_draw {mg : Str → Option Value} {G : List (Str × Value)} {L : List Nat} {many : Nat} {kk : Nat} {p p1 p2 : Pos} (Y : Wd mg X.c.W) (R : Room X.A 3) (hG : X.c.G = G) (hg : Gk "_law_mirrored" (.ref (adr mg "_law_mirrored")) G) (hl : ∀ mu, Ev X B mu l (.Name "lake" p1) (VR lake)) (hL : NL B a L) (hz : L.length ≤ 1000) (hk : k ≤ 1000) (hm : 0 < many)
    (h1 : starEach [.Name "lake" p1, .Constant (.int (many : Nat)) kk p2] X.c.env = (false, eval (.Name "lake" p1) X.c.env) :: starEach [.Constant (.int (many : Nat)) kk p2] X.c.env := by rfl) (h2 : starEach [.Constant (.int (many : Nat)) kk p2] X.c.env = (false, eval (.Constant (.int (many : Nat)) kk p2) X.c.env) :: starEach [] X.c.env := by rfl) :
    EvL X B m1 m2 lake a l (.Call (.Name "_law_mirrored" p) [.Name "lake" p1, .Constant (.int (many : Nat)) kk p2] [] pos) k (k + 1) (dr L k many) := by
  refine .mk fun s t n Q S K => ?_
  refine r_callG S hG hg (f_mirrored Y).2 ((evs2 (hl _) ev_int h1 h2).run s _ _ S fun vs s' B' hv S' _ => ?_) h1
  obtain ⟨rfl, _, _, rfl, rfl, tm, rfl⟩ := hv
  refine ⟨_, _, _, S', S'.callL (mirrored_spec Y hL hz hk hm) R fun v s'' o' S'' ⟨t', n', ho, tv, hv⟩ => ?_⟩
  subst ho hv
  exact K tv t' n' s'' S''
end
end
end
section
open PySem PySem.W PyProof.Rows PySem.Calls PySem.SeqAt
set_option maxRecDepth 100000
set_option maxHeartbeats 1000000
section
/-- a number with its sign, as data -/
noncomputable def srD (w' : Nat) (z : Int) : PyData := .tuple [.bool (decide (z < 0)), .list ((znat (limbs w' z.natAbs)).map PyData.int)]
theorem same_sr (w' : Nat) (z : Int) : PySem.Spec.same (srD w' z) (srD w' z) = true := by
  simp only [srD, PySem.Spec.same, PySem.Spec.sameAll, like_ints]
  cases decide (z < 0) <;> simp
theorem same_pair (w' : Nat) (x y : Int) : PySem.Spec.same (.tuple [srD w' x, srD w' y]) (.tuple [srD w' x, srD w' y]) = true := by
  simp only [PySem.Spec.same, PySem.Spec.sameAll, same_sr, Bool.and_true]
theorem mix_sr (w' : Nat) (x y : Int) : noMix (srD w' x) (srD w' y) = true := by
  simp only [srD, noMix, noMixAll, pure_ints, Bool.and_true]
theorem mix_pair (w' : Nat) (x y : Int) : noMix (.tuple [srD w' x, srD w' y]) (.tuple [srD w' x, srD w' y]) = true := by
  simp only [noMix, noMixAll, mix_sr, Bool.and_true]
section
variable {c : Fx} {B : PH} {mu : List (Addr × Obj)} {l : Locs} {s : Shared} {w' : Nat}
theorem SR.reads {a : Addr} {z : Int} (h : SR w' B a z) (S : St c B mu l s) : ∃ as, Reads s.heap (.ref a) (srD w' z) as := by
  obtain ⟨r, ht, vs, n, hl, hi⟩ := h
  exact ⟨_, .tuple (S.keep _ _ ht) rfl rfl (.cons (.bool _) (.cons (ints_read (S.isList hl) hi) .nil))⟩
theorem VP.reads {v : Value} {x y : Int} (h : VP w' x y B v) (S : St c B mu l s) : ∃ as, Reads s.heap v (.tuple [srD w' x, srD w' y]) as := by
  obtain ⟨p, a, b, rfl, hp, ha, hb⟩ := h
  obtain ⟨as, h1⟩ := ha.reads S
  obtain ⟨bs, h2⟩ := hb.reads S
  exact ⟨_, .tuple (S.keep _ _ hp) rfl rfl (.cons h1 (.cons h2 .nil))⟩
end

theorem depth_ints : ∀ ns : List Int, PyData.depthAll (ns.map PyData.int) ≤ 1
  | [] => by simp [PyData.depthAll]
  | _ :: r => by
    have := depth_ints r
    simp only [List.map_cons, PyData.depthAll, PyData.depth]
    omega
theorem shaped_pair (w' : Nat) (x y : Int) : shaped (.tuple [srD w' x, srD w' y]) = true ∧ shaped (srD w' x) = true := by
  have h1 := depth_ints (znat (limbs w' x.natAbs))
  have h2 := depth_ints (znat (limbs w' y.natAbs))
  unfold shaped
  simp only [srD, PyData.canLay0, PyData.canLayAll0, PyData.depth, PyData.depthAll, lay_ints, Bool.and_true, Bool.true_and, decide_eq_true_eq]
  constructor <;> omega
section
variable {X : Cx} {B : PH} {mu : List (Addr × Obj)} {l : Locs} {w' : Nat} {e f : Expr} {pos : Pos} {x y : Int}
/-- numbers that are alike -/
theorem tst_neS (R : Room X.A 6) (he : EvU w' X B mu l e x) (hf : EvU w' X B mu l f x) (hm : behindInMarks .NotEq f = false := by with_unfolding_all rfl) : Tst X B mu l (.Compare e [.NotEq] [f] pos) false := by
  refine .mk fun s whole Q hw S k => wpAny_isTrue_Compare1 (he.at.run s _ S fun v s1 B1 hv S1 hb1 => (hf B1 hb1).run s1 _ S1 fun u s2 B2 hu S2 hb2 => ?_) hm
  obtain ⟨a, rfl, ha⟩ := hv
  obtain ⟨b, rfl, hb⟩ := hu
  obtain ⟨as, r1⟩ := (ha.mono hb2).reads S2
  obtain ⟨bs, r2⟩ := hb.reads S2
  refine ne_dataH_same r1 r2 (shaped_pair w' x x).2 (shaped_pair w' x x).2 (by have := R.u; omega) (mix_sr w' x x) ?_
  rw [same_sr]
  exact wpAny_truthy_bool (k s2 (S2.less (hb1.trans hb2) S.ext))
theorem tst_neP (R : Room X.A 6) (he : EvB X B mu l e (VP w' x y)) (hf : ∀ B', B.le B' → EvB X B' mu l f (VP w' x y)) (hm : behindInMarks .NotEq f = false := by with_unfolding_all rfl) : Tst X B mu l (.Compare e [.NotEq] [f] pos) false := by
  refine .mk fun s whole Q hw S k => wpAny_isTrue_Compare1 (he.run s _ S fun v s1 B1 hv S1 hb1 => (hf B1 hb1).run s1 _ S1 fun u s2 B2 hu S2 hb2 => ?_) hm
  have hv2 : VP w' x y B2 v := by
    obtain ⟨p, a, b, e1, hp, ha, hb⟩ := hv
    exact ⟨p, a, b, e1, hb2 _ _ hp, ha.mono hb2, hb.mono hb2⟩
  obtain ⟨as, r1⟩ := hv2.reads S2
  obtain ⟨bs, r2⟩ := hu.reads S2
  refine ne_dataH_same r1 r2 (shaped_pair w' x y).1 (shaped_pair w' x y).1 (by have := R.u; omega) (mix_pair w' x y) ?_
  rw [same_pair]
  exact wpAny_truthy_bool (k s2 (S2.less (hb1.trans hb2) S.ext))
end
end
end
section
set_option maxRecDepth 100000
section
theorem Done.le {b : Int} {k K : Nat} {z : Int} (h : Done b k z) (hk : k ≤ K) : Done b K z := by
  induction hk with
  | refl => exact h
  | step _ ih => exact ih.succ
theorem ediv_bd {b : Nat} (hb : 2 ≤ b) {z M : Int} (hM : 0 ≤ M) (h1 : -(2 * M) ≤ z) (h2 : z ≤ 2 * M + 1) : -M ≤ z / (b : Int) ∧ z / (b : Int) ≤ M := by
  have hb' : (2 : Int) ≤ b := by omega
  have h3 : M * 2 ≤ M * (b : Int) := Int.mul_le_mul_of_nonneg_left hb' hM
  have h4 : (M + 1) * 2 ≤ (M + 1) * (b : Int) := Int.mul_le_mul_of_nonneg_left hb' (by omega)
  constructor
  · refine (Int.le_ediv_iff_mul_le (by omega)).mpr ?_
    rw [Int.neg_mul]; omega
  · have : z / (b : Int) < M + 1 := (Int.ediv_lt_iff_lt_mul (by omega)).mpr (by omega)
    omega
theorem done_pow {b : Nat} (hb : 2 ≤ b) : ∀ (m : Nat) (z : Int), -(2 ^ m) ≤ z → z ≤ 2 ^ m → Done b (m + 2) z
  | 0, z, h1, h2 => by
    have h1' : -1 ≤ z := h1
    have h2' : z ≤ 1 := h2
    have e1 : (1 : Int) / (b : Int) = 0 := Int.ediv_eq_zero_of_lt (by decide) (by omega)
    have e2 : (-1 : Int) / (b : Int) = -1 := ((Int.ediv_emod_unique (a := -1) (b := (b : Int)) (r := (b : Int) - 1) (q := -1) (by omega)).mpr ⟨by omega, by omega, by omega⟩).1
    have d1 : ∀ k, Done b (k + 1) 1 := fun k => .inr (by rw [e1]; exact Done.zero _ _)
    rcases (show z = 0 ∨ z = 1 ∨ z = -1 by omega) with rfl | rfl | rfl
    · exact Done.zero _ _
    · exact d1 1
    · exact .inr (by rw [e2]; exact d1 0)
  | m + 1, z, h1, h2 => by
    have hp : (0 : Int) ≤ 2 ^ m := by exact_mod_cast Nat.zero_le (2 ^ m)
    have e : (2 : Int) ^ (m + 1) = 2 * 2 ^ m := by rw [Int.pow_succ, Int.mul_comm]
    rw [e] at h1 h2
    have := ediv_bd hb hp h1 (by omega)
    exact .inr (done_pow hb m _ (by omega) (by omega))
/-- nought is reached in time -/
theorem done_all {b : Nat} (hb : 2 ≤ b) {z : Int} (h1 : -2048 ≤ z) (h2 : z ≤ 2048) : Done b 39 z := (done_pow hb 11 z h1 h2).le (by decide)
/-- each digit stands between nought and the base -/
theorem nd_range {b : Nat} (hb : 2 ≤ b) : ∀ (k : Nat) (z : Int), ∀ d ∈ nd b k z, 0 ≤ d ∧ d < b
  | 0, _, _, h => nomatch h
  | k + 1, z, d, h => by
    rw [nd] at h
    split at h
    · nomatch h
    · rcases List.mem_cons.mp h with rfl | h
      · exact ⟨Int.emod_nonneg _ (by omega), Int.emod_lt_of_pos _ (by omega)⟩
      · exact nd_range hb k _ d h
/-- the digits tell the number -/
theorem nd_tell {b : Nat} (hb : 2 ≤ b) : ∀ (k : Nat) (z : Int), Done b k z → (nd b k z).reverse.foldl (tell (-(b : Nat))) 0 = z
  | 0, z, h => (show z = 0 from h) ▸ rfl
  | k + 1, z, h => by
    by_cases h0 : z = 0
    · subst h0; rw [nd_zero]; rfl
    · rw [nd, if_neg h0, List.reverse_cons, List.foldl_append, nd_tell hb k _ (h.resolve_left h0)]
      show -(z / (b : Int)) * -(b : Int) + z % b = z
      rw [Int.neg_mul_neg, Int.mul_comm]
      exact Int.mul_ediv_add_emod z b
end
section
/-- pairs: nought is reached in time, by a table -/
noncomputable def pstepsL : Nat → Int → Int → Bool
  | 0, x, y => x == 0 && y == 0
  | k + 1, x, y => (x == 0 && y == 0) || pstepsL k ((y - (x - (x + y) % 2)) / 2) (-((x - (x + y) % 2 + y) / 2))
theorem pdone_of : ∀ (k : Nat) (x y : Int), pstepsL k x y = true → PDone k x y
  | 0, x, y, h => by simpa [pstepsL, PDone] using h
  | k + 1, x, y, h => by
    simp only [pstepsL, Bool.or_eq_true, Bool.and_eq_true, beq_iff_eq] at h
    rcases h with h | h
    · exact .inl h
    · exact .inr (pdone_of k _ _ h)
theorem ptable : (List.range 37).all (fun i => (List.range 37).all fun j => pstepsL 59 ((i : Int) - 18) ((j : Int) - 18)) = true := by decide +kernel
theorem pdone_all {x y : Int} (hx : -18 ≤ x ∧ x ≤ 18) (hy : -18 ≤ y ∧ y ≤ 18) : PDone 59 x y := by
  have h1 := List.all_eq_true.mp (List.all_eq_true.mp ptable (x + 18).toNat (List.mem_range.mpr (by omega))) (y + 18).toNat (List.mem_range.mpr (by omega))
  rw [show (((x + 18).toNat : Nat) : Int) - 18 = x by omega, show (((y + 18).toNat : Nat) : Int) - 18 = y by omega] at h1
  exact pdone_of _ _ _ h1
theorem pd_range : ∀ (k : Nat) (x y : Int), ∀ d ∈ pd k x y, d = 0 ∨ d = 1
  | 0, _, _, _, h => nomatch h
  | k + 1, x, y, d, h => by
    rw [pd] at h
    split at h
    · nomatch h
    · rcases List.mem_cons.mp h with rfl | h
      · omega
      · exact pd_range k _ _ d h
theorem pd_tell : ∀ (k : Nat) (x y : Int), PDone k x y → (pd k x y).reverse.foldl ptell (0, 0) = (x, y)
  | 0, x, y, h => by obtain ⟨rfl, rfl⟩ : x = 0 ∧ y = 0 := h; rfl
  | k + 1, x, y, h => by
    by_cases h0 : x = 0 ∧ y = 0
    · obtain ⟨rfl, rfl⟩ := h0; rw [pd_zero]; rfl
    · rw [pd, if_neg h0, List.reverse_cons, List.foldl_append, pd_tell k _ _ (h.resolve_left h0)]
      show (-(_ + _) + (x + y) % 2, _ - _) = (x, y)
      refine Prod.ext ?_ ?_ <;> simp only <;> omega
end
section
theorem nd_length (b : Int) : ∀ (k : Nat) (z : Int), (nd b k z).length ≤ k
  | 0, _ => Nat.le_refl 0
  | k + 1, z => by
    rw [nd]
    split
    · exact Nat.zero_le _
    · exact Nat.succ_le_succ (nd_length b k _)
theorem tell_bd {base : Int} (hb : base.natAbs ≤ 9) : ∀ (L : List Int) (acc : Int) (n : Nat), (∀ d ∈ L, d.natAbs ≤ 9) → acc.natAbs + 1 ≤ 10 ^ n → (L.foldl (tell base) acc).natAbs + 1 ≤ 10 ^ (n + L.length)
  | [], acc, n, _, h => h
  | d :: L, acc, n, hd, h => by
    rw [List.length_cons, ← Nat.add_assoc, Nat.add_right_comm]
    refine tell_bd hb L _ (n + 1) (fun e he => hd e (List.mem_cons_of_mem _ he)) ?_
    have h1 := hd d List.mem_cons_self
    have h2 : (tell base acc d).natAbs ≤ acc.natAbs * base.natAbs + d.natAbs := by
      unfold tell
      rw [← Int.natAbs_mul]
      exact Int.natAbs_add_le _ _
    have h3 : acc.natAbs * base.natAbs ≤ acc.natAbs * 9 := Nat.mul_le_mul_left _ hb
    rw [Nat.pow_succ]
    omega
theorem tell_small {base : Int} (hb : base.natAbs ≤ 9) {Ds : List Int} (hd : ∀ d ∈ Ds, d.natAbs ≤ 9) (hl : Ds.length ≤ 40) (i : Nat) :
    ((Ds.reverse.take i).foldl (tell base) 0).natAbs < 2 ^ 900 ∧ ((Ds.reverse.take i).foldl (tell base) 0 * base).natAbs < 2 ^ 1000 := by
  have h1 := tell_bd hb (Ds.reverse.take i) 0 0 (fun d h => hd d (List.mem_reverse.mp (List.mem_of_mem_take h))) (by decide)
  have h2 : (Ds.reverse.take i).length ≤ 40 := Nat.le_trans (List.length_take_le' i Ds.reverse) (by rw [List.length_reverse]; exact hl)
  have h3 : 10 ^ (0 + (Ds.reverse.take i).length) ≤ 10 ^ 40 := Nat.pow_le_pow_right (by decide) (by omega)
  have h4 : ((Ds.reverse.take i).foldl (tell base) 0).natAbs < 10 ^ 40 := by omega
  refine ⟨Nat.lt_of_lt_of_le h4 (by decide), ?_⟩
  rw [Int.natAbs_mul]
  have h5 := Nat.mul_le_mul (Nat.le_of_lt h4) hb
  exact Nat.lt_of_le_of_lt h5 (by decide)
end
end
section
set_option maxRecDepth 100000
section
theorem pd_length : ∀ (k : Nat) (x y : Int), (pd k x y).length ≤ k
  | 0, _, _ => Nat.le_refl 0
  | k + 1, x, y => by
    rw [pd]
    split
    · exact Nat.zero_le _
    · exact Nat.succ_le_succ (pd_length k _ _)
/-- what each row of a pair tells on the way, by a table -/
noncomputable def prefOk (Ds : List Int) : Bool := (List.range (Ds.length + 1)).all fun i => let p := (Ds.reverse.take i).foldl ptell (0, 0); decide (-1000 ≤ p.1 ∧ p.1 ≤ 1000 ∧ -1000 ≤ p.2 ∧ p.2 ≤ 1000)
theorem pref_of {Ds : List Int} (h : prefOk Ds = true) (i : Nat) : Bd 1000 ((Ds.reverse.take i).foldl ptell (0, 0)).1 ∧ Bd 1000 ((Ds.reverse.take i).foldl ptell (0, 0)).2 := by
  have h' := List.all_eq_true.mp h
  have e : Ds.reverse.take i = Ds.reverse.take (min i Ds.length) := by
    rcases Nat.le_total i Ds.length with h1 | h1
    · rw [Nat.min_eq_left h1]
    · rw [Nat.min_eq_right h1, List.take_of_length_le (by rw [List.length_reverse]; exact h1), List.take_of_length_le (by rw [List.length_reverse]; exact Nat.le_refl _)]
  have h2 := of_decide_eq_true (h' (min i Ds.length) (List.mem_range.mpr (by omega)))
  rw [e]
  exact ⟨⟨h2.1, h2.2.1⟩, h2.2.2.1, h2.2.2.2⟩
theorem pref_all : ∀ (k : Nat) {x y : Int}, PDone k x y → -18 ≤ x ∧ x ≤ 18 → -18 ≤ y ∧ y ≤ 18 → ∀ i, Bd 1000 (((pd k x y).reverse.take i).foldl ptell (0, 0)).1 ∧ Bd 1000 (((pd k x y).reverse.take i).foldl ptell (0, 0)).2 := by
  have nil : ∀ i, Bd 1000 ((([] : List Int).reverse.take i).foldl ptell (0, 0)).1 ∧ Bd 1000 ((([] : List Int).reverse.take i).foldl ptell (0, 0)).2 := fun i => by
    rw [List.reverse_nil, List.take_nil]
    exact ⟨⟨by decide, by decide⟩, by decide, by decide⟩
  intro k
  induction k with
  | zero => exact fun _ _ _ => nil
  | succ k ih =>
    intro x y h hx hy i
    by_cases h0 : x = 0 ∧ y = 0
    · rw [pd, if_pos h0]; exact nil i
    · have ht := pd_tell (k + 1) x y h
      rcases Nat.lt_or_ge i (pd (k + 1) x y).length with h1 | h1
      · have hd := h.resolve_left h0
        rw [pd, if_neg h0, List.length_cons] at h1
        rw [pd, if_neg h0, List.reverse_cons, List.take_append_of_le_length (by rw [List.length_reverse]; omega)]
        exact ih hd (by omega) (by omega) i
      · rw [List.take_of_length_le (by rw [List.length_reverse]; exact h1), ht]
        exact ⟨⟨by show -1000 ≤ x; omega, by show x ≤ 1000; omega⟩, by show -1000 ≤ y; omega, by show y ≤ 1000; omega⟩
end
end
section
open PySem PyProof.Rows PySem.Calls
set_option maxRecDepth 100000
section

/-- turns of a loop, plainly -/
noncomputable def iter {γ : Type} (body : Nat → γ → Option (ForInStep γ)) : Nat → Nat → γ → Option γ
  | 0, _, g => some g
  | n + 1, i, g => match body i g with
    | none => none
    | some (.done g') => some g'
    | some (.yield g') => iter body n (i + 1) g'

section
variable {prog : Program} {w : World} {A : Around} {E : Value → Shared → Prop} {s : Shared}
theorem wpS_iter {β γ : Type} {a b : Nat} {F : Nat → β → StateT SortSt Sem (ForInStep β)} {Q : β → SortSt → Prop} (body : Nat → γ → Option (ForInStep γ)) (R : γ → β → SortSt → Prop) {g g' : γ} {c : β} {st : SortSt}
    (h : R g c st) (hb : iter body (b - a) a g = some g')
    (hstep : ∀ i g c st r, a ≤ i → i < b → R g c st → body i g = some r → wpS (model prog w) A E s (F i c) (fun r' st' => match r' with
      | .done c' => ∃ g', r = .done g' ∧ R g' c' st'
      | .yield c' => ∃ g', r = .yield g' ∧ R g' c' st') st)
    (hend : ∀ c st, R g' c st → Q c st) : wpS (model prog w) A E s (forIn [a:b] c F) Q st := by
  refine wpS_forRange (I := fun i c st => ∃ g, R g c st ∧ iter body (b - i) i g = some g') (fun i c st ha hi ⟨g, hR, hg⟩ => ?_) (fun c st ⟨g, hR, hg⟩ => ?_) ⟨g, h, hb⟩
  · obtain ⟨k, hk⟩ : ∃ k, b - i = k + 1 := ⟨b - i - 1, by omega⟩
    rw [hk, iter] at hg
    cases hr : body i g with
    | none => rw [hr] at hg; cases hg
    | some r =>
      rw [hr] at hg
      refine wpS_mono (hstep i g c st r ha hi hR hr) fun r' st' h' => ?_
      cases r' with
      | done c' =>
        obtain ⟨g'', rfl, hR'⟩ := h'
        simp only [Option.some.injEq] at hg
        subst hg
        exact hend _ _ hR'
      | yield c' =>
        obtain ⟨g'', rfl, hR'⟩ := h'
        exact ⟨g'', hR', by rwa [show b - (i + 1) = k by omega]⟩
  · rw [show b - max a b = 0 by omega, iter] at hg
    cases hg
    exact hend _ _ hR
end

section
variable {M : Model} {A : Around} {E : Value → Shared → Prop} {s : Shared} {σ α : Type} {c : Prop} [Decidable c] {t e : StateT σ Sem α} {Q : α → σ → Prop} {st : σ}
theorem wpS_pos (h : c) (k : wpS M A E s t Q st) : wpS M A E s (if c then t else e) Q st := by rw [if_pos h]; exact k
theorem wpS_neg (h : ¬c) (k : wpS M A E s e Q st) : wpS M A E s (if c then t else e) Q st := by rw [if_neg h]; exact k
end
section
variable {f : Nat → Keyed}
theorem swapIB_map (xs : Array Nat) (i j : Nat) : (xs.map f).swapIfInBounds i j = (xs.swapIfInBounds i j).map f := by
  rw [Array.swapIfInBounds_def, Array.swapIfInBounds_def]
  simp only [Array.size_map]
  split
  · split
    · apply Array.ext_getElem?
      intro k
      rw [Array.getElem?_map, Array.getElem?_swap, Array.getElem?_swap]
      repeat' split
      all_goals simp_all
    · rfl
  · rfl
theorem bubble_map (xs : Array Nat) (src : Nat) : ∀ d, bubble (xs.map f) src d = (bubble xs src d).map f
  | 0 => rfl
  | d + 1 => by rw [bubble_succ, bubble_succ, bubble_map xs src d, swapIB_map]
theorem mirror_map (xs : Array Nat) (i j : Nat) : ∀ d, mirror (xs.map f) i j d = (mirror xs i j d).map f
  | 0 => rfl
  | d + 1 => by rw [mirror_succ, mirror_succ, mirror_map xs i j d, swapIB_map]
theorem puts_map (sa : Nat) : ∀ (l : List (Nat × Nat)) (xs : Array Nat), (l.map fun p => (f p.1, p.2)).foldl (fun a (p : Keyed × Nat) => a.setIfInBounds (sa + p.2) p.1) (xs.map f) = (l.foldl (fun a (p : Nat × Nat) => a.setIfInBounds (sa + p.2) p.1) xs).map f
  | [], _ => rfl
  | p :: l, xs => by
    rw [List.map_cons, List.foldl_cons, List.foldl_cons, ← puts_map sa l]
    congr 1
    exact Array.map_setIfInBounds.symm
end

/-- the state of the sort: items by number -/
structure Sm (f : Nat → Keyed) (xs : Array Nat) (p : Array (Nat × Nat × Nat)) (st : SortSt) : Prop where
  arr : arrOf st = xs.map f
  kind : kindOf st = oneType'
  failed : failedOf st = none
  pend : pendingOf st = p
  gal : gallopOf st = 7
theorem Sm.set {f : Nat → Keyed} {xs xs' : Array Nat} {p : Array (Nat × Nat × Nat)} {st : SortSt} (S : Sm f xs p st) {ys : Array Keyed} (h : ys = xs'.map f) : Sm f xs' p (setArr st ys) := ⟨h, S.kind, S.failed, S.pend, S.gal⟩

/-- keys beside numbers -/
noncomputable def Kf (f : Nat → Keyed) (key : Nat → Nat) : Prop := ∃ c : Int, ∀ i, ∃ t q, f i = (.int (key i + c) t, q)
theorem lt_up {a b : Nat} {c : Int} : decide ((a : Int) + c < b + c) = decide (a < b) := decide_eq_decide.mpr (by omega)

noncomputable def ltP (key : Nat → Nat) (xs : Array Nat) (i j : Nat) : Option Bool := match xs.toList[i]?, xs.toList[j]? with
  | some x, some y => some (decide (key x < key y))
  | _, _ => none

section
variable {prog : Program} {w : World} {A : Around} {E : Value → Shared → Prop} {s : Shared} {f : Nat → Keyed} {key : Nat → Nat} {xs : Array Nat} {p : Array (Nat × Nat × Nat)} {st : SortSt}
theorem getM {i x : Nat} (h : xs[i]? = some x) : (xs.map f)[i]? = some (f x) := by rw [Array.getElem?_map, h]; rfl
theorem wpS_ltM {i j : Nat} {b : Bool} {Q : Option Bool → SortSt → Prop} (F : Kf f key) (S : Sm f xs p st) (hb : ltP key xs i j = some b) (h : Q (some b) st) : wpS (model prog w) A E s (ltAt' i j) Q st := by
  unfold ltP at hb
  simp only [Array.getElem?_toList] at hb
  cases hi : xs[i]? with
  | none => rw [hi] at hb; cases hb
  | some x =>
    cases hj : xs[j]? with
    | none => rw [hi, hj] at hb; cases hb
    | some y =>
      rw [hi, hj] at hb
      cases hb
      obtain ⟨c, F⟩ := F
      obtain ⟨t, q, e1⟩ := F x
      obtain ⟨u, r, e2⟩ := F y
      exact wpS_ltAt S.kind (by rw [S.arr, getM hi, e1]) (by rw [S.arr, getM hj, e2]) (by rwa [lt_up])
theorem wpS_lt2 {x y : Nat} {Q : Option Bool → SortSt → Prop} (F : Kf f key) (hk : kindOf st = oneType') (h : Q (some (decide (key x < key y))) st) : wpS (model prog w) A E s (lt' (f x) (f y)) Q st := by
  obtain ⟨c, F⟩ := F
  obtain ⟨t, q, e1⟩ := F x
  obtain ⟨u, r, e2⟩ := F y
  rw [e1, e2, lt'_eq]
  refine wpS_bind (wpS_get ?_)
  rw [hk, keyLt'_oneType]
  exact wpS_bind (wpS_lift (wpAny_attempt (oneLt_int ⟨rfl, wpS_pure (by rwa [lt_up])⟩)))
theorem wpS_el {i x : Nat} {Q : Keyed → SortSt → Prop} (hx : xs[i]? = some x) (h : Q (f x) st) : wpS (model prog w) A E s (elem' (xs.map f) i) Q st := by
  rw [elem'_eq, getM hx]
  exact wpS_pure h

/-- a run that falls, then rises -/
noncomputable def downP (key : Nat → Nat) (xs : Array Nat) (lo : Nat) (_ n : Nat) : Option (ForInStep Nat) := match ltP key xs (lo + n) (lo + n - 1) with
  | some true => some (.yield (n + 1))
  | some false => match ltP key xs (lo + n - 1) (lo + n) with
    | some true => some (.done n)
    | _ => none
  | none => none
noncomputable def upP (key : Nat → Nat) (xs : Array Nat) (lo : Nat) (_ n : Nat) : Option (ForInStep Nat) := match ltP key xs (lo + n) (lo + n - 1) with
  | some true => some (.done n)
  | some false => some (.yield (n + 1))
  | none => none
noncomputable def runP (key : Nat → Nat) (xs : Array Nat) (lo nrem : Nat) : Option (Nat × Array Nat) := match ltP key xs (lo + 1) (lo + 1 - 1) with
  | some true => match iter (downP key xs lo) (nrem - 2) 2 2 with
    | some n => match iter (upP key (mirror xs lo (lo + n) ((lo + n - lo) / 2)) lo) (nrem - n) n n with
      | some m => some (m, mirror xs lo (lo + n) ((lo + n - lo) / 2))
      | none => none
    | none => none
  | _ => none
theorem wpS_run {lo nrem m : Nat} {xs' : Array Nat} {Q : Option Nat → SortSt → Prop} (F : Kf f key) (S : Sm f xs p st) (hn : 2 ≤ nrem) (hr : runP key xs lo nrem = some (m, xs'))
    (h : ∀ st', Sm f xs' p st' → Q (some m) st') : wpS (model prog w) A E s (countRun' lo nrem) Q st := by
  unfold runP at hr
  split at hr <;> try (cases hr; done)
  rename_i h1
  split at hr <;> try (cases hr; done)
  rename_i n h2
  split at hr <;> try (cases hr; done)
  rename_i m' h3
  cases hr
  rw [countRun'_eq]
  refine wpS_bind (wpS_mono (wpS_forRange (I := fun x c st' => st' = st ∧ x = 1 ∧ c = (none, 1)) (Q := fun c st' => st' = st ∧ c = (none, 1)) ?_ ?_ ⟨rfl, rfl, rfl⟩) ?_)
  · rintro x c st' hx1 hx2 ⟨rfl, rfl, rfl⟩
    refine wpS_bind (wpS_ltM F S h1 ?_)
    exact wpS_pure ⟨rfl, rfl⟩
  · rintro c st' ⟨rfl, hx, rfl⟩
    omega
  rintro c st' ⟨rfl, rfl⟩
  dsimp only
  rw [if_neg (by simp; omega), if_neg (by decide)]
  refine wpS_bind (wpS_lift (wpAny_rule ⟨rfl, ?_⟩))
  refine wpS_bind (wpS_iter (γ := Nat) (downP key xs lo) (fun n c st'' => st'' = st' ∧ c = (none, n, 0)) ⟨rfl, rfl⟩ h2 ?_ ?_)
  · rintro i n c st'' r - - ⟨rfl, rfl⟩ hr
    unfold downP at hr
    split at hr <;> try (cases hr; done)
    · rename_i h4
      cases hr
      refine wpS_bind (wpS_ltM F S h4 ?_)
      exact wpS_pure ⟨_, rfl, rfl, rfl⟩
    · rename_i h4
      split at hr <;> try (cases hr; done)
      rename_i h5
      cases hr
      refine wpS_bind (wpS_ltM F S h4 ?_)
      refine wpS_bind (wpS_ltM F S h5 ?_)
      exact wpS_pure ⟨_, rfl, rfl, rfl⟩
  rintro c st'' ⟨rfl, rfl⟩
  dsimp only
  rw [if_neg (by decide)]
  rw [reverseSlice'_eq]
  refine wpS_bind (wpS_modify ?_)
  have S' : Sm f (mirror xs lo (lo + n) ((lo + n - lo) / 2)) p (setArr st'' (mirror (arrOf st'') lo (lo + n) ((lo + n - lo) / 2))) := S.set (by rw [S.arr, mirror_map])
  generalize hxs : mirror xs lo (lo + n) ((lo + n - lo) / 2) = xs' at h3 h S'
  refine wpS_bind (wpS_iter (γ := Nat) (upP key xs' lo) (fun n c st3 => Sm f xs' p st3 ∧ c = (none, n)) ⟨S', rfl⟩ h3 ?_ ?_)
  · rintro i n c st3 r - - ⟨S3, rfl⟩ hr
    unfold upP at hr
    split at hr <;> try (cases hr; done)
    · rename_i h4
      cases hr
      refine wpS_bind (wpS_ltM F S3 h4 ?_)
      exact wpS_pure ⟨_, rfl, S3, rfl⟩
    · rename_i h4
      cases hr
      refine wpS_bind (wpS_ltM F S3 h4 ?_)
      exact wpS_pure ⟨_, rfl, S3, rfl⟩
  rintro c st3 ⟨S3, rfl⟩
  exact wpS_pure (h st3 S3)

/-- the item at hi put before the one at lo -/
noncomputable def ins (l : List Nat) (lo hi : Nat) : List Nat := l.take lo ++ ((l.drop hi).take 1 ++ ((l.drop lo).take (hi - lo) ++ l.drop (hi + 1)))
theorem ins_at {l : List Nat} {lo hi : Nat} (h1 : lo ≤ hi) (h2 : hi < l.length) (k : Nat) : (ins l lo hi)[k]? = if k = lo then l[hi]? else if lo < k ∧ k ≤ hi then l[k - 1]? else l[k]? := by
  have a1 : (l.take lo).length = lo := by rw [List.length_take]; exact Nat.min_eq_left (Nat.le_trans h1 (Nat.le_of_lt h2))
  have a2 : ((l.drop hi).take 1).length = 1 := by rw [List.length_take, List.length_drop]; exact Nat.min_eq_left (Nat.sub_pos_of_lt h2)
  have a3 : ((l.drop lo).take (hi - lo)).length = hi - lo := by rw [List.length_take, List.length_drop]; exact Nat.min_eq_left (Nat.sub_le_sub_right (Nat.le_of_lt h2) lo)
  unfold ins
  rcases Nat.lt_trichotomy k lo with h | h | h
  · rw [if_neg (Nat.ne_of_lt h), if_neg (fun e => Nat.lt_asymm h e.1), List.getElem?_append_left (by rw [a1]; exact h), List.getElem?_take_of_lt h]
  · rw [if_pos h, List.getElem?_append_right (by rw [a1]; exact Nat.le_of_eq h.symm), a1, h, Nat.sub_self, List.getElem?_append_left (by rw [a2]; exact Nat.one_pos), List.getElem?_take_of_lt Nat.one_pos, List.getElem?_drop]
    rfl
  · obtain ⟨m, rfl⟩ : ∃ m, k = lo + 1 + m := ⟨k - (lo + 1), (Nat.add_sub_cancel' h).symm⟩
    have e1 : lo + 1 + m - lo - 1 = m := by omega
    rw [if_neg (Nat.ne_of_gt h), List.getElem?_append_right (by rw [a1]; exact Nat.le_of_lt h), a1, List.getElem?_append_right (by rw [a2]; omega), a2, e1]
    by_cases hk : lo + 1 + m ≤ hi
    · have hm : m < hi - lo := by omega
      rw [if_pos ⟨h, hk⟩, List.getElem?_append_left (by rw [a3]; exact hm), List.getElem?_take_of_lt hm, List.getElem?_drop]
      congr 1
      omega
    · rw [if_neg (fun e => hk e.2), List.getElem?_append_right (by rw [a3]; omega), a3, List.getElem?_drop]
      congr 1
      omega
theorem ins_eq {xs : Array Nat} {src d : Nat} (hs : src < xs.size) (hd : d ≤ src) : bubble xs src d = (ins xs.toList (src - d) src).toArray := by
  apply Array.ext_getElem?
  intro k
  refine (getElem?_bubble hs d hd k).trans (Eq.trans ?_ (List.getElem?_toArray ..).symm)
  rw [ins_at (Nat.sub_le _ _) (by rw [Array.length_toList]; exact hs)]
  simp only [Array.getElem?_toList]
/-- items put where they belong, one by one -/
noncomputable def seekP (key : Nat → Nat) (xs : Array Nat) (lo k : Nat) (_ : Nat) (g : Nat × Nat) : Option (ForInStep (Nat × Nat)) :=
  if g.1 ≥ g.2 then some (.done g) else match ltP key xs (lo + k) (lo + (g.1 + g.2) / 2) with
    | some true => some (.yield (g.1, (g.1 + g.2) / 2))
    | some false => some (.yield ((g.1 + g.2) / 2 + 1, g.2))
    | none => none
noncomputable def putP (key : Nat → Nat) (lo k : Nat) (xs : Array Nat) : Option (ForInStep (Array Nat)) := match iter (seekP key xs lo k) k 0 (0, k) with
  | some g => if lo + k < xs.size then some (.yield (ins xs.toList (lo + k - (lo + k - (lo + g.1))) (lo + k)).toArray) else none
  | none => none
theorem wpS_put {lo n ok : Nat} {xs' : Array Nat} {Q : Bool → SortSt → Prop} (F : Kf f key) (S : Sm f xs p st) (hr : iter (putP key lo) (n - max ok 1) (max ok 1) xs = some xs')
    (h : ∀ st', Sm f xs' p st' → Q true st') : wpS (model prog w) A E s (binarySort' lo n ok) Q st := by
  rw [binarySort'_eq]
  refine wpS_bind (wpS_iter (putP key lo) (fun xs c st => Sm f xs p st ∧ c = (none, ())) ⟨S, rfl⟩ hr ?_ ?_)
  · rintro k xs c st r - - ⟨S, rfl⟩ hr
    unfold putP at hr
    split at hr <;> try (cases hr; done)
    rename_i g hg
    split at hr <;> try (cases hr; done)
    rename_i hsz
    cases hr
    refine wpS_bind (wpS_iter (seekP key xs lo k) (fun g c st' => st' = st ∧ c = (none, g.1, g.2)) ⟨rfl, rfl⟩ hg ?_ ?_)
    · rintro i g c st r - - ⟨rfl, rfl⟩ hr
      unfold seekP at hr
      dsimp only
      split at hr
      · rename_i h1
        cases hr
        rw [if_pos h1]
        exact wpS_pure ⟨_, rfl, rfl, rfl⟩
      · rename_i h1
        rw [if_neg h1]
        split at hr <;> try (cases hr; done)
        · rename_i h2
          cases hr
          refine wpS_bind (wpS_ltM F S h2 ?_)
          exact wpS_pure ⟨_, rfl, rfl, rfl⟩
        · rename_i h2
          cases hr
          refine wpS_bind (wpS_ltM F S h2 ?_)
          exact wpS_pure ⟨_, rfl, rfl, rfl⟩
    rintro c st' ⟨rfl, rfl⟩
    dsimp only
    rw [moveDown'_eq]
    refine wpS_bind (wpS_modify (wpS_pure ⟨_, rfl, S.set ?_, rfl⟩))
    rw [S.arr, bubble_map, ins_eq hsz (Nat.sub_le _ _)]
  rintro c st' ⟨S', rfl⟩
  exact wpS_pure (h st' S')

theorem wpS_set {σ : Type} {M : Model} {x st : σ} {Q : PUnit → σ → Prop} (h : Q ⟨⟩ x) : wpS M A E s (set x : StateT σ Sem PUnit) Q st := by
  unfold wpS; rw [StateT.run_set]; exact wpAny_pure ⟨rfl, h⟩
/-- where a key stands in a sorted row -/
noncomputable def beyP (key : Nat → Nat) (left : Bool) (k : Nat) (xs : Array Nat) (base i : Nat) : Option Bool := match xs.toList[base + i]? with
  | some x => some (if left then decide (key x < key k) else !decide (key k < key x))
  | none => none
noncomputable def leapP (bey : Nat → Option Bool) (hint maxofs : Nat) (up : Bool) (_ : Nat) (g : Nat × Nat) : Option (ForInStep (Nat × Nat)) :=
  if g.2 ≥ maxofs then some (.done g) else match bey (if up then hint + g.2 else hint - g.2) with
    | some b => if b = up then some (.yield (g.2, 2 * g.2 + 1)) else some (.done g)
    | none => none
noncomputable def halfP (bey : Nat → Option Bool) (_ : Nat) (g : Nat × Nat) : Option (ForInStep (Nat × Nat)) :=
  if g.1 ≥ g.2 then some (.done g) else match bey (g.1 + (g.2 - g.1) / 2) with
    | some true => some (.yield (g.1 + (g.2 - g.1) / 2 + 1, g.2))
    | some false => some (.yield (g.1, g.1 + (g.2 - g.1) / 2))
    | none => none
noncomputable def boundP (bey : Nat → Option Bool) (n hint : Nat) : Option (Nat × Nat) := match bey hint with
  | some true => match iter (leapP bey hint (n - hint) true) n 0 (0, 1) with
    | some g => some (hint + g.1 + 1, hint + min g.2 (n - hint))
    | none => none
  | some false => match iter (leapP bey hint (hint + 1) false) n 0 (0, 1) with
    | some g => some (hint + 1 - min g.2 (hint + 1), hint - g.1)
    | none => none
  | none => none
noncomputable def galP (bey : Nat → Option Bool) (n hint : Nat) : Option Nat := match boundP bey n hint with
  | some g => match iter (halfP bey) n 0 g with
    | some g => some g.2
    | none => none
  | none => none
noncomputable def gallopM : Bool → Keyed → Array Keyed → Nat → Nat → Nat → StateT SortSt Sem (Option Nat) := sortPriv% PySem.Builtin.gallop
theorem wpS_bey {left : Bool} {k base i : Nat} {b : Bool} {Q : Option Bool → SortSt → Prop} (F : Kf f key) (hk : kindOf st = oneType') (hb : beyP key left k xs base i = some b) (h : Q (some b) st) :
    wpS (model prog w) A E s (do
      let x ← elem' (xs.map f) (base + i)
      if left = true then lt' x (f k) else do
        let r ← lt' (f k) x
        pure (Option.map (fun x => !x) r)) Q st := by
  unfold beyP at hb
  simp only [Array.getElem?_toList] at hb
  split at hb <;> try (cases hb; done)
  rename_i x hx
  cases hb
  refine wpS_bind (wpS_el hx ?_)
  cases left with
  | true => exact wpS_lt2 F hk h
  | false => exact wpS_bind (wpS_lt2 F hk (wpS_pure h))
theorem wpS_gallop {left : Bool} {k base n hint r : Nat} {Q : Option Nat → SortSt → Prop} (F : Kf f key) (hk : kindOf st = oneType') (hg : galP (beyP key left k xs base) n hint = some r) (h : Q (some r) st) :
    wpS (model prog w) A E s (gallopM left (f k) (xs.map f) base n hint) Q st := by
  unfold galP at hg
  split at hg <;> try (cases hg; done)
  rename_i g h1
  split at hg <;> try (cases hg; done)
  rename_i g2 h2
  cases hg
  unfold boundP at h1
  split at h1 <;> try (cases h1; done)
  · rename_i h3
    split at h1 <;> try (cases h1; done)
    rename_i g3 h4
    cases h1
    refine wpS_bind (wpS_bey F hk h3 ?_)
    refine wpS_bind (wpS_iter (leapP (beyP key left k xs base) hint (n - hint) true) (fun g c st' => st' = st ∧ c = (none, g.1, g.2)) ⟨rfl, rfl⟩ h4 ?_ ?_)
    · rintro i g c st r - - ⟨rfl, rfl⟩ hr
      unfold leapP at hr
      dsimp only
      split at hr
      · rename_i h1
        cases hr
        rw [if_pos h1]
        exact wpS_pure ⟨_, rfl, rfl, rfl⟩
      · rename_i h1
        rw [if_neg h1]
        split at hr <;> try (cases hr; done)
        rename_i b h5
        refine wpS_bind (wpS_bey F hk h5 ?_)
        cases b with
        | true => cases hr; exact wpS_pure ⟨_, rfl, rfl, rfl⟩
        | false => cases hr; exact wpS_pure ⟨_, rfl, rfl, rfl⟩
    rintro c st_1 ⟨rfl, rfl⟩
    dsimp only
    refine wpS_bind (wpS_iter (halfP (beyP key left k xs base)) (fun g c st' => st' = st_1 ∧ c = (none, g.1, g.2)) ⟨rfl, rfl⟩ h2 ?_ ?_)
    · rintro i g c st r - - ⟨rfl, rfl⟩ hr
      unfold halfP at hr
      dsimp only
      split at hr
      · rename_i h1
        cases hr
        rw [if_pos h1]
        exact wpS_pure ⟨_, rfl, rfl, rfl⟩
      · rename_i h1
        rw [if_neg h1]
        split at hr <;> try (cases hr; done)
        · rename_i h2
          cases hr
          refine wpS_bind (wpS_bey F hk h2 ?_)
          exact wpS_pure ⟨_, rfl, rfl, rfl⟩
        · rename_i h2
          cases hr
          refine wpS_bind (wpS_bey F hk h2 ?_)
          exact wpS_pure ⟨_, rfl, rfl, rfl⟩
    rintro c st' ⟨rfl, rfl⟩
    exact wpS_pure h
  · rename_i h3
    split at h1 <;> try (cases h1; done)
    rename_i g3 h4
    cases h1
    refine wpS_bind (wpS_bey F hk h3 ?_)
    refine wpS_bind (wpS_iter (leapP (beyP key left k xs base) hint (hint + 1) false) (fun g c st' => st' = st ∧ c = (none, g.1, g.2)) ⟨rfl, rfl⟩ h4 ?_ ?_)
    · rintro i g c st r - - ⟨rfl, rfl⟩ hr
      unfold leapP at hr
      dsimp only
      split at hr
      · rename_i h1
        cases hr
        rw [if_pos h1]
        exact wpS_pure ⟨_, rfl, rfl, rfl⟩
      · rename_i h1
        rw [if_neg h1]
        split at hr <;> try (cases hr; done)
        rename_i b h5
        refine wpS_bind (wpS_bey F hk h5 ?_)
        cases b with
        | true => cases hr; exact wpS_pure ⟨_, rfl, rfl, rfl⟩
        | false => cases hr; exact wpS_pure ⟨_, rfl, rfl, rfl⟩
    rintro c st_1 ⟨rfl, rfl⟩
    dsimp only
    refine wpS_bind (wpS_iter (halfP (beyP key left k xs base)) (fun g c st' => st' = st_1 ∧ c = (none, g.1, g.2)) ⟨rfl, rfl⟩ h2 ?_ ?_)
    · rintro i g c st r - - ⟨rfl, rfl⟩ hr
      unfold halfP at hr
      dsimp only
      split at hr
      · rename_i h1
        cases hr
        rw [if_pos h1]
        exact wpS_pure ⟨_, rfl, rfl, rfl⟩
      · rename_i h1
        rw [if_neg h1]
        split at hr <;> try (cases hr; done)
        · rename_i h2
          cases hr
          refine wpS_bind (wpS_bey F hk h2 ?_)
          exact wpS_pure ⟨_, rfl, rfl, rfl⟩
        · rename_i h2
          cases hr
          refine wpS_bind (wpS_bey F hk h2 ?_)
          exact wpS_pure ⟨_, rfl, rfl, rfl⟩
    rintro c st' ⟨rfl, rfl⟩
    exact wpS_pure h

noncomputable def mergeLoM : Array Keyed → Array Keyed → StateT SortSt Sem (Array Keyed) := sortPriv% PySem.Builtin.mergeLo
noncomputable def mergeHiM : Array Keyed → Array Keyed → StateT SortSt Sem (Array Keyed) := sortPriv% PySem.Builtin.mergeHi
structure MS where
  r : Option (Array Nat)
  out : Array Nat
  ia : Nat
  ib : Nat
  ac : Nat
  bc : Nat
noncomputable abbrev MS.up (f : Nat → Keyed) (g : MS) : Option (Array Keyed) × Array Keyed × Nat × Nat × Nat × Nat := (g.r.map fun x => x.map f, g.out.map f, g.ia, g.ib, g.ac, g.bc)
noncomputable def loStep (key : Nat → Nat) (xa xb : Array Nat) (_ : Nat) (g : MS) : Option (ForInStep MS) := match xb.toList[g.ib]?, xa.toList[g.ia]? with
  | some y, some x => if key y < key x then
      if g.ib + 1 = xb.size then some (.done ⟨some (g.out.push y ++ xa.extract g.ia xa.size ++ xb.extract (g.ib + 1) xb.size), g.out.push y, g.ia, g.ib + 1, 0, g.bc + 1⟩)
      else if g.bc + 1 ≥ 7 then none else some (.yield ⟨none, g.out.push y, g.ia, g.ib + 1, 0, g.bc + 1⟩)
    else
      if g.ia + 1 + 1 = xa.size then some (.done ⟨some (g.out.push x ++ xb.extract g.ib xb.size ++ xa.extract (g.ia + 1) xa.size), g.out.push x, g.ia + 1, g.ib, g.ac + 1, 0⟩)
      else if g.ac + 1 ≥ 7 then none else some (.yield ⟨none, g.out.push x, g.ia + 1, g.ib, g.ac + 1, 0⟩)
  | _, _ => none
noncomputable def loP (key : Nat → Nat) (xa xb : Array Nat) : Option (Array Nat) := match xb[0]? with
  | some y => if 1 = xb.size then none else if 1 = xa.size then none else match iter (loStep key xa xb) (xa.size + xb.size) 0 ⟨none, #[y], 0, 1, 0, 0⟩ with
    | some g => g.r
    | none => none
  | none => none
theorem wpS_lo {xa xb r : Array Nat} {Q : Array Keyed → SortSt → Prop} (F : Kf f key) (S : Sm f xs p st) (hg : loP key xa xb = some r) (h : Q (r.map f) st) :
    wpS (model prog w) A E s (mergeLoM (xa.map f) (xb.map f)) Q st := by
  unfold loP at hg
  split at hg <;> try (cases hg; done)
  rename_i y hy
  split at hg <;> try (cases hg; done)
  rename_i hb1
  split at hg <;> try (cases hg; done)
  rename_i ha1
  split at hg <;> try (cases hg; done)
  rename_i g h1
  refine wpS_bind (wpS_lift (wpAny_rule ⟨rfl, ?_⟩))
  refine wpS_bind (wpS_el hy ?_)
  refine wpS_neg (by simpa using hb1) (wpS_neg (by simpa using ha1) (wpS_bind (wpS_get ?_)))
  refine wpS_bind (wpS_mono (wpS_forRange (I := fun x c st' => st' = st ∧ x = 0 ∧ c = (none, #[f y], 0, 1, gallopOf st)) (Q := fun c st' => st' = st ∧ c.1 = some (r.map f)) ?_ ?_ ⟨rfl, rfl, rfl⟩) ?_)
  · rintro x c st' - - ⟨rfl, rfl, rfl⟩
    refine wpS_bind (wpS_iter (loStep key xa xb) (fun g c st'' => st'' = st' ∧ c = g.up f) (g := ⟨none, #[y], 0, 1, 0, 0⟩) ⟨rfl, by simp [MS.up]⟩ (by simpa only [Array.size_map, Nat.sub_zero] using h1) ?_ ?_)
    · rintro i g c st r - - ⟨rfl, rfl⟩ hr
      unfold loStep at hr
      simp only [Array.getElem?_toList] at hr
      split at hr <;> try (cases hr; done)
      rename_i y x hy hx
      refine wpS_bind (wpS_el hy (wpS_bind (wpS_el hx (wpS_bind (wpS_lt2 F S.kind ?_)))))
      split at hr
      · rename_i hlt
        refine wpS_pos (by simpa using hlt) (wpS_bind (wpS_el hy ?_))
        split at hr
        · rename_i h2
          cases hr
          exact wpS_pos (by simpa using h2) (wpS_pure ⟨_, rfl, rfl, by simp [MS.up]⟩)
        · rename_i h2
          split at hr <;> try (cases hr; done)
          rename_i h3
          cases hr
          exact wpS_neg (by simpa using h2) (wpS_neg (by rw [S.gal]; exact h3) (wpS_pure ⟨_, rfl, rfl, by simp [MS.up]⟩))
      · rename_i hlt
        refine wpS_neg (by simpa using hlt) (wpS_bind (wpS_el hx ?_))
        split at hr
        · rename_i h2
          cases hr
          exact wpS_pos (by simpa using h2) (wpS_pure ⟨_, rfl, rfl, by simp [MS.up]⟩)
        · rename_i h2
          split at hr <;> try (cases hr; done)
          rename_i h3
          cases hr
          exact wpS_neg (by simpa using h2) (wpS_neg (by rw [S.gal]; exact h3) (wpS_pure ⟨_, rfl, rfl, by simp [MS.up]⟩))
    rintro c st'' ⟨rfl, rfl⟩
    obtain ⟨gr, go, g1, g2, g3, g4⟩ := g
    have hg' : gr = some r := hg
    subst hg'
    exact wpS_pure ⟨rfl, rfl⟩
  · rintro c st' ⟨rfl, hx, rfl⟩
    have h0 := (Array.getElem?_eq_some_iff.mp hy).1
    simp only [Array.size_map] at hx
    omega
  rintro c st' ⟨rfl, hc⟩
  obtain ⟨c1, c2⟩ := c
  subst hc
  exact wpS_pure h

theorem rev_eq (x : Nat) (out : Array Nat) : (x :: out.toList.reverse).toArray = (out.push x).reverse := by
  apply Array.ext'
  simp
noncomputable def hiStep (key : Nat → Nat) (xa xb : Array Nat) (_ : Nat) (g : MS) : Option (ForInStep MS) := match xb.toList[g.ib - 1]?, xa.toList[g.ia - 1]? with
  | some y, some x => if key y < key x then
      if g.ia - 1 = 0 then some (.done ⟨some (xa.extract 0 (g.ia - 1) ++ xb.extract 0 g.ib ++ (x :: g.out.toList.reverse).toArray), g.out.push x, g.ia - 1, g.ib, g.ac + 1, 0⟩)
      else if g.ac + 1 ≥ 7 then none else some (.yield ⟨none, g.out.push x, g.ia - 1, g.ib, g.ac + 1, 0⟩)
    else
      if g.ib - 1 = 1 then some (.done ⟨some (xb.extract 0 (g.ib - 1) ++ xa.extract 0 g.ia ++ (y :: g.out.toList.reverse).toArray), g.out.push y, g.ia, g.ib - 1, 0, g.bc + 1⟩)
      else if g.bc + 1 ≥ 7 then none else some (.yield ⟨none, g.out.push y, g.ia, g.ib - 1, 0, g.bc + 1⟩)
  | _, _ => none
noncomputable def hiP (key : Nat → Nat) (xa xb : Array Nat) : Option (Array Nat) := match xa[xa.size - 1]? with
  | some y => if xa.size - 1 = 0 then none else if xb.size = 1 then none else match iter (hiStep key xa xb) (xa.size + xb.size) 0 ⟨none, #[y], xa.size - 1, xb.size, 0, 0⟩ with
    | some g => g.r
    | none => none
  | none => none
theorem wpS_hi {xa xb r : Array Nat} {Q : Array Keyed → SortSt → Prop} (F : Kf f key) (S : Sm f xs p st) (hg : hiP key xa xb = some r) (h : Q (r.map f) st) :
    wpS (model prog w) A E s (mergeHiM (xa.map f) (xb.map f)) Q st := by
  unfold hiP at hg
  split at hg <;> try (cases hg; done)
  rename_i y hy
  split at hg <;> try (cases hg; done)
  rename_i ha1
  split at hg <;> try (cases hg; done)
  rename_i hb1
  split at hg <;> try (cases hg; done)
  rename_i g h1
  refine wpS_bind (wpS_lift (wpAny_rule ⟨rfl, ?_⟩))
  refine wpS_bind (wpS_el (i := (xa.map f).size - 1) (by rwa [Array.size_map]) ?_)
  refine wpS_neg (by simpa using ha1) (wpS_neg (by simpa using hb1) (wpS_bind (wpS_get ?_)))
  refine wpS_bind (wpS_mono (wpS_forRange (I := fun x c st' => st' = st ∧ x = 0 ∧ c = (none, (xa.map f).size - 1, (xb.map f).size, #[f y], gallopOf st)) (Q := fun c st' => st' = st ∧ c.1 = some (r.map f)) ?_ ?_ ⟨rfl, rfl, rfl⟩) ?_)
  · rintro x c st' - - ⟨rfl, rfl, rfl⟩
    refine wpS_bind (wpS_iter (hiStep key xa xb) (fun g c st'' => st'' = st' ∧ c = (g.r.map fun x => x.map f, g.ia, g.ib, g.out.map f, g.ac, g.bc)) (g := ⟨none, #[y], xa.size - 1, xb.size, 0, 0⟩) ⟨rfl, by simp⟩ (by simpa only [Array.size_map, Nat.sub_zero] using h1) ?_ ?_)
    · rintro i g c st r - - ⟨rfl, rfl⟩ hr
      unfold hiStep at hr
      simp only [Array.getElem?_toList] at hr
      split at hr <;> try (cases hr; done)
      rename_i y x hy hx
      refine wpS_bind (wpS_el hy (wpS_bind (wpS_el hx (wpS_bind (wpS_lt2 F S.kind ?_)))))
      split at hr
      · rename_i hlt
        refine wpS_pos (by simpa using hlt) (wpS_bind (wpS_el hx ?_))
        split at hr
        · rename_i h2
          cases hr
          exact wpS_pos (by simpa using h2) (wpS_pure ⟨_, rfl, rfl, by rw [rev_eq]; simp⟩)
        · rename_i h2
          split at hr <;> try (cases hr; done)
          rename_i h3
          cases hr
          exact wpS_neg (by simpa using h2) (wpS_neg (by rw [S.gal]; exact h3) (wpS_pure ⟨_, rfl, rfl, by simp⟩))
      · rename_i hlt
        refine wpS_neg (by simpa using hlt) (wpS_bind (wpS_el hy ?_))
        split at hr
        · rename_i h2
          cases hr
          exact wpS_pos (by simpa using h2) (wpS_pure ⟨_, rfl, rfl, by rw [rev_eq]; simp⟩)
        · rename_i h2
          split at hr <;> try (cases hr; done)
          rename_i h3
          cases hr
          exact wpS_neg (by simpa using h2) (wpS_neg (by rw [S.gal]; exact h3) (wpS_pure ⟨_, rfl, rfl, by simp⟩))
    rintro c st'' ⟨rfl, rfl⟩
    obtain ⟨gr, go, g1, g2, g3, g4⟩ := g
    have hg' : gr = some r := hg
    subst hg'
    exact wpS_pure ⟨rfl, rfl⟩
  · rintro c st' ⟨rfl, hx, rfl⟩
    have h0 := (Array.getElem?_eq_some_iff.mp hy).1
    simp only [Array.size_map] at hx
    omega
  rintro c st' ⟨rfl, hc⟩
  obtain ⟨c1, c2⟩ := c
  subst hc
  exact wpS_pure h

/-- two runs beside each other, the first from nought to sb -/
noncomputable def puts (sa : Nat) (m xs : Array Nat) : Array Nat := m.toList.zipIdx.foldl (fun a (p : Nat × Nat) => a.setIfInBounds (sa + p.2) p.1) xs
noncomputable def joinP (key : Nat → Nat) (xs : Array Nat) (sb nb : Nat) : Option (Array Nat) := match xs[sb]? with
  | some x0 => match galP (beyP key false x0 xs 0) sb 0 with
    | some k => if sb - k = 0 then none else match xs[k + (sb - k) - 1]? with
      | some x1 => match galP (beyP key true x1 xs sb) nb (nb - 1) with
        | some m => if m = 0 then none else match (if sb - k ≤ m then loP else hiP) key (xs.extract k sb) (xs.extract sb (sb + m)) with
          | some r => some (puts k r xs)
          | none => none
        | none => none
      | none => none
    | none => none
  | none => none
theorem wpS_join {sb nb pw : Nat} {r : Array Nat} {Q : Bool → SortSt → Prop} (F : Kf f key) (S : Sm f xs #[(0, sb, pw), (sb, nb, 0)] st) (hg : joinP key xs sb nb = some r)
    (h : ∀ st', Sm f r #[(0, sb + nb, pw)] st' → Q true st') : wpS (model prog w) A E s (mergeAt' 0) Q st := by
  unfold joinP at hg
  split at hg <;> try (cases hg; done)
  rename_i x0 h0
  split at hg <;> try (cases hg; done)
  rename_i k hk
  split at hg <;> try (cases hg; done)
  rename_i hz
  split at hg <;> try (cases hg; done)
  rename_i x1 h1
  split at hg <;> try (cases hg; done)
  rename_i m hm
  split at hg <;> try (cases hg; done)
  rename_i hz2
  split at hg <;> try (cases hg; done)
  rename_i r hr
  cases hg
  obtain ⟨kd, ar, pd, mg, fl⟩ := st
  obtain ⟨s1, s2, s3, s4, s5⟩ := S
  have s1 : ar = xs.map f := s1
  have s2 : kd = oneType' := s2
  have s3 : fl = none := s3
  have s4 : pd = #[(0, sb, pw), (sb, nb, 0)] := s4
  have s5 : mg = 7 := s5
  subst s1 s2 s3 s4 s5
  refine wpS_bind (wpS_get ?_)
  have e0 : (#[(0, sb, pw), (sb, nb, 0)] : Array (Nat × Nat × Nat))[0]? = some (0, sb, pw) := rfl
  have e1 : (#[(0, sb, pw), (sb, nb, 0)] : Array (Nat × Nat × Nat))[0 + 1]? = some (sb, nb, 0) := rfl
  dsimp only
  rw [e0, e1]
  dsimp only
  have S' : Sm f xs #[(0, sb + nb, pw)] (SortSt.mk' oneType' (xs.map f) (((#[(0, sb, pw), (sb, nb, 0)] : Array (Nat × Nat × Nat)).setIfInBounds 0 (0, sb + nb, pw)).eraseIdxIfInBounds (0 + 1)) 7 none) := ⟨rfl, rfl, rfl, by
    show ((#[(0, sb, pw), (sb, nb, 0)] : Array (Nat × Nat × Nat)).setIfInBounds 0 (0, sb + nb, pw)).eraseIdxIfInBounds (0 + 1) = _
    simp [Array.eraseIdxIfInBounds], rfl⟩
  refine wpS_bind (wpS_set ?_)
  refine wpS_bind (wpS_el h0 ?_)
  refine wpS_bind (wpS_gallop F S'.kind hk ?_)
  dsimp only
  rw [if_neg (by simpa using hz), Nat.zero_add]
  refine wpS_bind (wpS_el h1 ?_)
  refine wpS_bind (wpS_gallop F S'.kind hm ?_)
  dsimp only
  rw [if_neg (by simpa using hz2)]
  simp only [← Array.map_extract]
  have fin : ∀ st', Sm f xs #[(0, sb + nb, pw)] st' → wpS (model prog w) A E s (do
      modify fun s => setArr s ((r.map f).toList.zipIdx.foldl (fun a (p : Keyed × Nat) => a.setIfInBounds (k + p.2) p.1) (arrOf s))
      let s ← get
      pure (failedOf s).isNone) Q st' := fun st' S2 => by
    refine wpS_bind (wpS_modify (wpS_bind (wpS_get ?_)))
    have S3 := S2.set (ys := (r.map f).toList.zipIdx.foldl (fun a (p : Keyed × Nat) => a.setIfInBounds (k + p.2) p.1) (arrOf st')) (xs' := puts k r xs) (by
      rw [S2.arr, puts, ← puts_map, Array.toList_map]
      congr 1
      rw [List.zipIdx_map]
      rfl)
    have := h _ S3
    refine wpS_pure ?_
    rw [S3.failed]
    exact this
  split
  · rename_i hle
    rw [if_pos hle] at hr
    refine wpS_bind (wpS_lo F S' hr ?_)
    exact fin _ S'
  · rename_i hle
    rw [if_neg hle] at hr
    refine wpS_bind (wpS_hi F S' hr ?_)
    exact fin _ S'

/-- two runs, then one -/
theorem wpS_two {n mr m1 m2 : Nat} {x1 x2 x3 x4 x5 : Array Nat} {Q : Unit → SortSt → Prop} (F : Kf f key) (S : Sm f xs #[] st) (hs : xs.size = n) (hmr : minRun' n n 0 = mr) (hn : mr + 2 ≤ n) (hn2 : n ≤ mr + mr)
    (r1 : runP key xs 0 n = some (m1, x1)) (h1 : m1 < mr) (p1 : iter (putP key 0) (mr - max m1 1) (max m1 1) x1 = some x2)
    (r2 : runP key x2 mr (n - mr) = some (m2, x3)) (h2 : m2 < mr) (p2 : iter (putP key mr) (n - mr - max m2 1) (max m2 1) x3 = some x4)
    (j : joinP key x4 mr (n - mr) = some x5) (h : ∀ st' p, Sm f x5 p st' → Q () st') : wpS (model prog w) A E s sortRuns' Q st := by
  have hsz : (arrOf st).size = n := by rw [S.arr, Array.size_map, hs]
  rw [sortRuns'_eq]
  refine wpS_bind (wpS_get ?_)
  dsimp only
  simp only [hsz, hmr]
  refine wpS_bind (wpS_mono (wpS_forRange
    (I := fun x c st' => (x = 0 ∧ c = (none, 0) ∧ Sm f xs #[] st') ∨ (x = 1 ∧ c = (none, mr) ∧ Sm f x2 #[(0, mr, 0)] st') ∨ (2 ≤ x ∧ c = (none, n) ∧ ∃ pw, Sm f x4 #[(0, mr, pw), (mr, n - mr, 0)] st'))
    (Q := fun c st' => c = (none, n) ∧ ∃ pw, Sm f x4 #[(0, mr, pw), (mr, n - mr, 0)] st') ?step ?fin (.inl ⟨rfl, rfl, S⟩)) ?post)
  case fin =>
    rintro c st' (⟨hx, _, _⟩ | ⟨hx, _, _⟩ | ⟨_, hc, hD⟩)
    · omega
    · omega
    · exact ⟨hc, hD⟩
  case step =>
    rintro x c st' _ hx (⟨rfl, rfl, S⟩ | ⟨rfl, rfl, S⟩ | ⟨hx1, rfl, hD⟩)
    · dsimp only
      rw [if_neg (by omega)]
      simp only [Nat.sub_zero, Nat.zero_add]
      refine wpS_bind (wpS_run F S (by omega) r1 fun st2 S2 => ?_)
      dsimp only
      rw [if_pos h1]
      refine wpS_bind (wpS_lift (wpAny_rule ⟨rfl, ?_⟩))
      simp only [show min n mr = mr by omega]
      refine wpS_bind (wpS_put F S2 p1 fun st3 S3 => ?_)
      simp only [Bool.not_true, Bool.false_eq_true, if_false]
      refine wpS_bind (wpS_get ?_)
      have hb : (pendingOf st3).back? = none := by rw [S3.pend]; rfl
      rw [hb]
      dsimp only
      exact wpS_bind (wpS_modify (wpS_pure (.inr (.inl ⟨by first | trivial | rfl, rfl, S3.arr, S3.kind, S3.failed, by show (pendingOf st3).push _ = _; rw [S3.pend]; rfl, S3.gal⟩))))
    · dsimp only
      rw [if_neg (by omega)]
      refine wpS_bind (wpS_run F S (by omega) r2 fun st2 S2 => ?_)
      dsimp only
      rw [if_pos h2]
      refine wpS_bind (wpS_lift (wpAny_rule ⟨rfl, ?_⟩))
      simp only [show min (n - mr) mr = n - mr by omega]
      refine wpS_bind (wpS_put F S2 p2 fun st3 S3 => ?_)
      simp only [Bool.not_true, Bool.false_eq_true, if_false]
      refine wpS_bind (wpS_get ?_)
      have hb : (pendingOf st3).back? = some (0, mr, 0) := by rw [S3.pend]; rfl
      rw [hb]
      dsimp only
      refine wpS_bind (wpS_mono (wpS_forRange (I := fun x c st'' => x = 0 ∧ st'' = st3 ∧ c = (none, ())) (Q := fun c st'' => st'' = st3 ∧ c = (none, ())) ?_ ?_ ⟨rfl, rfl, rfl⟩) ?_)
      · rintro x c st'' _ _ ⟨_, rfl, rfl⟩
        refine wpS_bind (wpS_get ?_)
        rw [S3.pend]
        exact wpS_pure ⟨rfl, rfl⟩
      · rintro c st'' ⟨hx, _, _⟩
        omega
      rintro c st'' ⟨rfl, rfl⟩
      dsimp only
      generalize power' n _ _ n = pw
      refine wpS_bind (wpS_modify ?_)
      refine wpS_bind (wpS_modify (wpS_pure (.inr (.inr ⟨by omega, ?_, pw, S3.arr, S3.kind, S3.failed, ?_, S3.gal⟩))))
      · rw [show mr + (n - mr) = n by omega]
      · show ((pendingOf st'').modify ((pendingOf st'').size - 1) _).push _ = _
        rw [S3.pend]
        rfl
    · dsimp only
      rw [if_pos (Nat.le_refl _)]
      exact wpS_pure ⟨rfl, hD⟩
  case post =>
    rintro c st' ⟨rfl, pw, S⟩
    dsimp only
    refine wpS_bind (wpS_mono (wpS_forRange (I := fun x c st'' => (x = 0 ∧ c = (none, ()) ∧ st'' = st') ∨ (1 ≤ x ∧ c = (none, ()) ∧ Sm f x5 #[(0, mr + (n - mr), pw)] st'')) (Q := fun c st'' => c = (none, ()) ∧ Sm f x5 #[(0, mr + (n - mr), pw)] st'') ?_ ?_ (.inl ⟨rfl, rfl, rfl⟩)) ?_)
    · rintro x c st'' _ _ (⟨rfl, rfl, rfl⟩ | ⟨h0, rfl, S5⟩)
      · refine wpS_bind (wpS_get ?_)
        rw [S.pend]
        rw [if_neg (by show ¬ (2 ≤ 1); decide)]
        refine wpS_bind (wpS_join F S j fun st5 S5 => ?_)
        exact wpS_pure (.inr ⟨by omega, rfl, S5⟩)
      · refine wpS_bind (wpS_get ?_)
        rw [S5.pend]
        rw [if_pos (by show 1 ≤ 1; decide)]
        exact wpS_pure ⟨rfl, S5⟩
    · rintro c st'' (⟨hx, _, _⟩ | ⟨_, hc, hD⟩)
      · omega
      · exact ⟨hc, hD⟩
    rintro c st'' ⟨rfl, S5⟩
    exact wpS_pure (h _ _ S5)

/-- the whole sort, plainly -/
noncomputable def sortP (key : Nat → Nat) (n mr : Nat) : Option (Array Nat) := match runP key (List.range n).toArray 0 n with
  | some r1 => if r1.1 < mr then match iter (putP key 0) (mr - max r1.1 1) (max r1.1 1) r1.2 with
    | some x2 => match runP key x2 mr (n - mr) with
      | some r2 => if r2.1 < mr then match iter (putP key mr) (n - mr - max r2.1 1) (max r2.1 1) r2.2 with
        | some x4 => joinP key x4 mr (n - mr)
        | none => none
        else none
      | none => none
    | none => none
    else none
  | none => none
theorem wpS_all {n mr : Nat} {x5 : Array Nat} {Q : Unit → SortSt → Prop} (F : Kf f key) (S : Sm f (List.range n).toArray #[] st) (hmr : minRun' n n 0 = mr) (hn : mr + 2 ≤ n) (hn2 : n ≤ mr + mr)
    (hx : sortP key n mr = some x5) (h : ∀ st' p, Sm f x5 p st' → Q () st') : wpS (model prog w) A E s sortRuns' Q st := by
  unfold sortP at hx
  split at hx <;> try (cases hx; done)
  rename_i r1 h1
  split at hx <;> try (cases hx; done)
  rename_i h2
  split at hx <;> try (cases hx; done)
  rename_i x2 h3
  split at hx <;> try (cases hx; done)
  rename_i r2 h4
  split at hx <;> try (cases hx; done)
  rename_i h5
  split at hx <;> try (cases hx; done)
  rename_i x4 h6
  exact wpS_two F S (by simp) hmr hn hn2 h1 h2 h3 h4 h5 h6 hx h
end
end


section
/-- the keys of two digits by a base below nought, moved above nought -/
noncomputable def key2 (b i : Nat) : Nat := i / b + b * (b - 1 - i % b)
theorem sort8 : (sortP (key2 8) 64 32).map (fun x => (x.toList.map (key2 8), x.toList.all (· < 64))) = some (List.range 64, true) := by decide +kernel
theorem sort9 : (sortP (key2 9) 81 41).map (fun x => (x.toList.map (key2 9), x.toList.all (· < 81))) = some (List.range 81, true) := by decide +kernel
end
end
section
open PySem PySem.W PyProof.Rows PySem.Calls
set_option maxRecDepth 100000
section
section
variable {prog : Program} {w : World} {A : Around} {E : Value → Shared → Prop} {s : Shared}

theorem ints_nth {vs : List Value} {ns : List Int} (h : IntsAre vs ns) {i : Nat} {v : Value} (e : vs[i]? = some v) : ∃ n t, ns[i]? = some n ∧ v = .int n t := by
  induction h generalizing i with
  | nil => simp at e
  | cons n t _ ih =>
    cases i with
    | zero => cases e; exact ⟨n, t, rfl, rfl⟩
    | succ i => exact ih e

/-- the keys of this row go so -/
structure Goes (ns : List Int) (n mr : Nat) (key : Nat → Nat) (c : Int) (x : Array Nat) : Prop where
  len : ns.length = n
  at_ : ∀ i, i < n → ns[i]? = some ((key i : Int) + c)
  run : sortP key n mr = some x
  mr1 : minRun' n n 0 = mr
  mr2 : mr + 2 ≤ n
  mr3 : n ≤ mr + mr
  small : ∀ i ∈ x.toList, i < n
  size : x.size = n

noncomputable def fOf (vs : List Value) (key : Nat → Nat) (c : Int) (i : Nat) : Keyed := match vs[i]? with
  | some v => (v, v)
  | none => (.int (key i + c) 0, .none)
theorem fOf_kf {vs : List Value} {ns : List Int} {n mr : Nat} {key : Nat → Nat} {c : Int} {x : Array Nat} (hI : IntsAre vs ns) (G : Goes ns n mr key c x) : Kf (fOf vs key c) key := ⟨c, fun i => by
  unfold fOf
  cases e : vs[i]? with
  | none => exact ⟨0, _, rfl⟩
  | some v =>
    obtain ⟨m, t, h1, rfl⟩ := ints_nth hI e
    have hi : i < n := by
      have := (List.getElem?_eq_some_iff.mp h1).1
      rwa [G.len] at this
    rw [G.at_ i hi] at h1
    cases h1
    exact ⟨t, _, rfl⟩⟩
theorem fOf_pairs {vs : List Value} {key : Nat → Nat} {c : Int} : pairsOf vs = (List.range vs.length).toArray.map (fOf vs key c) := by
  apply Array.ext'
  rw [pairsOf_toList, List.map_toArray]
  refine List.ext_getElem (by simp) fun i h1 h2 => ?_
  have hi : i < vs.length := by simpa using h1
  simp only [List.getElem_zip, List.getElem_map, List.getElem_range, fOf, List.getElem?_eq_getElem hi]
theorem out_ints {vs : List Value} {ns : List Int} {n mr : Nat} {key : Nat → Nat} {c : Int} {x : Array Nat} (hI : IntsAre vs ns) (G : Goes ns n mr key c x) :
    IntsAre ((x.map (fOf vs key c)).map (·.2)).toList (x.toList.map fun i => (key i : Int) + c) := by
  have hlen := hI.length
  have key' : ∀ l : List Nat, (∀ i ∈ l, i < n) → IntsAre ((l.map (fOf vs key c)).map (·.2)) (l.map fun i => (key i : Int) + c) := by
    intro l
    induction l with
    | nil => intro _; exact .nil
    | cons i r ih =>
      intro h
      have hi := h i List.mem_cons_self
      have hv : i < vs.length := by rw [hlen, G.len]; exact hi
      obtain ⟨m, t, h1, h2⟩ := ints_nth hI (List.getElem?_eq_getElem hv)
      rw [G.at_ i hi] at h1
      cases h1
      have e : (fOf vs key c i).2 = .int (key i + c) t := by
        unfold fOf
        rw [List.getElem?_eq_getElem hv, h2]
      rw [List.map_cons, List.map_cons, List.map_cons, e]
      exact .cons _ t (ih fun j hj => h j (List.mem_cons_of_mem _ hj))
  rw [Array.toList_map, Array.toList_map]
  exact key' _ G.small

theorem sort_goes {a : Addr} {vs : List Value} {ns : List Int} {n mr e : Nat} {key : Nat → Nat} {c : Int} {x : Array Nat} {P : PySem.Fin → Shared → Prop} (ho : s.heap.get? a = some (seqObj "list" vs.toArray e))
    (hI : IntsAre vs ns) (G : Goes ns n mr key c x) (hz : n ≤ 1000)
    (h : ∀ out : Array Value, IntsAre out.toList (x.toList.map fun i => (key i : Int) + c) → P (.done (.ret .none)) { s with heap := sortedHeap s.heap a vs out }) :
    wpAny (model prog w) A (Builtin.«list.sort» ⟨[.ref a], []⟩) P E s := by
  have hlen : vs.length = n := hI.length.trans G.len
  have hmr2 := G.mr2
  rw [list_sort_plain]
  have ha : a < s.heap.objs.size := Heap.lt_size ho
  refine wpAny_bind (listItems_at ho rfl ?_)
  refine wpAny_bind (listUpdate_at ho rfl ?_)
  obtain ⟨e1, ho1⟩ : ∃ e1, (s.heap.update a (Obj.mapSeq fun _ => #[])).get? a = some (seqObj "list" #[] e1) := ⟨_, get?_update_seq ho (fun _ => #[])⟩
  refine wpAny_bind (seqEpoch_at ho1 rfl ?_)
  refine wpAny_bind (wpAny_newTuple ?_)
  refine wpAny_bind (wpAny_newList ?_)
  refine wpAny_holding ?_
  have ho6 : (((s.heap.update a (Obj.mapSeq fun _ => #[])).push (seqObj "tuple" vs.toArray 0)).push (seqObj "list" #[] 0)).get? a = some (seqObj "list" #[] e1) := by
    rw [Heap.get?_push_ne _ _ _ (by rw [size_push', Heap.size_update]; exact Nat.ne_of_lt (Nat.lt_succ_of_lt ha)), Heap.get?_push_ne _ _ _ (by rw [Heap.size_update]; exact Nat.ne_of_lt ha)]
    exact ho1
  show wpAny (model prog w) A _ P E { s with heap := ((s.heap.update a (Obj.mapSeq fun _ => #[])).push (seqObj "tuple" vs.toArray 0)).push (seqObj "list" #[] 0) }
  dsimp only
  have hsz : vs.toArray.size = vs.length := by simp
  rw [if_neg (by rw [hsz]; omega), if_neg (by rw [hsz]; omega)]
  obtain ⟨v₁, v₂, rest, hvs⟩ : ∃ v₁ v₂ rest, vs = v₁ :: v₂ :: rest := by
    match vs, hlen with
    | [], hl => exact absurd hl (by simp; omega)
    | [_], hl => exact absurd hl (by simp; omega)
    | v₁ :: v₂ :: rest, _ => exact ⟨v₁, v₂, rest, rfl⟩
  have hk : keyKind' vs.toArray = pure oneType' := by subst hvs; exact keyKind_ints hI
  rw [hk]
  refine wpAny_bind (wpAny_pure ?_)
  have S0 : Sm (fOf vs key c) (List.range n).toArray #[] (SortSt.mk' oneType' (vs.toArray.zip vs.toArray) #[] 7 none) := ⟨by rw [← hlen]; exact fOf_pairs, rfl, rfl, rfl, rfl⟩
  refine wpAny_bind (wpAny_mono (wpS_all (fOf_kf hI G) S0 G.mr1 G.mr2 G.mr3 G.run (Q := fun _ st' => arrOf st' = x.map (fOf vs key c) ∧ failedOf st' = none) fun st' p S' => ⟨S'.arr, S'.failed⟩) ?_ fun _ _ e => e)
  rintro ⟨⟨⟩, st'⟩ s' ⟨rfl, hp, hf⟩
  dsimp only
  refine wpAny_bind (seqEpoch_at ho6 rfl ?_)
  refine wpAny_bind (listUpdate_at ho6 rfl ?_ (hsz2 := by
    refine Nat.le_trans (Nat.le_of_eq ((Array.size_map ..).trans (congrArg Array.size hp))) ?_
    rw [Array.size_map, G.size, sizeLine_eq]; omega))
  rw [hf]
  simp only [bne_self_eq_false, Bool.false_eq_true, if_false]
  have := h ((arrOf st').map (·.2)) (by rw [hp]; exact out_ints hI G)
  exact wpAny_pure this

theorem sorted_goes {l : Addr} {vs : List Value} {ns : List Int} {n mr : Nat} {key : Nat → Nat} {c : Int} {x : Array Nat} {Q : Value → Shared → Prop} (hl : s.heap.IsList l vs.toArray) (hI : IntsAre vs ns) (G : Goes ns n mr key c x) (hz : n ≤ 1000)
    (h : ∀ out : Array Value, IntsAre out.toList (x.toList.map fun i => (key i : Int) + c) → Q (.ref (s.heap.objs.size + 1)) { s with heap := sortedAll s.heap vs out }) :
    wpAny (model prog w) A (call (.builtin "sorted") [.ref l]) Q E s := by
  have hlen : vs.length = n := hI.length.trans G.len
  refine Calls.call_function_entry kind_sorted plain_sorted entry_sorted (args_sorted1 _) ?_
  unfold Builtin.«sorted»
  refine wpAny_bind (m := checkCount "sorted" 1 1 _) (wpAny_pure ?_)
  refine wpAny_bind (collect_list hl ?_ (by rw [sizeLine_eq]; omega))
  refine wpAny_bind (wpAny_newList ?_ (by rw [sizeLine_eq]; omega))
  have hsz : ((s.heap.push (seqObj "list" #[] 0)).update s.heap.objs.size (Obj.mapSeq (· ++ vs.toArray))).objs.size = s.heap.objs.size + 1 := by
    rw [Heap.size_update, size_push']
  have hoL : (((s.heap.push (seqObj "list" #[] 0)).update s.heap.objs.size (Obj.mapSeq (· ++ vs.toArray))).push (seqObj "list" vs.toArray 0)).get? (s.heap.objs.size + 1) = some (seqObj "list" vs.toArray 0) := by
    rw [← hsz]; exact Heap.get?_push_size _ rfl
  show wpAny _ _ _ _ _ { s with heap := ((s.heap.push (seqObj "list" #[] 0)).update s.heap.objs.size (Obj.mapSeq (· ++ vs.toArray))).push (seqObj "list" vs.toArray 0) }
  rw [hsz]
  refine wpAny_bind (wpAny_holding (wpAny_call_entry slot_list_sort ⟨_, hoL, rfl⟩ entry_list_sort (sort_goes hoL hI G hz fun out a1 => ⟨_, rfl, ?_⟩) (args_list_sort _)))
  exact wpAny_pure ⟨_, rfl, h out a1⟩
end
end

section
/-- what two digits tell by a base below nought, in the rows' order -/
noncomputable def toldL (b : Nat) : List Int := (List.range (b * b)).map fun i : Nat => ((i / b : Nat) : Int) - ((b * (i % b) : Nat) : Int)
/-- the same, from the least on -/
noncomputable def upL (b : Nat) : List Int := (List.range (b * b)).map fun i : Nat => -((b * (b - 1) : Nat) : Int) + i
theorem toldL_len (b : Nat) : (toldL b).length = b * b := by rw [toldL, List.length_map, List.length_range]
theorem toldL_at {b i : Nat} (hb : 0 < b) (h : i < b * b) : (toldL b)[i]? = some ((key2 b i : Int) + -((b * (b - 1) : Nat) : Int)) := by
  rw [toldL, List.getElem?_map, List.getElem?_range h]
  simp only [Option.map_some, Option.some.injEq, key2]
  have h1 := Nat.mod_lt i hb
  have h2 : b * (b - 1 - i % b) + b * (i % b) = b * (b - 1) := by rw [← Nat.mul_add]; congr 1; omega
  omega
theorem goes_of {b mr : Nat} (hb : 2 ≤ b) (h : (sortP (key2 b) (b * b) mr).map (fun x => (x.toList.map (key2 b), x.toList.all (· < b * b))) = some (List.range (b * b), true)) (h1 : minRun' (b * b) (b * b) 0 = mr) (h2 : mr + 2 ≤ b * b) (h3 : b * b ≤ mr + mr) :
    ∃ x, Goes (toldL b) (b * b) mr (key2 b) (-((b * (b - 1) : Nat) : Int)) x ∧ (x.toList.map fun i => (key2 b i : Int) + -((b * (b - 1) : Nat) : Int)) = upL b := by
  cases hx : sortP (key2 b) (b * b) mr with
  | none => rw [hx] at h; cases h
  | some x =>
    rw [hx] at h
    simp only [Option.map_some, Option.some.injEq, Prod.mk.injEq] at h
    obtain ⟨h4, h5⟩ := h
    refine ⟨x, ⟨toldL_len b, fun i hi => toldL_at (by omega) hi, hx, h1, h2, h3, fun i hi => by simpa using List.all_eq_true.mp h5 i hi, ?_⟩, ?_⟩
    · have := congrArg List.length h4
      rw [List.length_map, List.length_range, Array.length_toList] at this
      exact this
    · rw [upL, ← h4, List.map_map]
      refine List.map_congr_left fun i _ => ?_
      show (key2 b i : Int) + _ = _ + (key2 b i : Int)
      omega
theorem perm_up {b : Nat} (hb : 2 ≤ b) (hb7 : b ≤ 7) : (toldL b).Perm (upL b) := by
  have : (toldL b).isPerm (upL b) = true := by
    rcases (show b = 2 ∨ b = 3 ∨ b = 4 ∨ b = 5 ∨ b = 6 ∨ b = 7 by omega) with rfl | rfl | rfl | rfl | rfl | rfl <;> decide +kernel
  exact List.isPerm_iff.mp this
theorem up_sorted (b : Nat) : (upL b).Pairwise (· ≤ ·) := by
  rw [upL, List.pairwise_map]
  refine (List.pairwise_lt_range (n := b * b)).imp fun h => ?_
  omega
theorem perm_sorted_eq : ∀ {l m : List Int}, l.Perm m → l.Pairwise (· ≤ ·) → m.Pairwise (· ≤ ·) → l = m
  | [], m, h, _, _ => h.nil_eq
  | a :: l, [], h, _, _ => absurd h.symm.nil_eq (by simp)
  | a :: l, b :: m, h, h1, h2 => by
    have ha := List.pairwise_cons.mp h1
    have hb := List.pairwise_cons.mp h2
    have e : a = b := by
      have m1 : a ∈ b :: m := h.mem_iff.mp List.mem_cons_self
      have m2 : b ∈ a :: l := h.mem_iff.mpr List.mem_cons_self
      rcases List.mem_cons.mp m1 with e | m1
      · exact e
      · rcases List.mem_cons.mp m2 with e | m2
        · exact e.symm
        · exact Int.le_antisymm (ha.1 _ m2) (hb.1 _ m1)
    subst e
    rw [perm_sorted_eq (List.perm_cons a |>.mp h) ha.2 hb.2]

section
variable {X : Cx} {B : PH} {mu : List (Addr × Obj)} {l : Locs} {G : List (Str × Value)} {e : Expr} {p pos : Pos}
/-- sorted(e), the numbers of two digits -/
theorem evb_told {b : Nat} (hb : 2 ≤ b) (hb9 : b ≤ 9) (hG : X.c.G = G) (hv : Gk "sorted" (.builtin "sorted") G) (he : EvB X B mu l e (fun B' v => ∃ a, v = .ref a ∧ IL B' a (toldL b)))
    (hs : starEach [e] X.c.env = [(false, eval e X.c.env)] := by rfl) : EvB X B mu l (.Call (.Name "sorted" p) [e] [] pos) (fun B' v => ∃ r, v = .ref r ∧ IL B' r (upL b)) := by
  by_cases h7 : b ≤ 7
  · refine (evb_sorted (P := fun _ L => L = toldL b) hG hv (he.mono fun B' v _ ⟨a, hv, hl⟩ => ⟨a, toldL b, hv, hl, ?_, rfl⟩) hs).mono ?_
    · rw [toldL_len]
      have := Nat.mul_le_mul h7 h7
      omega
    · rintro B' v - ⟨r, B₀, L, L', rfl, -, rfl, hi, hp, hw⟩
      rw [perm_sorted_eq (hp.trans (perm_up hb h7)) hw (up_sorted b)] at hi
      exact ⟨r, rfl, hi⟩
  · obtain ⟨mr, hmr, x, hG', hx⟩ : ∃ mr, b * b ≤ 1000 ∧ ∃ x, Goes (toldL b) (b * b) mr (key2 b) (-((b * (b - 1) : Nat) : Int)) x ∧ (x.toList.map fun i => (key2 b i : Int) + -((b * (b - 1) : Nat) : Int)) = upL b := by
      rcases (show b = 8 ∨ b = 9 by omega) with rfl | rfl
      · exact ⟨32, by decide, goes_of (by decide) sort8 (by decide +kernel) (by decide) (by decide)⟩
      · exact ⟨41, by decide, goes_of (by decide) sort9 (by decide +kernel) (by decide) (by decide)⟩
    refine .mk fun s Q S k => ?_
    refine r_callB S hG hv (args_cons (he.run s _ S fun v s' B' ⟨a, hv, hl⟩ S' hb => args_nil ?_) hs) hs
    subst hv
    obtain ⟨vs, n, hB, hi⟩ := hl
    refine sorted_goes (S'.isList hB) hi hG' hmr fun out h1 => ?_
    rw [hx] at h1
    obtain ⟨e', he'⟩ := sortedAll_at s'.heap vs out
    have hnew : s'.heap.get? (s'.heap.objs.size + 1) = none := by
      cases e : s'.heap.get? (s'.heap.objs.size + 1) with
      | none => rfl
      | some x => exact absurd (Heap.lt_size e) (Nat.not_lt.mpr (Nat.le_succ _))
    obtain ⟨S2, hle⟩ := S'.addAt (h' := sortedAll s'.heap vs out) s'.toks (fun _ _ => sortedAll_old) hnew he'
    exact k _ _ _ ⟨_, rfl, out.toList, e', PH.add_self _ _ _, h1⟩ S2 (hb.trans hle)
end
end
end
section
open PySem PySem.W PyProof.Rows PySem.Calls
set_option maxRecDepth 100000
set_option maxHeartbeats 1000000
section
section
variable {X : Cx} {B : PH} {mu : List (Addr × Obj)} {l : Locs} {rest : List Stmt} {K : Kont} {G : List (Str × Value)} {e f : Expr} {p pos : Pos}

/-- x = e, x in a cell -/
theorem ex_asgC {x : Str} {px : Pos} {a : Addr} {o : Obj} {v₀ : Option Value} (hk : X.c.env.kindOf x = some .cell) (hc : X.c.env.cells.lookup x = some a) (ho : o.data = .cell v₀)
    (h : ∀ s, St X.c B ((a, o) :: mu) l s → wpAny (model X.prog X.w) X.A (eval e X.c.env) (fun v s' => ∃ B' mu', B.le B' ∧ St X.c B' ((a, o) :: mu') l s' ∧ ∀ o', o'.data = .cell (some v) → Ex X B' ((a, o') :: mu') l rest K) NoE s)
    (hs : swapsWith e (some (.Name x px)) pos.line X.c.env = pure false := by rfl) : Ex X B ((a, o) :: mu) l (.Assign [.Name x px] e pos :: rest) K :=
  ex_cons fun s S => wpAny_Assign_Name (wpAny_mono (h s S) (fun _ _ ⟨B', mu', hb, S', k⟩ => r_storeC S' hk hc ho fun o' s'' hd S'' => ⟨B', _, l, hb, S'', k o' hd⟩) fun _ _ x => x) hs
/-- int(e), e an int -/
theorem ev_intI {i : Int} (hG : X.c.G = G) (hv : Gk "int" (.type "int") G) (he : Ev X B mu l e (VI i)) (hs : starEach [e] X.c.env = [(false, eval e X.c.env)] := by rfl) : Ev X B mu l (.Call (.Name "int" p) [e] [] pos) (VI i) := by
  refine .mk fun s Q S k => ?_
  refine r_callT S hG hv (args_cons (he.run s _ S fun v s' ⟨t, hv⟩ S' => args_nil ?_) hs) hs
  subst hv
  exact call_int_int (k _ _ ⟨t, rfl⟩ S')
/-- e is None, e a thing -/
theorem tst_isNone {k : Nat} {pc : Pos} (he : Ev X B mu l e (fun v => ∃ a, v = .ref a)) (hm : behindInMarks .Is (.Constant .none k pc) = false := by with_unfolding_all rfl) : Tst X B mu l (.Compare e [.Is] [.Constant .none k pc] pos) false :=
  tst_cmpv he ev_none (by rintro _ _ ⟨a, rfl⟩ rfl s Q h; exact is_ref_none h) hm
/-- for x in e, e a tuple -/
theorem ex_forT {x : Str} {px : Pos} {body : List Stmt} {P : PH → Addr → List Value → Prop} (R : X.A.handled = none)
    (he : EvB X B mu l e (fun B' v => ∃ a vs, v = .ref a ∧ B' a = some (tupOf vs) ∧ P B' a vs)) (Inv : Addr → List Value → Nat → PH → List (Addr × Obj) → Locs → Prop)
    (h : ∀ B' a vs, B.le B' → P B' a vs → Inv a vs 0 B' mu l ∧
      (∀ i v B₁ mu₁ l₁ its, vs[i]? = some v → B'.le B₁ → Inv a vs i B₁ mu₁ l₁ → ∃ l₂, Put x v l₁ l₂ ∧ Ex X B₁ (mu₁ ++ its) l₂ body (Lp its (Inv a vs (i + 1)) K)) ∧
      (∀ B₁ mu₁ l₁, B'.le B₁ → Inv a vs vs.length B₁ mu₁ l₁ → Ex X B₁ mu₁ l₁ rest K))
    (hs : ∀ x, foldedSetIterable e X.c.env x = pure x := by intro _; rfl) : Ex X B mu l (.For (.Name x px) e body [] pos :: rest) K :=
  ex_cons fun s S => wpAny_For (he.run s _ S fun v s' B' ⟨a, vs, hv, hl, p⟩ S' hb => by
    subst hv
    obtain ⟨hI, step, fin⟩ := h B' a vs hb p
    exact src_tuple R (fun _ _ => rfl) S' hl fun it its H s₂ S₂ h0 X' => loop_any H _ (Inv a vs) S₂ h0 hI X' (by
      rintro i v B₁ B₂ mu₁ l₁ its s₁ hi hB' hB₂ hJ ⟨rfl, hv⟩ S₁
      obtain ⟨l₂, hp, k⟩ := step i v _ mu₁ l₁ its hv hB' hJ
      exact r_asgName S₁ hp fun s₂ S₂ => turn_of (hb.trans hB') k S₂) fun B₁ mu₁ l₁ s₁ hb' hJ S₁ => ⟨B₁, mu₁, l₁, hb.trans hb', S₁, fin B₁ mu₁ l₁ hb' hJ⟩) hs

/-- e or [], e a list that is not empty -/
theorem evb_orL {pl : Pos} {P : PH → Value → Prop} (he : EvB X B mu l e (fun B' v => (∃ a vs n, v = .ref a ∧ B' a = some (listOf (List.toArray vs) n) ∧ vs ≠ [] ∧ vs.length ≤ 100000) ∧ P B' v)) : EvB X B mu l (.BoolOp .Or [e, .List [] pl] pos) P :=
  .mk fun s Q S k => BoolOp_or (he.run s _ S fun v s' B' ⟨⟨a, vs, n, hv, hl, hne, hz⟩, hp⟩ S' hb => by
    subst hv
    refine wpAny_truthy_list (S'.isList hl) (by rw [List.size_toArray]; omega) ?_
    have : (!vs.toArray.isEmpty) = true := by simpa using hne
    rw [this]
    exact ite_tt (k _ _ B' hp (S'.tok _) hb))

/-- a frame of one local name and one cell -/
noncomputable def env2 (x y : Str) : Env := { scope := { kind := .function, names := [(x, .local), (y, .cell)], isGenerator := false, isCoroutine := false }, locals := 0, globals := 0, cells := [] }
theorem swapped_cell {env : Env} {x y : Str} {px py pp p' : Pos} {k k' : Nat} {vs : List Expr} (hf : env.scope.kind = .function) (hx : env.kindOf x = (env2 x y).kindOf x) (hy : env.kindOf y = (env2 x y).kindOf y) :
    swappedStores [.Tuple [.Name x px, .Name y py] k pp] (.Tuple vs k' p') env = swappedStores [.Tuple [.Name x px, .Name y py] k pp] (.Tuple vs k' p') (env2 x y) := by
  unfold swappedStores
  simp only [kind_block hf, show (env2 x y).blockKind = .function from rfl, List.filterMap_cons, List.filterMap_nil, hx, hy]
  rfl
/-- x, y = (e, f), draws, y in a cell -/
theorem ex_drawC {x y : Str} {px py pt p' : Pos} {kt k' : Nat} {ac lake a : Addr} {o : Obj} {v₀ : Option Value} {m : List (Addr × Obj)} {k0 k1 k2 n : Nat} {t : Tok} {i j : Int} (R : X.A.handled = none) (hk : X.c.env.kindOf y = some .cell) (hc : X.c.env.cells.lookup y = some ac) (ho : o.data = .cell v₀)
    (he : EvL X B [(ac, o)] m lake a l e k0 k1 i) (hf : EvL X B [(ac, o)] m lake a l f k1 k2 j)
    (h : ∀ ti tj t n, ∃ l', Put x (.int i ti) l l' ∧ ∀ o', o'.data = .cell (some (.int j tj)) → Ex X B ((ac, o') :: (lake, lakeO k2 t a n) :: m) l' rest K)
    (hx : x ∈ l.map (·.1)) (h1 : starEach [e, f] X.c.env = (false, eval e X.c.env) :: starEach [f] X.c.env := by rfl) (h2 : starEach [f] X.c.env = (false, eval f X.c.env) :: starEach [] X.c.env := by rfl)
    (hw : swappedStores [.Tuple [.Name x px, .Name y py] kt pt] (.Tuple [e, f] k' p') (env2 x y) = pure none := by rfl) (hx2 : (env2 x y).kindOf x = some .local := by rfl) (hy2 : (env2 x y).kindOf y = some .cell := by rfl)
    (hs : swapsWithSole [.Tuple [.Name x px, .Name y py] kt pt] (.Tuple [e, f] k' p') pos.line X.c.env = pure false := by rfl) :
    Ex X B ((ac, o) :: (lake, lakeO k0 t a n) :: m) l (.Assign [.Tuple [.Name x px, .Name y py] kt pt] (.Tuple [e, f] k' p') pos :: rest) K := by
  refine ex_cons fun s S => Assign_Tuple (Tuple_ (args_cons (he.run s t n _ S fun ti t1 n1 s1 S1 => args_cons (hf.run s1 t1 n1 _ S1 fun tj t2 n2 s2 S2 => args_nil ?_) h2) h1)) hs ((swapped_cell S.ok.kind ((S.kinds x hx).trans hx2.symm) (hk.trans hy2.symm)).trans hw)
  refine r_newTuple S2 (by simp) fun q s3 hn S3 hle => ?_
  refine wpAny_assign_Tuple R (S3.isTup (PH.add_self _ _ _)) rfl rfl fun h' hh => ?_
  have S4 := (S3.heap' fun b o e => hh b o (Nat.ne_of_lt (Heap.lt_size e)) e).less hle S2.ext
  obtain ⟨l', hp, kk⟩ := h ti tj t2 n2
  exact inOrder_cons (r_asgName S4 hp fun s5 S5 => inOrder_cons (PySem.wpAny_assign_Name (r_storeC S5 hk hc ho fun o' s6 hd S6 => inOrder_nil ⟨B, _, l', PH.le.refl _, S6, kk o' hd⟩)))

/-- x = e, a draw -/
theorem ex_asgD {x : Str} {px : Pos} {lake a : Addr} {m1 m2 : List (Addr × Obj)} {k0 k1 n : Nat} {t : Tok} {i : Int} (he : EvL X B m1 m2 lake a l e k0 k1 i)
    (h : ∀ ti t n, ∃ l', Put x (.int i ti) l l' ∧ Ex X B (m1 ++ (lake, lakeO k1 t a n) :: m2) l' rest K) (hs : swapsWith e (some (.Name x px)) pos.line X.c.env = pure false := by rfl) :
    Ex X B (m1 ++ (lake, lakeO k0 t a n) :: m2) l (.Assign [.Name x px] e pos :: rest) K :=
  ex_cons fun s S => wpAny_Assign_Name (he.run s t n _ S fun ti t' n' s' S' => by
    obtain ⟨l', hp, kk⟩ := h ti t' n'
    exact r_store S' hp fun s'' S'' => ⟨B, _, l', PH.le.refl _, S'', kk⟩) hs

/-- [x for x in e if t], t false everywhere -/
theorem evb_compNone {x : Str} {px px' ps : Pos} {t : Expr} {scope : Scope} {P : PH → List Value → Prop} (R : X.A.handled = none) (he : EvB X B mu l e (fun B' v => ∃ a vs n, v = .ref a ∧ B' a = some (listOf (List.toArray vs) n) ∧ vs.length ≤ 100000 ∧ P B' vs))
    (hclos : closureFor scope X.c.env = pure []) (hloc : scope.names.lookup x = some .local)
    (h : ∀ (c' : Fx) (B' : PH) (vs : List Value) (i : Nat) (v : Value) (B₃ : PH) (mu' : List (Addr × Obj)), P B' vs → vs[i]? = some v → B'.le B₃ → Tst ⟨X.prog, X.w, X.A, c'⟩ B₃ mu' [(x, some v)] t false)
    (hcell : ∀ y ∈ scope.names, y.2 ≠ .cell := by decide) (hkind : scope.kind = .function := by rfl) (hnames : ∀ y ∈ scope.names, y.2 = .local → scope.names.lookup y.1 = some .local := by decide)
    (hf : ∀ x, foldedSetIterable e X.c.env x = pure x := by intro _; rfl) :
    EvB X B mu l (.ListComp (.Name x px') [⟨.Name x px, e, [t], 0⟩] scope ps) (fun B' v => ∃ r, v = .ref r ∧ IL B' r []) := by
  refine .mk fun s Q S k => ?_
  refine r_comp (mv := []) (mu0 := mu) (l := l) [x] [] R hclos (by simp) (fun y hy => by rw [List.mem_singleton.mp hy]; exact hloc) (fun _ h => nomatch h) ?_ hcell hkind hnames hf
  refine he.run s _ S fun v s' B' h' S' hB => ?_
  obtain ⟨a, vs, n, hv, hl, hz, p⟩ := h'
  subst hv
  refine src_list (target := .Name x px) R (fun _ _ => rfl) S' hl fun it its H s₂ S₂ hH X' => ?_
  refine ⟨B', its, vs.length, H, _, fun _ _ _ us => us = [], S₂, hH, X', hz, rfl, ?_, ?_⟩
  · rintro c' i v B₃ B₄ mv₁ us l₁ its D n' s' hW hG hc hk hi hB hB' rfl ⟨rfl, hv⟩ hl hm S
    obtain ⟨o, rfl⟩ := one_loc hl
    refine r_asgName S Put.here fun s₂ S₂ => wpAny_tests_one ((h c' B' vs i v _ _ p hv hB).run s₂ _ _ rfl S₂ fun s₃ S₃ => ?_)
    rw [if_neg Bool.false_ne_true]
    exact ⟨_, mv₁, _, PH.le.refl _, rfl, hm, S₃, rfl⟩
  · intro B₃ mv₁ us D n' hB₃ hm hI hu s' S₃
    have hm : mv₁ = [] := List.map_eq_nil_iff.mp hm
    subst hm hI
    obtain ⟨S₄, hle⟩ := S₃.freeze
    exact k _ _ _ ⟨D, rfl, [], n', PH.add_self _ _ _, .nil⟩ S₄ (hB.trans (hB₃.trans hle))
/-- [] -/
theorem evb_nilI {pl : Pos} : EvB X B mu l (.List [] pl) (fun B' v => ∃ r, v = .ref r ∧ IL B' r []) :=
  (evb_list (P := fun _ vs => vs = []) (evs_nil rfl) (by rintro _ _ rfl; simp)).mono fun B' v _ h => by obtain ⟨_, r, _, h, _, _, hv, hr⟩ := h; subst h; exact ⟨r, hv, [], 0, hr, .nil⟩
/-- [e] -/
theorem evb_oneI {pl : Pos} {i : Int} (he : Ev X B mu l e (VI i)) (h1 : starEach [e] X.c.env = (false, eval e X.c.env) :: starEach [] X.c.env := by rfl) : EvB X B mu l (.List [e] pl) (fun B' v => ∃ r, v = .ref r ∧ IL B' r [i]) :=
  (evb_list (evs1 he h1) (by rintro _ _ ⟨_, _, rfl, _⟩; simp)).mono fun B' v _ h => by obtain ⟨_, r, _, ⟨_, _, hvs, t, hu⟩, _, _, hv, hr⟩ := h; subst hvs hu; exact ⟨r, hv, _, 0, hr, .cons i t .nil⟩
/-- e[-1:] -/
theorem evb_tail1 {k : Nat} {p0 p1 ps : Pos} {a : Addr} {L : List Int} (hl : IL B a L) (hz : L.length ≤ 1000000) (he : Ev X B mu l e (VR a))
    (ht : ∀ o r, letTemporaryGo e o r = pure () := by intro _ _; rfl) :
    EvB X B mu l (.Subscript e (.Slice (some (.UnaryOp .USub (.Constant (.int 1) k p0) p1)) none none ps) pos) (fun B' v => ∃ r, v = .ref r ∧ IL B' r (L.drop (L.length - 1))) := by
  obtain ⟨vs, n, hB, hi⟩ := hl
  refine (evb_slice (lo := some (-1)) (hi := none) hB (by rw [hi.length]; exact hz) he (part_int (ev_neg ev_int)) part_none ht).mono fun B' v _ ⟨r, hv, hr⟩ => ⟨r, hv, _, 0, hr, ?_⟩
  have e : sliceBounds (some (-1)) none none vs.toArray.size = (((vs.toArray.size - 1 : Nat) : Int), ((vs.toArray.size : Nat) : Int), 1) := by
    simp only [sliceBounds, Option.getD_none, show (1 : Int) > 0 by decide, if_true, show ((-1 : Int) < 0) by decide]
    congr 1
    omega
  have e2 : slicePick vs.toArray (some (-1)) none none = ((vs.toArray.toList.drop (vs.toArray.size - 1)).take (vs.toArray.size - (vs.toArray.size - 1))).toArray := by
    unfold slicePick
    rw [e]
    simp only [sliceRange_one, pick_run]
  rw [e2]
  show IntsAre ((vs.drop (vs.toArray.size - 1)).take (vs.toArray.size - (vs.toArray.size - 1))) _
  rw [List.size_toArray, List.take_of_length_le (by rw [List.length_drop]; omega), hi.length]
  exact hi.drop _
end
end
end
section
open PySem PySem.W PyProof.Rows PySem.Calls
set_option maxRecDepth 100000
set_option maxHeartbeats 3200000
section
/-- strs, unlike each other, as values -/
noncomputable def Strs (vs : List Value) (ks : List Str) : Prop := vs.length = ks.length ∧ ∀ (i : Nat) v, vs[i]? = some v → ∃ k t, ks[i]? = some k ∧ v = .str k t
/-- a set that holds the first ones -/
noncomputable def HoldsN (prog : Program) (w : World) (h : Heap) (S : Addr) (ks : List Str) (i : Nat) : Prop := h.SetOf (strKind prog w) S (fun k => decide (k ∈ ks.take i)) i
section
variable {prog : Program} {w : World} {A : Around} {R : Result → Shared → Prop} {I : Addr} {fp wr : List Addr} {n : Nat} {St : Nat → Shared → Prop}
theorem HoldsN.next {S : Addr} {ks : List Str} {i : Nat} {k : Str} (hk : ks[i]? = some k) (hnd : ks.Nodup) {h' : Heap}
    (H : h'.SetOf (strKind prog w) S (fun k' => decide (k' ∈ ks.take i) || decide (k' = k)) (if decide (k ∈ ks.take i) then i else i + 1)) : HoldsN prog w h' S ks (i + 1) := by
  have hnot : k ∉ ks.take i := fun hm => by
    obtain ⟨j, hj, e⟩ := List.getElem_of_mem hm
    rw [List.getElem_take] at e
    rw [List.length_take] at hj
    obtain ⟨hi, e2⟩ := List.getElem?_eq_some_iff.mp hk
    exact List.pairwise_iff_getElem.mp hnd j i (by omega) hi (by omega) (e.trans e2.symm)
  rw [if_neg (by simpa using hnot)] at H
  have e : (fun k' => decide (k' ∈ ks.take (i + 1))) = fun k' => decide (k' ∈ ks.take i) || decide (k' = k) := by
    funext k'
    rw [List.take_add_one, hk, ← Bool.decide_or]
    simp
  unfold HoldsN
  rw [e]
  exact H
theorem grow {vs : List Value} {ks : List Str} (hvs : Strs vs ks) (hnd : ks.Nodup) (W : WalksS prog w A.in1 I fp wr (fun a b => b = a) vs.length (fun i v => vs[i]? = some v) St) (S : Addr) (hSf : S ∉ fp) (hb : vs.length + 1 < scanBound) :
    ∀ (k i : Nat) (s : Shared), vs.length - i = k → i ≤ vs.length → St i s → HoldsN prog w s.heap S ks i →
      (∀ s', Moved (S :: wr) (fun a b => b = a) s s' → HoldsN prog w s'.heap S ks vs.length → R (.ok (.ret .none)) s') →
      codeAny (model prog w) A (.builtin "set.update.loop" ⟨[.ref S, .ref I], []⟩) R s := by
  have hSw : S ∉ wr := fun h => hSf (W.sub _ h)
  have hsub : ∀ b ∈ wr, b ∈ S :: wr := fun b hb => List.mem_cons_of_mem _ hb
  intro k
  induction k with
  | zero =>
    intro i s hk hi hst hS hR
    obtain rfl : i = vs.length := by omega
    refine codeAny_builtin F.entry_set_update_loop ?_
    rw [Around.under_plainId F.plain_set_update_loop _]
    refine wpAny_bind (W.done s _ _ hst fun s' hm => ?_)
    exact wpAny_pure (hR s' (hm.mono hsub) (by
      obtain ⟨o, es, ep, t, ho, rest⟩ := hS
      exact ⟨o, es, ep, t, hm.heap S _ hSw ho, rest⟩))
  | succ k ih =>
    intro i s hk hi hst hS hR
    have hlt : i < vs.length := by omega
    refine codeAny_builtin F.entry_set_update_loop ?_
    rw [Around.under_plainId F.plain_set_update_loop _]
    refine wpAny_bind (W.item i s _ _ hlt hst fun v s' hP hst' hm => ?_)
    obtain ⟨x, t, hx, rfl⟩ := hvs.2 i v hP
    have hS' : HoldsN prog w s'.heap S ks i := by
      obtain ⟨o, es, ep, tb, ho, rest⟩ := hS
      exact ⟨o, es, ep, tb, hm.heap S _ hSw ho, rest⟩
    show wpAny _ A.in1 (holding [Value.str x t] (setAdd S (.str x t)) >>= _) _ _ s'
    refine wpAny_bind (wpAny_holding ?_)
    unfold setAdd
    refine wpAny_holding ?_
    have his : (strKind prog w).is x (.str x t) = true := by show Value.isStrOf x (.str x t) = true; simp [Value.isStrOf]
    refine wpAny_bind ((strKind prog w).pyHash (k := x) his ?_)
    refine wpAny_setAddHashed_of (knd := strKind prog w) (s := { s' with toks := s'.toks + 1 }) his rfl hS' (by omega) fun h' hsb hS2 => ?_
    have hSi : HoldsN prog w h' S ks (i + 1) := HoldsN.next hx hnd hS2
    refine wpAny_pure ⟨plainId_quiet F.plain_set_update_loop _, ih (i + 1) _ (by omega) hlt (W.frame _ s' _ _ hst' (Nat.le_succ _) fun b hb o e => ?_) hSi fun s'' hm'' hS'' => ?_⟩
    · rw [hsb.2 b (fun h : b = S => hSf (by rw [← h]; exact hb))]; exact e
    · refine hR s'' (Moved.trans W.gtrans ((hm.mono hsub).then_heap (Nat.le_succ _) fun b o hb e => ?_) hm'') hS''
      rw [hsb.2 b (fun h : b = S => hb (by rw [h]; exact List.mem_cons_self))]; exact e
end
section
variable {prog : Program} {w : World} {A : Around} {E : Value → Shared → Prop} {s : Shared}
noncomputable abbrev emptySet (led : Bool) : Obj := { cls := .type "set", dict := none, data := .set #[] 0 (.fresh 0 0 led) }
/-- the set's filling, by a list -/
theorem fill {l : Addr} {vs : List Value} {ks : List Str} {led : Bool} {P : PySem.Fin → Shared → Prop} (hh : A.handled = none) (hl : s.heap.IsList l vs.toArray) (hvs : Strs vs ks) (hnd : ks.Nodup) (hb : vs.length + 1 < scanBound)
    (h : ∀ (h' : Heap) (tk : Nat), HoldsN prog w h' s.heap.objs.size ks vs.length → (∀ b o, b < s.heap.objs.size → s.heap.get? b = some o → h'.get? b = some o) → P (.done (.ret .none)) { s with heap := h', toks := tk }) :
    wpAny (model prog w) A (Builtin.«set.__init__» ⟨[.ref s.heap.objs.size, .ref l], []⟩) P E { s with heap := s.heap.push (emptySet led) } := by
  have hS : (s.heap.push (emptySet led)).get? s.heap.objs.size = some (emptySet led) := Heap.get?_push_size _ rfl
  obtain ⟨ol, hol, hcl, nl, hdl⟩ := hl
  obtain ⟨ocls, odict, odata, oslots⟩ := ol
  simp only at hcl hdl
  subst hcl hdl
  have hol' : (s.heap.push (emptySet led)).get? l = some { cls := .type "list", dict := odict, data := .seq vs.toArray nl, slots := oslots } := Heap.get?_push_of_some _ hol
  have hsls := F.sub_list_set
  have hslf := F.sub_list_frozenset
  have hne : (Value.type "list" == Value.type "dict") = false := by decide
  have hl1 : (s.heap.push (emptySet led)).IsList l vs.toArray := ⟨_, hol', rfl, nl, rfl⟩
  have hlS : l < s.heap.objs.size := Heap.lt_size hol
  have hz : (s.heap.push (emptySet led)).objs.size = s.heap.objs.size + 1 := Heap.size_push ..
  unfold Builtin.«set.__init__» noKeywords Builtin.Frozenset.updateFrom
  generalize hPI : pyIter = PI
  wp_walk
  subst hPI
  refine wpAny_pyIter_list hl1 ?_
  refine wpAny_bind (wpAny_runValue ?_)
  have hneI : l ≠ (s.heap.push (emptySet led)).objs.size := by rw [hz]; exact Nat.ne_of_lt (Nat.lt_succ_of_lt hlS)
  have hSf : s.heap.objs.size ∉ [(s.heap.push (emptySet led)).objs.size, l] := by
    rw [hz]; simp only [List.mem_cons, List.not_mem_nil, or_false, not_or]
    exact ⟨Nat.ne_of_lt (Nat.lt_succ_self _), Nat.ne_of_gt hlS⟩
  generalize hI : (s.heap.push (emptySet led)).objs.size = I at hneI hSf
  have W : WalksS prog w A.in1 I [I, l] [I] (fun a b => b = a) vs.length (fun i v => vs[i]? = some v) (fun i s => s.heap.IsListIter I l i ∧ s.heap.IsList l vs.toArray) := by
    have := (Walks.list (prog := prog) (w := w) (A := A.in1) hh I l hneI vs.toArray).toS
    simpa only [List.size_toArray, List.getElem?_toArray] using this
  have hget : ((s.heap.push (emptySet led)).push { cls := .type "list_iterator", data := .fields #[.ref l, .int 0 0] }).get? s.heap.objs.size = some (emptySet led) := Heap.get?_push_of_some _ hS
  have h0 : HoldsN prog w ((s.heap.push (emptySet led)).push { cls := .type "list_iterator", data := .fields #[.ref l, .int 0 0] }) s.heap.objs.size ks 0 :=
    SetOf_congr ((setObjOf_fresh (knd := PySem.strKind prog w) led).setOf hget (by unfold scanBound; omega)) (fun _ => by simp) rfl
  show codeAny (model prog w) A (.builtin "set.update.loop" ⟨[.ref s.heap.objs.size, .ref I], []⟩) _ { s with heap := (s.heap.push (emptySet led)).push { cls := .type "list_iterator", data := .fields #[.ref l, .int 0 0] } }
  have hit : ((s.heap.push (emptySet led)).push { cls := .type "list_iterator", data := .fields #[.ref l, .int 0 0] }).IsListIter I l 0 := by rw [← hI]; exact ⟨_, Heap.get?_push_size _ rfl, rfl, rfl⟩
  refine grow hvs hnd W s.heap.objs.size hSf hb (vs.length - 0) 0 _ (by omega) (Nat.zero_le _) ⟨hit, hl1.push _⟩ h0 ?_
  · intro s' hm hS'
    obtain ⟨h', g', d', tk', os'⟩ := s'
    have eg : g' = s.gens := hm.gens
    have ed : d' = s.drawn := hm.drawn
    have eo : os' = s.os := hm.os
    subst eg ed eo
    refine wpAny_pure ?_
    refine wpAny_pure (h h' tk' hS' fun b o hb e => ?_)
    have hb1 : b ≠ s.heap.objs.size := Nat.ne_of_lt hb
    have hb2 : b ≠ I := by rw [← hI, hz]; exact Nat.ne_of_lt (Nat.lt_succ_of_lt hb)
    exact hm.heap b o (by simp only [List.mem_cons, List.not_mem_nil, or_false, not_or]; exact ⟨hb1, hb2⟩) (Heap.get?_push_of_some _ (Heap.get?_push_of_some _ e))

/-- set(l), l a list of strs -/
theorem set_strs {l : Addr} {vs : List Value} {ks : List Str} {Q : Value → Shared → Prop} (hh : A.handled = none) (hl : s.heap.IsList l vs.toArray) (hvs : Strs vs ks) (hnd : ks.Nodup) (hb : vs.length + 1 < scanBound)
    (h : ∀ (h' : Heap) (tk : Nat), HoldsN prog w h' s.heap.objs.size ks vs.length → (∀ b o, b < s.heap.objs.size → s.heap.get? b = some o → h'.get? b = some o) → Q (.ref s.heap.objs.size) { s with heap := h', toks := tk }) :
    wpAny (model prog w) A (call (.type "set") [.ref l]) Q E s := by
  obtain ⟨c, tl, hmro⟩ := F.called_set.mro
  have hmade := F.called_set.made
  have hsub := F.called_set.sub
  refine wpAny_call (codeAny_of_tree ?_)
  show wpAny _ _ (callAny (.type "set") _) _ _ _
  refine wpAny_pure ⟨Code.quiet_builtin _ (by decide +kernel), codeAny_builtin F.entry_type_call ?_⟩
  rw [Around.under_plain (weight_type_call_type "set" [.ref l] []) rfl]
  have h1 := F.called_set.notType
  have h2 := F.called_set.canCreate
  have hct := F.typeCall_set_1 (.ref l)
  repeat (any_goals (first | assumption | wp_step))
  refine codeAny_mono (code_set_new_1 (.ref l) (E := E) (Q₁ := fun obj s₁ => ∃ led : Bool, obj = .ref s.heap.objs.size ∧ s₁ = { s with heap := s.heap.push (emptySet led) }) fun led => ⟨led, rfl, rfl⟩) fun r s₁ hr => ?_
  cases r with
  | error e => exact hr
  | ok fl =>
    cases fl with
    | ret obj =>
      obtain ⟨led, rfl, rfl⟩ := hr
      have hS : (s.heap.push (emptySet led)).get? s.heap.objs.size = some (emptySet led) := Heap.get?_push_size _ rfl
      have hT : Shared.TypeIs { s with heap := s.heap.push (emptySet led) } (.ref s.heap.objs.size) "set" := ⟨_, hS, rfl⟩
      have hli := F.called_set.init.lookup
      have hbi := F.called_set.init.bind (.ref s.heap.objs.size)
      repeat (any_goals (first | assumption | wp_step))
      refine codeAny_mono (codeAny_call_builtin (R := wants (fun r s₂ => r = .none ∧ Q (.ref s.heap.objs.size) s₂) E) F.called_set.init.plain F.entry_set_init (check_set_init_1 hT ?_)) fun r₂ s₂ hr₂ => ?_
      · exact fill (by simp [hh]) hl hvs hnd hb fun h' tk a b => ⟨rfl, h h' tk a b⟩
      · cases r₂ with
        | error e => exact hr₂
        | ok fl₂ =>
          cases fl₂ with
          | ret r =>
            obtain ⟨rfl, hq⟩ := hr₂
            repeat (any_goals (first | assumption | wp_step))
          | _ => exact hr₂.elim
    | _ => exact hr.elim
end
end
end
section
open PySem PySem.W PyProof.Rows PySem.Calls
set_option maxRecDepth 100000
set_option maxHeartbeats 1000000
section
section
variable {X : Cx} {B : PH} {mu : List (Addr × Obj)} {l : Locs} {rest : List Stmt} {K : Kont} {G : List (Str × Value)} {e : Expr} {p pos : Pos}
/-- set(e), strs unlike each other -/
theorem evb_set {ks : List Str} (hh : X.A.handled = none) (hG : X.c.G = G) (hv : Gk "set" (.type "set") G) (he : EvB X B mu l e (fun B' v => ∃ a vs n, v = .ref a ∧ B' a = some (listOf (List.toArray vs) n) ∧ Strs vs ks)) (hnd : ks.Nodup) (hz : ks.length ≤ 1000)
    (hs : starEach [e] X.c.env = [(false, eval e X.c.env)] := by rfl) :
    EvB X B mu l (.Call (.Name "set" p) [e] [] pos) (fun B' v => ∃ r o es ep t, v = .ref r ∧ B' r = some o ∧ o.ExactSet ∧ o.data = .set es ep t ∧ t.fits es.size = true ∧ es.size = ks.length) := by
  refine .mk fun s Q S k => ?_
  refine r_callT S hG hv (args_cons (he.run s _ S fun v s' B' ⟨a, vs, n, hv, hl, hst⟩ S' hb => args_nil ?_) hs) hs
  subst hv
  refine set_strs hh (S'.isList hl) hst hnd (by rw [hst.1]; unfold scanBound; omega) fun h' tk hS hk => ?_
  obtain ⟨o, es, ep, t, ho, hex, hd, _, _, _, hf, hn⟩ := hS
  obtain ⟨S2, hle⟩ := S'.addAt tk (fun b o e => hk b o (Heap.lt_size e) e) new_none ho
  exact k _ _ _ ⟨_, o, es, ep, t, rfl, PH.add_self _ _ _, hex, hd, hf, hn.trans hst.1⟩ S2 (hb.trans hle)
/-- len(e), e a set -/
theorem evb_lenSet {n : Nat} (hG : X.c.G = G) (hv : Gk "len" (.builtin "len") G) (he : EvB X B mu l e (fun B' v => ∃ r o es ep t, v = .ref r ∧ B' r = some o ∧ o.ExactSet ∧ o.data = .set es ep t ∧ t.fits es.size = true ∧ es.size = n)) (hz : n ≤ 1000)
    (hs : starEach [e] X.c.env = [(false, eval e X.c.env)] := by rfl) : Ev X B mu l (.Call (.Name "len" p) [e] [] pos) (VI n) := by
  refine .mk fun s Q S k => ?_
  refine r_callB S hG hv (args_cons (he.run s _ S fun v s' B' h S' hb => args_nil ?_) hs) hs
  obtain ⟨r, o, es, ep, t, hv, ho, hex, hd, hf, hn⟩ := h
  subst hv hn
  exact call_len_set (S'.keep _ _ ho) hex hd hf (by omega) (k _ _ ⟨_, rfl⟩ ((S'.less hb S.ext).tok _))
/-- repr(e), e a pair of numbers -/
theorem ev_repr {w' : Nat} {x y : Int} (R : Room X.A 6) (hg : X.A.guards = some []) (hG : X.c.G = G) (hv : Gk "repr" (.builtin "repr") G) (he : EvB X B mu l e (VP w' x y)) (hsh : (PyData.tuple [srD w' x, srD w' y]).showable = true) (hz : (PyData.tuple [srD w' x, srD w' y]).shown.length ≤ sizeLine)
    (hs : starEach [e] X.c.env = [(false, eval e X.c.env)] := by rfl) : Ev X B mu l (.Call (.Name "repr" p) [e] [] pos) (fun v => ∃ t, v = .str (PyData.tuple [srD w' x, srD w' y]).shown t) := by
  refine .mk fun s Q S k => ?_
  refine r_callB S hG hv (args_cons (he.run s _ S fun v s' B' hv S' hb => args_nil ?_) hs) hs
  obtain ⟨as, r⟩ := hv.reads S'
  obtain ⟨q, _, _, rfl, _⟩ := hv
  have hd : (PyData.tuple [srD w' x, srD w' y]).depth ≤ 4 := by
    have h1 := depth_ints (znat (limbs w' x.natAbs))
    have h2 := depth_ints (znat (limbs w' y.natAbs))
    simp only [srD, PyData.depth, PyData.depthAll]
    omega
  have hl : (PyData.tuple [srD w' x, srD w' y]).canLay0 = true := by simp only [srD, PyData.canLay0, PyData.canLayAll0, lay_ints, Bool.and_true]
  exact repr_of_reads' r hsh (PyData.noDict_hsm (PyData.hasDict_of_canLay _ hl)) hg (by have := R.u; omega) (fun _ _ e => e) (fun h' u tk hk => k _ _ ⟨u, rfl⟩ ((S'.less hb S.ext).heap tk hk)) hz
end

/-- small numbers as data, whatever the limbs' width -/
noncomputable def smD (z : Int) : PyData := .tuple [.bool (decide (z < 0)), .list (if z = 0 then [] else [.int z.natAbs])]
theorem srD_small {w' : Nat} (hw : 4 ≤ w') {z : Int} (hz : z.natAbs < 16) : srD w' z = smD z := by
  unfold srD smD
  by_cases h0 : z = 0
  · subst h0
    rw [if_pos rfl, show (0 : Int).natAbs = 0 from rfl, limbs_zero]
    rfl
  · rw [if_neg h0, limbs_one (by omega) (by omega) (Nat.lt_of_lt_of_le hz (show 2 ^ 4 ≤ 2 ^ w' from Nat.pow_le_pow_right (by decide) hw))]
    rfl
/-- what three noughts and ones tell -/
noncomputable def told3 (row : List Nat) : Int × Int := (row.map fun d : Nat => (d : Int)).reverse.foldl ptell (0, 0)
noncomputable def text3 (row : List Nat) : Str := (PyData.tuple [smD (told3 row).1, smD (told3 row).2]).shown
theorem all3 : ((rowsL 2 3).all fun row => decide ((told3 row).1.natAbs < 16) && decide ((told3 row).2.natAbs < 16) && (PyData.tuple [smD (told3 row).1, smD (told3 row).2]).showable && decide ((text3 row).length ≤ 1000)) = true := by decide +kernel
theorem unlike3 : ((rowsL 2 3).map text3).Nodup := by decide +kernel
theorem eight3 : ((rowsL 2 3).map text3).length = 8 := by decide +kernel
end
end
section
open PySem PySem.W PyProof.Rows PySem.Calls
set_option maxRecDepth 100000
set_option maxHeartbeats 1000000
section
section
variable {X : Cx} {B : PH} {mu : List (Addr × Obj)} {l : Locs} {rest : List Stmt} {K : Kont} {G : List (Str × Value)} {e : Expr} {p pos : Pos}
theorem two_locs {x y : Str} {l : Locs} (h : l.map (·.1) = [x, y]) : ∃ o o', l = [(x, o), (y, o')] := by
  cases l with
  | nil => cases h
  | cons p r =>
    obtain ⟨h1, h2⟩ := List.cons.inj h
    obtain ⟨o', rfl⟩ := one_loc h2
    exact ⟨p.2, o', by rw [← h1]⟩
/-- [elt for x, y in enumerate(e)], e a tuple -/
theorem evb_compET {x y : Str} {px py pt ps pe : Pos} {kt : Nat} {elt : Expr} {scope : Scope} {cl : List (Str × Addr)} {G' : List (Str × Value)} {a : Addr} {vs : List Value} (R : X.A.handled = none) (hG : X.c.G = G) (hg : Gk "enumerate" (.type "enumerate") G) (he : Ev X B mu l e (VR a)) (hl : B a = some (tupOf vs)) (hz : vs.length ≤ 100000)
    (hxy : x ≠ y) (hclos : closureFor scope X.c.env = pure cl) (hlx : scope.names.lookup x = some .local) (hly : scope.names.lookup y = some .local) (hG' : ∀ p ∈ G', (relabel scope X.c.env).names.lookup p.1 = some .globalImplicit ∧ Gl X.c p)
    (Inv : Nat → PH → List Value → Prop) (hmono : ∀ B B' i us, B.le B' → Inv i B us → Inv i B' us) (h0 : Inv 0 B [])
    (h : ∀ (c' : Fx) (i : Nat) (v : Value) tk (B₃ : PH) (us : List Value) mu', c'.W = X.c.W → c'.G = G' → c'.env.cells = cl → (∀ x, c'.env.kindOf x = (relabel scope X.c.env).names.lookup x) → vs[i]? = some v → B.le B₃ → Inv i B₃ us →
      EvB ⟨X.prog, X.w, X.A, c'⟩ B₃ mu' [(x, some (.int (i : Nat) tk)), (y, some v)] elt (fun B₅ u => Inv (i + 1) B₅ (us ++ [u])))
    (hs : starEach [e] X.c.env = [(false, eval e X.c.env)] := by rfl)
    (hcell : ∀ y ∈ scope.names, y.2 ≠ .cell := by decide) (hkind : scope.kind = .function := by rfl) (hnames : ∀ y ∈ scope.names, y.2 = .local → scope.names.lookup y.1 = some .local := by decide)
    (hf : ∀ v, foldedSetIterable (.Call (.Name "enumerate" pe) [e] [] p) X.c.env v = pure v := by intro _; rfl) :
    EvB X B mu l (.ListComp elt [⟨.Tuple [.Name x px, .Name y py] kt pt, .Call (.Name "enumerate" pe) [e] [] p, [], 0⟩] scope ps) (fun B' v => ∃ r us k, v = .ref r ∧ B' r = some (listOf (List.toArray us) k) ∧ us.length ≤ 100000 ∧ Inv vs.length B' us) := by
  refine .mk fun s Q S k => ?_
  refine r_comp (mv := []) (mu0 := mu) (l := l) [x, y] G' R hclos (by simpa using hxy) (fun z hz => by
    rcases List.mem_cons.mp hz with rfl | hz
    · exact hlx
    · rw [List.mem_singleton.mp hz]; exact hly) hG' ?_ hcell hkind hnames hf
  refine r_callT S hG hg (args_cons (he.run s _ S fun v s' hv S' => args_nil ?_) hs) hs
  subst hv
  refine src_enumT (elts := [.Name x px, .Name y py]) (x1 := kt) (tp := pt) R S' hl fun it its H s₂ S₂ hH X' => ?_
  refine ⟨B, its, vs.length, H, _, fun i B _ us => Inv i B us, S₂, hH, X', hz, h0, ?_, ?_⟩
  · rintro c' i v B₃ B₄ mv₁ us l₁ its D n' s' hW hG2 hc hk hi hB hB' hI ⟨u, tk, q, hu, rfl, hq⟩ hl hm S
    obtain ⟨o, o', rfl⟩ := two_locs hl
    have hm' : mv₁ = [] := List.map_eq_nil_iff.mp hm
    subst hm'
    refine r_asgTup2 R S hq Put.here (Put.there Put.here) fun s₂ S₂ => wpAny_tests_nil ?_
    rw [if_pos rfl]
    exact (h c' i u tk B₄ us _ hW hG2 hc hk hu (hB.trans hB') (hmono _ _ _ _ hB' hI)).run s₂ _ S₂ fun w s₃ B₅ p S₃ hb => ⟨B₅, [], _, hb, rfl, rfl, S₃, p⟩
  · intro B₃ mv₁ us D n' hB₃ hm hI hu s' S₃
    have hm : mv₁ = [] := List.map_eq_nil_iff.mp hm
    subst hm
    obtain ⟨S₄, hle⟩ := S₃.freeze
    exact k _ _ _ ⟨D, us, n', rfl, PH.add_self _ _ _, by omega, hmono _ _ _ _ hle hI⟩ S₄ (hB₃.trans hle)

/-- two items out of a list -/
theorem unpack2 {c : Fx} {s : Shared} {prog : Program} {w : World} {A : Around} {E : Value → Shared → Prop} {a : Addr} {u v : Value} {n : Nat} {Q : List Value → Shared → Prop} (hh : A.handled = none) (S : St c B mu l s) (hl : B a = some (listOf [u, v].toArray n))
    (h : ∀ s', St c B mu l s' → Q [u, v] s') : wpAny (model prog w) A (unpackItems (.ref a) 2 none) Q E s := by
  have hL := S.isList hl
  unfold unpackItems
  refine wpAny_bind ?_
  unfold notIterableAtAll
  refine wpAny_bind (wpAny_specialOf hL.typeIs F.slot_list_iter.lookup ?_)
  refine wpAny_pure ?_
  simp only [Bool.false_eq_true, if_false]
  refine wpAny_bind (wpAny_holding (wpAny_pyIter_list hL ?_))
  have hsz : a < s.heap.objs.size := Heap.lt_size (S.keep _ _ hl)
  have hne : a ≠ s.heap.objs.size := Nat.ne_of_lt hsz
  have push : ∀ b o, s.heap.get? b = some o → (s.heap.push (lIter a 0)).get? b = some o := fun b o e => Heap.get?_push_of_some _ e
  have S1 := S.heap' push
  refine wpAny_bind (wpAny_holding ?_)
  refine wpAny_bind (wpAny_pyNext_list_item (it := s.heap.objs.size) (i := 0) ⟨_, Heap.get?_push_size _ rfl, rfl, rfl⟩ (S1.isList hl) (x := u) rfl fun h1 hit1 hs1 => ?_)
  have old1 : ∀ b o, s.heap.get? b = some o → h1.get? b = some o := fun b o e => hs1.extBut b o (Nat.ne_of_lt (Heap.lt_size e)) (push b o e)
  have S2 := S.heap' old1
  refine wpAny_bind (wpAny_holding (wpAny_bind (wpAny_pyNext_list_item hit1 (S2.isList hl) (x := v) rfl fun h2 hit2 hs2 => ?_)))
  have old2 : ∀ b o, s.heap.get? b = some o → h2.get? b = some o := fun b o e => hs2.extBut b o (Nat.ne_of_lt (Heap.lt_size e)) (old1 b o e)
  have S3 := S.heap' old2
  refine wpAny_bind (wpAny_holding (wpAny_pure (wpAny_pure (wpAny_pure ?_))))
  rw [if_neg (by simp)]
  refine wpAny_bind (wpAny_holding (wpAny_pyNext_list_end hh hit2 (S3.isList hl) rfl fun h3 he => ?_))
  simp only [Option.isSome_none, Bool.false_eq_true, if_false]
  exact wpAny_pure (h _ (S.heap' fun b o e => he b o (Nat.ne_of_lt (Heap.lt_size e)) (old2 b o e)))
end
end
end
section
open PySem PySem.W PyProof.Rows PySem.Calls
set_option maxRecDepth 100000
set_option maxHeartbeats 1000000
section
theorem relabel_other {scope : Scope} {env : Env} {x : Str} {k : NameKind} (h : scope.names.lookup x = some k) (hk : k ≠ .free) : (relabel scope env).names.lookup x = some k := by
  show (scope.names.map _).lookup x = _
  generalize scope.names = names at h
  induction names with
  | nil => simp at h
  | cons p r ih =>
    obtain ⟨n, k'⟩ := p
    rw [List.map_cons]
    rw [List.lookup_cons] at h
    cases hx : x == n with
    | true =>
      rw [hx] at h
      cases h
      have hf : (k == NameKind.free) = false := by simpa using hk
      simp only [hf, Bool.false_and, Bool.false_eq_true, if_false, List.lookup_cons, hx]
    | false =>
      rw [hx] at h
      have := ih h
      dsimp only
      generalize (k' == NameKind.free && env.scope.kind == ScopeKind.function && env.kindOf n == some NameKind.cell) = b
      cases b with
      | true => rw [if_pos rfl, List.lookup_cons, hx]; exact this
      | false => rw [if_neg Bool.false_ne_true, List.lookup_cons, hx]; exact this
theorem relabel_free {scope : Scope} {env : Env} {x : Str} (h : scope.names.lookup x = some .free) (hf : env.scope.kind = .function) (hc : env.kindOf x = some .cell) : (relabel scope env).names.lookup x = some .cell := by
  show (scope.names.map _).lookup x = _
  generalize scope.names = names at h
  induction names with
  | nil => simp at h
  | cons p r ih =>
    obtain ⟨n, k'⟩ := p
    rw [List.map_cons]
    rw [List.lookup_cons] at h
    cases hx : x == n with
    | true =>
      rw [hx] at h
      cases h
      have e : x = n := by simpa using hx
      subst e
      have hb : (NameKind.free == NameKind.free && env.scope.kind == ScopeKind.function && env.kindOf x == some NameKind.cell) = true := by rw [hf, hc]; rfl
      simp only [hb, if_true, List.lookup_cons, hx]
    | false =>
      rw [hx] at h
      have := ih h
      dsimp only
      generalize (k' == NameKind.free && env.scope.kind == ScopeKind.function && env.kindOf n == some NameKind.cell) = b
      cases b with
      | true => rw [if_pos rfl, List.lookup_cons, hx]; exact this
      | false => rw [if_neg Bool.false_ne_true, List.lookup_cons, hx]; exact this

section
variable {mg : Str → Option Value} {W : Heap}
theorem g_sum (X : Wd mg W) : GlobAt W "sum" (.builtin "sum") := globB X (by decide +kernel) (by decide +kernel) (by decide +kernel)
theorem g_max (X : Wd mg W) : GlobAt W "max" (.builtin "max") := globB X (by decide +kernel) (by decide +kernel) (by decide +kernel)
theorem g_sorted (X : Wd mg W) : GlobAt W "sorted" (.builtin "sorted") := globB X (by decide +kernel) (by decide +kernel) (by decide +kernel)
theorem g_repr (X : Wd mg W) : GlobAt W "repr" (.builtin "repr") := globB X (by decide +kernel) (by decide +kernel) (by decide +kernel)
theorem g_list (X : Wd mg W) : GlobAt W "list" (.type "list") := globB X (by decide +kernel) (by decide +kernel) (by decide +kernel)
theorem g_int (X : Wd mg W) : GlobAt W "int" (.type "int") := globB X (by decide +kernel) (by decide +kernel) (by decide +kernel)
theorem g_set (X : Wd mg W) : GlobAt W "set" (.type "set") := globB X (by decide +kernel) (by decide +kernel) (by decide +kernel)
end
noncomputable def lawG (mg : Str → Option Value) : List (Str × Value) := [("_law_mirrored", .ref (adr mg "_law_mirrored")), ("_law_digits", .ref (adr mg "_law_digits")), ("_law_signed", .ref (adr mg "_law_signed")), ("_law_read", .ref (adr mg "_law_read")), ("max", .builtin "max"), ("_law_more", .ref (adr mg "_law_more")), ("sorted", .builtin "sorted"), ("_law_rows", .ref (adr mg "_law_rows")), ("list", .type "list"), ("range", .type "range"), ("len", .builtin "len"), ("_law_pair_digits", .ref (adr mg "_law_pair_digits")), ("_law_pair_read", .ref (adr mg "_law_pair_read")), ("repr", .builtin "repr"), ("set", .type "set")]
noncomputable def lawBody : List Stmt := match (pw.main.body[39]? : Option Stmt) with
  | some (Stmt.FunctionDef _ _ body _ _ _ _ _ _ _) => body
  | _ => []
noncomputable def lawScope : Scope := match (pw.main.body[39]? : Option Stmt) with
  | some (Stmt.FunctionDef _ _ _ _ _ _ scope _ _ _) => scope
  | _ => ⟨.function, [], false, false, []⟩
/-- law's frame -/
structure Law (X : Cx) (mg : Str → Option Value) (A1 A2 : Addr) : Prop where
  Y : Wd mg X.c.W
  G : X.c.G = lawG mg
  R : Room X.A 10
  g : X.A.guards = some []
  hi : interactive X.c.env = false
  k : X.c.env.scope.kind = .function
  k1 : X.c.env.kindOf "lake" = some .cell
  k2 : X.c.env.kindOf "base" = some .cell
  c1 : X.c.env.cells.lookup ("lake" : Str) = some A1
  c2 : X.c.env.cells.lookup ("base" : Str) = some A2
  gl : X.c.env.globals = mainGlobals
  bl : X.c.env.builtins = builtinsNs
theorem Law.glob {X : Cx} {mg : Str → Option Value} {A1 A2 : Addr} (L : Law X mg A1 A2) {x : Str} {v : Value} (h : GlobAt X.c.W x v) (hd : (x == ("__debug__" : Str)) = false := by decide) : Gl X.c (x, v) := .inr ⟨hd, L.gl, L.bl, h⟩

section
variable {X : Cx} {mg : Str → Option Value} {A1 A2 : Addr} {B : PH} {mu : List (Addr × Obj)} {l : Locs} {rest : List Stmt} {K : Kont}
/-- a list of ints that stood before, however it came to be -/
noncomputable def GL (B : PH) (a : Addr) (ns : List Int) : Prop := ∃ o vs n, B a = some o ∧ o.cls = .type "list" ∧ o.data = .seq (List.toArray vs) n ∧ IntsAre vs ns
theorem evb_sliceG {e : Expr} {lower upper : Option Expr} {p pos : Pos} {a : Addr} {vs : List Value} {lo hi : Option Int} (hl : ∀ s, St X.c B mu l s → s.heap.IsList a vs.toArray) (hz : vs.length ≤ 1000000) (he : Ev X B mu l e (VR a))
    (h1 : ∀ s (Q : Value → Shared → Prop), St X.c B mu l s → (∀ v s', IsPart v lo → St X.c B mu l s' → Q v s') → wpAny (model X.prog X.w) X.A (evalPart lower X.c.env) Q NoE s)
    (h2 : ∀ s (Q : Value → Shared → Prop), St X.c B mu l s → (∀ v s', IsPart v hi → St X.c B mu l s' → Q v s') → wpAny (model X.prog X.w) X.A (evalPart upper X.c.env) Q NoE s)
    (ht : ∀ o r, letTemporaryGo e o r = pure () := by intro _ _; rfl) :
    EvB X B mu l (.Subscript e (.Slice lower upper none p) pos) (fun B' v => ∃ r, v = .ref r ∧ B' r = some (listOf (slicePick vs.toArray lo hi none).toList.toArray 0)) := by
  refine .mk fun s Q S k => ?_
  refine wpAny_Subscript_list_slice (he.run s _ S fun v s1 hv S1 => h1 s1 _ S1 fun v1 s2 p1 S2 => h2 s2 _ S2 fun v2 s3 p2 S3 => ?_) ht
  subst hv
  refine ⟨a, vs.toArray, lo, hi, rfl, hl _ S3, by rw [List.size_toArray, sizeLine_eq]; omega, p1, p2, ?_⟩
  have S4 := S3.heap' (h := s3.heap.push { cls := .type "slice", data := .fields #[v1, v2, .none] }) fun b o e => Heap.get?_push_of_some _ e
  obtain ⟨S5, hle, _⟩ := S4.alloc (o := listOf (slicePick vs.toArray lo hi none).toList.toArray 0) rfl
  have e : (s3.heap.push { cls := .type "slice", data := .fields #[v1, v2, .none] }).objs.size = s3.heap.objs.size + 1 := Heap.size_push ..
  have := k _ _ _ ⟨_, rfl, PH.add_self _ _ _⟩ S5 hle
  rw [Array.toArray_toList] at this
  rw [← e]
  exact this
theorem seg0 {sc : Addr} {ns : List Int} {o : Obj} {v₀ : Option Value} {st : Stmt} (hst : lawBody[0]? = some st) (L : Law X mg A1 A2) (ho : o.data = .cell v₀) (hs : Lk "script" (.ref sc) l) (hsc : GL B sc ns) (hz : ns.length ≤ 63)
    (next : ∀ B' lake a Ld t n o', B.le B' → NL B' a Ld → Ld.length ≤ 8 → o'.data = .cell (some (.ref lake)) → Ex X B' ((A1, o') :: (lake, lakeO 0 t a n) :: mu) l rest K) : Ex X B ((A1, o) :: mu) l (st :: rest) K := by
  have e := Option.some.inj (hst.symm.trans (show lawBody[0]? = some _ from by rfl))
  subst e
  obtain ⟨ob, vs, en, hB, hcl, hda, hI⟩ := hsc
  have hlen := hI.length
  have hsl := slice_ints_uptoW hI (y := 8) (by decide)
  refine ex_asgC L.k1 L.c1 ho fun s S => List_ (args_cons (r_int S fun t s1 S1 => args_cons ((evb_compL (X := X) (x := "wave") (cl := []) (G' := [("abs", .builtin "abs"), ("int", .type "int")])
      (P := fun _ us => IntsAre us (ns.take 8)) L.R.h ((evb_sliceG (lo := none) (hi := some 8) (vs := vs) (fun s S => ⟨ob, S.keep _ _ hB, hcl, en, hda⟩) (by omega) (ev_nameR hs) part_none (part_int ev_int)).mono ?_) ?_ (by rfl) ?_
      (fun _ i _ us => IntsAre us (znat (((ns.take 8).map Int.natAbs).take i))) (fun _ _ _ _ _ _ h => h) (fun _ _ _ _ => .nil) ?_).run s1 _ S1 fun v s2 B2 hv S2 hb => args_nil ?_) rfl) rfl)
  · rintro B' v - ⟨r, hv, hr⟩
    refine ⟨r, _, _, hv, hr, ?_, hsl⟩
    rw [hsl.length, List.length_take]; omega
  · rfl
  · intro p hp
    rcases List.mem_cons.mp hp with rfl | hp
    · exact ⟨relabel_other (by rfl) (by decide), L.glob (g_abs L.Y)⟩
    · rw [List.mem_singleton.mp hp]
      exact ⟨relabel_other (by rfl) (by decide), L.glob (g_int L.Y)⟩
  · rintro c' B' vs' i v B₃ us mu' hB' hvs hW hG hc hk hvi hB₃ hus
    obtain ⟨m, tm, hm, rfl⟩ := ints_nth hvs hvi
    refine (ev_abs hG (by walk_at "gk") (ev_intI (i := m) hG (by walk_at "gk") (ev_nameI (by walk_at "lk")))).up.mono fun B₅ u _ ⟨hB5, t, hu⟩ => ?_
    subst hu
    have : ((ns.take 8).map Int.natAbs).take (i + 1) = ((ns.take 8).map Int.natAbs).take i ++ [m.natAbs] := by
      rw [List.take_add_one, List.getElem?_map, hm]; rfl
    rw [this, znat, List.map_append]
    exact intsAre_snoc hus _ _
  · obtain ⟨r, us, k, vs', rfl, hr, hul, hin, _, _, hvs, _⟩ := hv
    rw [hvs.length, List.take_of_length_le (by rw [List.length_map]; exact Nat.le_refl _)] at hin
    exact r_newListM S2 (by simp) fun lake s3 S3 => ⟨B2, (lake, _) :: mu, hb, S3.perm (List.Perm.swap _ _ _), fun o' hd => next B2 lake r _ t 0 o' hb ⟨us, k, hr, hin⟩ (by simp; omega) hd⟩
end
end
end
section
open PySem PySem.W PyProof.Rows PySem.Calls
set_option maxRecDepth 100000
set_option maxHeartbeats 1000000
section
section
variable {X : Cx} {mg : Str → Option Value} {A1 A2 : Addr} {B : PH} {mu : List (Addr × Obj)} {l : Locs} {rest : List Stmt} {K : Kont}
/-- a cell that holds this -/
noncomputable def CellIs (B : PH) (A : Addr) (v : Value) : Prop := ∃ o, B A = some o ∧ o.data = .cell (some v)
theorem CellIs.mono {B B' : PH} {A : Addr} {v : Value} (h : CellIs B A v) (hb : B.le B') : CellIs B' A v := let ⟨o, e, d⟩ := h; ⟨o, hb _ _ e, d⟩
theorem ev_lake {lake : Addr} {pos : Pos} (L : Law X mg A1 A2) (h : CellIs B A1 (.ref lake)) : Ev X B mu l (.Name "lake" pos) (VR lake) := let ⟨_, e, d⟩ := h; ev_cell L.k1 L.c1 e d
theorem ev_base {b : Int} {tb : Tok} {pos : Pos} (L : Law X mg A1 A2) (h : CellIs B A2 (.int b tb)) : Ev X B mu l (.Name "base" pos) (fun v => v = .int b tb) := let ⟨_, e, d⟩ := h; ev_cell L.k2 L.c2 e d
theorem ev_baseI {b : Int} {tb : Tok} {pos : Pos} (L : Law X mg A1 A2) (h : CellIs B A2 (.int b tb)) : Ev X B mu l (.Name "base" pos) (VI b) := (ev_base L h).mono fun _ h => ⟨tb, h⟩
theorem lawG_gk {L : Law X mg A1 A2} : X.c.G = lawG mg := L.G
theorem dr_lt {Ld : List Nat} {k many : Nat} (h : 0 < many) : dr Ld k many < many := Nat.mod_lt _ h

theorem seg1 {lake a n : Nat} {t : Tok} {Ld : List Nat} {o : Obj} {v₀ : Option Value} {st : Stmt} (hst : lawBody[1]? = some st) (L : Law X mg A1 A2) (ho : o.data = .cell v₀) (hl : CellIs B A1 (.ref lake)) (hL : NL B a Ld) (hz : Ld.length ≤ 8) (hw : ("w" : Str) ∈ l.map (·.1))
    (next : ∀ tw tb t n, ∃ l', Put "w" (.int ((4 + dr Ld 0 5 : Nat) : Int) tw) l l' ∧ ∀ o', o'.data = .cell (some (.int (-((2 + dr Ld 1 8 : Nat) : Int)) tb)) → Ex X B ((A2, o') :: (lake, lakeO 2 t a n) :: mu) l' rest K) :
    Ex X B ((A2, o) :: (lake, lakeO 0 t a n) :: mu) l (st :: rest) K := by
  have e := Option.some.inj (hst.symm.trans (show lawBody[1]? = some _ from by rfl))
  subst e
  have hG : X.c.G = lawG mg := L.G
  refine ex_drawC (i := 4 + (dr Ld 0 5 : Nat)) (j := 0 - 2 - (dr Ld 1 8 : Nat)) L.R.h L.k2 L.c2 ho
    (el_add el_int (el_draw (many := 5) L.Y (L.R.less (by decide)) hG (by unfold lawG; walk_at "gk") (fun _ => ev_lake L hl) hL (by omega) (by decide) (by decide)))
    (el_sub (el_sub el_int el_int) (el_draw (many := 8) L.Y (L.R.less (by decide)) hG (by unfold lawG; walk_at "gk") (fun _ => ev_lake L hl) hL (by omega) (by decide) (by decide))) ?_ hw
  intro ti tj t n
  obtain ⟨l', hp, kk⟩ := next ti tj t n
  refine ⟨l', ?_, fun o' hd => kk o' ?_⟩
  · have : (4 : Int) + ((dr Ld 0 5 : Nat) : Int) = ((4 + dr Ld 0 5 : Nat) : Int) := by omega
    rw [this]; exact hp
  · rw [hd]
    have : (0 : Int) - 2 - ((dr Ld 1 8 : Nat) : Int) = -((2 + dr Ld 1 8 : Nat) : Int) := by omega
    rw [this]

theorem seg2 {lake a n : Nat} {t : Tok} {Ld : List Nat} {st : Stmt} (hst : lawBody[2]? = some st) (L : Law X mg A1 A2) (hl : CellIs B A1 (.ref lake)) (hL : NL B a Ld) (hz : Ld.length ≤ 8)
    (next : ∀ tz t n, ∃ l', Put "number" (.int ((dr Ld 2 1999 : Nat) * (1 - 2 * (dr Ld 3 2 : Nat))) tz) l l' ∧ Ex X B ((lake, lakeO 4 t a n) :: mu) l' rest K) :
    Ex X B ((lake, lakeO 2 t a n) :: mu) l (st :: rest) K := by
  have e := Option.some.inj (hst.symm.trans (show lawBody[2]? = some _ from by rfl))
  subst e
  have hG : X.c.G = lawG mg := L.G
  exact ex_asgD (m1 := []) (m2 := mu)
    (el_mul (el_draw (many := 1999) L.Y (L.R.less (by decide)) hG (by unfold lawG; walk_at "gk") (fun _ => ev_lake L hl) hL (by omega) (by decide) (by decide))
      (el_sub el_int (el_mul el_int (el_draw (many := 2) L.Y (L.R.less (by decide)) hG (by unfold lawG; walk_at "gk") (fun _ => ev_lake L hl) hL (by omega) (by decide) (by decide)) (by decide)))
      (Nat.lt_of_lt_of_le (dr_lt (by decide)) (by decide))) next

/-- _law_digits(_law_signed(e, w), base, w) -/
theorem evb_digits {e : Expr} {z : Int} {w' b : Nat} {tw tb : Tok} {p0 p1 p2 p3 p4 p5 pos : Pos} (L : Law X mg A1 A2) (hb : CellIs B A2 (.int (-(b : Nat)) tb)) (hlw : Lk "w" (.int w' tw) l) (hw : 4 ≤ w') (hw2 : w' ≤ 8) (hb0 : 2 ≤ b) (hb9 : b ≤ 9) (he : ∀ B', B.le B' → Ev X B' mu l e (VI z)) (hz1 : -2048 ≤ z) (hz2 : z ≤ 2048)
    (h0 : starEach [e, .Name "w" p2] X.c.env = (false, eval e X.c.env) :: starEach [.Name "w" p2] X.c.env := by rfl) :
    EvB X B mu l (.Call (.Name "_law_digits" p0) [.Call (.Name "_law_signed" p1) [e, .Name "w" p2] [] p3, .Name "base" p4, .Name "w" p5] [] pos) (fun B' v => ∃ r, v = .ref r ∧ DL w' B' r (nd b 40 z)) := by
  have hG : X.c.G = lawG mg := L.G
  have hz : z.natAbs < 2 ^ 900 := Nat.lt_of_le_of_lt (show z.natAbs ≤ 2048 by omega) (by decide)
  refine evb_call (n := 9) (P := fun B' vs => ∃ a t, vs = [.ref a, .int (-(b : Nat)) tb, .int w' t] ∧ SR w' B' a z) (L.R.less (by decide)) hG (by unfold lawG; walk_at "gk") (f_digits L.Y).2
    (evs_consB (EvU.at (eu_signed L.Y (by omega) hw2 (L.R.less (by decide)) hG (by unfold lawG; walk_at "gk") hlw he (Nat.lt_of_lt_of_le hz (Nat.pow_le_pow_right (by decide) (by decide))) h0)) fun B₁ v hB₁ hv =>
      evs_cons (P := fun v => v = .int (-(b : Nat)) tb) (ev_base L (hb.mono hB₁)) fun _ h2 => evs_cons (P := VI w') (ev_nameI hlw) fun _ h3 => evs_nil ?_) ?_
  · obtain ⟨a, rfl, ha⟩ := hv
    obtain ⟨t, rfl⟩ := h3
    exact ⟨a, t, by rw [h2], ha⟩
  · rintro B₁ _ - ⟨a, t, rfl, ha⟩
    exact digits_spec L.Y hw hw2 hb0 hb9 ha hz (done_all hb0 hz1 hz2)

theorem seg3 {z : Int} {w' b : Nat} {tw tb tz : Tok} {st : Stmt} (hst : lawBody[3]? = some st) (L : Law X mg A1 A2) (hb : CellIs B A2 (.int (-(b : Nat)) tb)) (hlw : Lk "w" (.int w' tw) l) (hln : Lk "number" (.int z tz) l) (hw : 4 ≤ w') (hw2 : w' ≤ 8) (hb0 : 2 ≤ b) (hb9 : b ≤ 9) (hz1 : -2000 ≤ z) (hz2 : z ≤ 2000)
    (next : ∀ B' r, B.le B' → DL w' B' r (nd b 40 z) → ∃ l', Put "here" (.ref r) l l' ∧ Ex X B' mu l' rest K) : Ex X B mu l (st :: rest) K := by
  have e := Option.some.inj (hst.symm.trans (show lawBody[3]? = some _ from by rfl))
  subst e
  refine ex_asg (evb_digits L hb hlw hw hw2 hb0 hb9 (fun _ _ => ev_nameI hln) (by omega) (by omega)) ?_
  rintro B' _ hB ⟨r, rfl, hr⟩
  exact next B' r hB hr
theorem seg4 {z : Int} {w' b : Nat} {tw tb tz : Tok} {st : Stmt} (hst : lawBody[4]? = some st) (L : Law X mg A1 A2) (hb : CellIs B A2 (.int (-(b : Nat)) tb)) (hlw : Lk "w" (.int w' tw) l) (hln : Lk "number" (.int z tz) l) (hw : 4 ≤ w') (hw2 : w' ≤ 8) (hb0 : 2 ≤ b) (hb9 : b ≤ 9) (hz1 : -2000 ≤ z) (hz2 : z ≤ 2000)
    (next : ∀ B' r, B.le B' → DL w' B' r (nd b 40 (z + 1)) → ∃ l', Put "later" (.ref r) l l' ∧ Ex X B' mu l' rest K) : Ex X B mu l (st :: rest) K := by
  have e := Option.some.inj (hst.symm.trans (show lawBody[4]? = some _ from by rfl))
  subst e
  refine ex_asg (evb_digits L hb hlw hw hw2 hb0 hb9 (fun _ _ => ev_add (ev_nameI hln) ev_int) (by omega) (by omega)) ?_
  rintro B' _ hB ⟨r, rfl, hr⟩
  exact next B' r hB hr
end
end
end
section
open PySem PySem.W PyProof.Rows PySem.Calls
set_option maxRecDepth 100000
set_option maxHeartbeats 1000000
section
section
variable {X : Cx} {mg : Str → Option Value} {A1 A2 : Addr} {B : PH} {mu : List (Addr × Obj)} {l : Locs} {rest : List Stmt} {K : Kont} {G : List (Str × Value)} {e f : Expr} {p pos : Pos}
theorem nd_small {b : Nat} (hb : 2 ≤ b) (hb9 : b ≤ 9) {z : Int} : ∀ d ∈ nd b 40 z, d.natAbs ≤ 9 := fun d hd => by
  have := nd_range hb 40 z d hd
  omega
/-- if test: return False, the test false -/
theorem ex_skip {t : Expr} {body : List Stmt} (ht : Tst X B mu l t false) (h : Ex X B mu l rest K) : Ex X B mu l (.If t body [] pos :: rest) K :=
  ex_if ht (fun h => nomatch h) fun _ => ex_nil h
theorem seg5 {z : Int} {w' b : Nat} {tw tb tz : Tok} {hr lr : Addr} {st : Stmt} (hst : lawBody[5]? = some st) (L : Law X mg A1 A2) (hb : CellIs B A2 (.int (-(b : Nat)) tb)) (hlw : Lk "w" (.int w' tw) l) (hln : Lk "number" (.int z tz) l) (hlh : Lk "here" (.ref hr) l) (hll : Lk "later" (.ref lr) l)
    (hw : 4 ≤ w') (hw2 : w' ≤ 8) (hb0 : 2 ≤ b) (hb9 : b ≤ 9) (hz1 : -2000 ≤ z) (hz2 : z ≤ 2000) (hh : DL w' B hr (nd b 40 z))
    (next : Ex X B mu l rest K) : Ex X B mu l (st :: rest) K := by
  have e := Option.some.inj (hst.symm.trans (show lawBody[5]? = some _ from by rfl))
  subst e
  have hG : X.c.G = lawG mg := L.G
  have hz : z.natAbs < 2 ^ 1000 := Nat.lt_of_le_of_lt (show z.natAbs ≤ 2000 by omega) (by decide)
  have hbn : (-((b : Nat) : Int)).natAbs ≤ 9 := by omega
  have hd := done_all hb0 (z := z) (by omega) (by omega)
  refine ex_skip (tst_of (b := false || (false || (false || false))) (tst_or (tst_isNone (ev_name hlh ⟨_, rfl⟩)) fun _ => tst_or (tst_isNone (ev_name hll ⟨_, rfl⟩)) fun _ => tst_or (tst_neS (w' := w') (x := z) (L.R.less (by decide)) ?_ ?_) fun _ => tst_or_nil) rfl) next
  · intro B' hB
    refine (evb_call (n := 7) (P := fun B' vs => ∃ t, vs = [.ref hr, .int (-(b : Nat)) tb, .int w' t] ∧ B.le B') (L.R.less (by decide)) hG (by unfold lawG; walk_at "gk") (f_read L.Y).2
      (evs_cons (P := VR hr) (ev_nameR hlh) fun _ h1 => evs_cons (P := fun v => v = .int (-(b : Nat)) tb) (ev_base L (hb.mono hB)) fun _ h2 => evs_cons (P := VI w') (ev_nameI hlw) fun _ h3 => evs_nil ?_) ?_)
    · obtain ⟨t, rfl⟩ := h3
      exact ⟨t, by rw [h1, h2], hB⟩
    · rintro B₁ _ - ⟨t, rfl, hB1⟩
      have hds := nd_small hb0 hb9 (z := z)
      have := read_spec (prog := X.prog) (w := X.w) (tb := tb) (tw := t) L.Y (show 0 < w' by omega) hw2 (hh.mono hB1) (by have := nd_length (b : Int) 40 z; omega) (Nat.lt_of_le_of_lt hbn (by decide))
        (tell_small hbn hds (nd_length _ 40 z)) (fun d hd => Nat.lt_of_le_of_lt (hds d hd) (by decide))
      rwa [nd_tell hb0 40 z hd.succ] at this
  · exact eu_signed L.Y (by omega) hw2 (L.R.less (by decide)) hG (by unfold lawG; walk_at "gk") hlw (fun _ _ => ev_nameI hln) hz

theorem limbs_sum {w' : Nat} (hw : 4 ≤ w') {d : Int} (h0 : 0 ≤ d) (h9 : d ≤ 9) : (znat (limbs w' d.natAbs)).sum = d := by
  have hp : 2 ^ 4 ≤ 2 ^ w' := Nat.pow_le_pow_right (by decide) hw
  by_cases hz : d = 0
  · subst hz
    rw [show (0 : Int).natAbs = 0 from rfl, limbs_zero]
    rfl
  · rw [limbs_one (by omega) (by omega) (by omega)]
    simp
    omega
theorem take_snoc {α : Type} {L : List α} {i : Nat} {d : α} (h : L[i]? = some d) : L.take (i + 1) = L.take i ++ [d] := by rw [List.take_add_one, h]; rfl
theorem compG (L : Law X mg A1 A2) {scope : Scope} {x : Str} {v : Value} (h : scope.names.lookup x = some .globalImplicit) (hg : GlobAt X.c.W x v) (hd : (x == ("__debug__" : Str)) = false := by decide) : (relabel scope X.c.env).names.lookup (x, v).1 = some .globalImplicit ∧ Gl X.c (x, v) :=
  ⟨relabel_other h (by decide), L.glob hg hd⟩
/-- y = [elt for x in e], e a frozen list -/
theorem ex_compLA {x y : Str} {px py pc : Pos} {elt e : Expr} {scope : Scope} {cl : List (Str × Addr)} {G' : List (Str × Value)} {P : PH → List Value → Prop} (R : X.A.handled = none) (hy : y ∈ l.map (·.1)) (he : EvB X B mu l e (fun B' v => ∃ a vs n, v = .ref a ∧ B' a = some (listOf (List.toArray vs) n) ∧ vs.length ≤ 100000 ∧ P B' vs))
    (hclos : closureFor scope X.c.env = pure cl) (hloc : scope.names.lookup x = some .local) (hG' : ∀ p ∈ G', (relabel scope X.c.env).names.lookup p.1 = some .globalImplicit ∧ Gl X.c p)
    (Inv : List Value → Nat → PH → List Value → Prop) (hmono : ∀ vs B B' i us, B.le B' → Inv vs i B us → Inv vs i B' us) (h0 : ∀ B' vs, B.le B' → P B' vs → Inv vs 0 B' [])
    (h : ∀ (c' : Fx) (B' : PH) (vs : List Value) (i : Nat) (v : Value) (B₃ : PH) (us : List Value) mu', B.le B' → P B' vs → c'.W = X.c.W → c'.G = G' → c'.env.cells = cl → (∀ x, c'.env.kindOf x = (relabel scope X.c.env).names.lookup x) → vs[i]? = some v → B'.le B₃ → Inv vs i B₃ us →
      EvB ⟨X.prog, X.w, X.A, c'⟩ B₃ mu' [(x, some v)] elt (fun B₅ u => Inv vs (i + 1) B₅ (us ++ [u])))
    (next : ∀ r, ∃ l', Put y (.ref r) l l' ∧ ∀ B' us k vs, B.le B' → B' r = some (listOf (List.toArray us) k) → Inv vs vs.length B' us → (∃ B₀, P B₀ vs) → Ex X B' mu l' rest K)
    (hsw : (py.line == pc.line && !(scope.names.any fun q => q.1 == y && (q.2 == .local || q.2 == .cell))) = true := by rfl)
    (hcell : ∀ y ∈ scope.names, y.2 ≠ .cell := by decide) (hkind : scope.kind = .function := by rfl) (hnames : ∀ y ∈ scope.names, y.2 = .local → scope.names.lookup y.1 = some .local := by decide)
    (hf : ∀ x, foldedSetIterable e X.c.env x = pure x := by intro _; rfl) : Ex X B mu l (.Assign [.Name y py] (.ListComp elt [⟨.Name x px, e, [], 0⟩] scope pc) pos :: rest) K := by
  refine ex_cons fun s S => ?_
  have sw : swapsWith (.ListComp elt [⟨.Name x px, e, [], 0⟩] scope pc) (some (.Name y py)) pos.line X.c.env = pure true := by
    show (pure (X.c.env.blockKind == .function && X.c.env.kindOf y == some .local && py.line == pc.line && !(scope.names.any fun (n, k) => n == y && (k == .local || k == .cell))) : Sem Bool) = pure true
    rw [kind_block S.ok.kind, S.kinds y hy, show (ScopeKind.function == ScopeKind.function && some NameKind.local == some NameKind.local) = true from rfl, Bool.true_and]
    exact congrArg pure hsw
  refine r_compA (mv := []) (mu0 := mu) (l := l) [x] G' R hclos (by simp) (fun y hy => by rw [List.mem_singleton.mp hy]; exact hloc) hG' ?_ sw hcell hkind hnames hf
  refine he.run s _ S fun v s' B' ⟨a, vs, n, hv, hl, hz, p⟩ S' hB => ?_
  subst hv
  refine src_list (target := .Name x px) R (fun _ _ => rfl) S' hl fun it its H s₂ S₂ hH X' => ?_
  refine ⟨B', its, vs.length, H, _, fun i B _ us => Inv vs i B us, S₂, hH, X', hz, h0 B' vs hB p, turn_name (P := fun i B B' v => B' = B ∧ vs[i]? = some v) ?_, ?_⟩
  · rintro c' i v B₃ B₄ us mu' hW hG hc hk hi hB₃ - hI ⟨rfl, hv⟩
    exact h c' B' vs i v _ us mu' hB p hW hG hc hk hv hB₃ hI
  · intro B₃ mv₁ us D n' hB₃ hm hI hu
    have hm : mv₁ = [] := List.map_eq_nil_iff.mp hm
    subst hm
    obtain ⟨l₂, hp, kk⟩ := next D
    refine ⟨l₂, hp, fun s' S' => ?_⟩
    obtain ⟨S₄, hle⟩ := S'.freeze
    have hb := hB.trans (hB₃.trans hle)
    exact ⟨_, mu, l₂, hb, S₄, kk _ us n' vs hb (PH.add_self _ _ _) (hmono _ _ _ _ _ hle hI) ⟨B', p⟩⟩
/-- one turn of [sum(digit[1]) for digit in e] -/
theorem plain_turn {w' : Nat} {Ds : List Int} {vs : List Value} {p2 p3 p4 p5 : Pos} {k : Nat} (L : Law X mg A1 A2) (hw : 4 ≤ w') (hv : VDs w' B vs Ds) (hds : ∀ d ∈ Ds, 0 ≤ d ∧ d ≤ 9) {c' : Fx} {i : Nat} {v : Value} {B₃ : PH} {us : List Value} {mu' : List (Addr × Obj)} (hG : c'.G = ([("sum", .builtin "sum")] : List (Str × Value)))
    (hvi : vs[i]? = some v) (hB : B.le B₃) (hus : IntsAre us (Ds.take i)) :
    EvB ⟨X.prog, X.w, X.A, c'⟩ B₃ mu' [("digit", some v)] (.Call (.Name "sum" p2) [.Subscript (.Name "digit" p3) (.Constant (.int 1) k p4) p5] [] pos) (fun B₅ u => IntsAre (us ++ [u]) (Ds.take (i + 1))) := by
  obtain ⟨d, hd, q, rfl, lq, hq, hlq⟩ := (hv.mono hB).get hvi
  have h9 := hds d (List.mem_of_getElem? hd)
  refine (ev_sum (X := ⟨X.prog, X.w, X.A, c'⟩) L.R.h hG (by walk_at "gk") (ev_tup (j := 1) (P := VR lq) hq (ev_nameR (by walk_at "lk")) rfl rfl (by decide)) hlq).up.mono fun B₅ u _ ⟨hB5, t, hu⟩ => ?_
  subst hu
  rw [limbs_sum hw h9.1 h9.2, take_snoc hd]
  exact intsAre_snoc hus _ _
/-- [sum(digit[1]) for digit in e] -/
theorem evb_plain {w' : Nat} {Ds : List Int} {a : Addr} {x : Str} {px p1 p2 p3 p4 p5 ps : Pos} {k : Nat} {scope : Scope} (L : Law X mg A1 A2) (hw : 4 ≤ w') (hx : Lk x (.ref a) l) (hl : DL w' B a Ds) (hz : Ds.length ≤ 1000) (hds : ∀ d ∈ Ds, 0 ≤ d ∧ d ≤ 9)
    (hclos : closureFor scope X.c.env = pure []) (hloc : scope.names.lookup ("digit" : Str) = some .local) (hsum : scope.names.lookup ("sum" : Str) = some .globalImplicit)
    (hcell : ∀ y ∈ scope.names, y.2 ≠ .cell := by decide) (hkind : scope.kind = .function := by rfl) (hnames : ∀ y ∈ scope.names, y.2 = .local → scope.names.lookup y.1 = some .local := by decide) (hd : (x == ("__debug__" : Str)) = false := by decide)
    (hf : ∀ v, foldedSetIterable (.Name x p1) X.c.env v = pure v := by intro _; rfl) :
    EvB X B mu l (.ListComp (.Call (.Name "sum" p2) [.Subscript (.Name "digit" p3) (.Constant (.int 1) k p4) p5] [] pos) [⟨.Name "digit" px, .Name x p1, [], 0⟩] scope ps) (fun B' v => ∃ r, v = .ref r ∧ IL B' r Ds) := by
  obtain ⟨vs, n, hB, hv⟩ := hl
  have hlen := hv.length
  refine (evb_compL (X := X) (x := "digit") (cl := []) (G' := [("sum", .builtin "sum")]) (P := fun _ us => us = vs) L.R.h ((ev_nameR (a := a) hx hd).up.mono fun B' v _ ⟨hb, hv⟩ => ⟨a, vs, n, hv, by rw [hb]; exact hB, by omega, rfl⟩) hclos hloc ?_
    (fun _ i _ us => IntsAre us (Ds.take i)) (fun _ _ _ _ _ _ h => h) (fun _ _ _ _ => .nil) ?_ hcell hkind hnames hf).mono ?_
  · intro q hq
    rw [List.mem_singleton.mp hq]
    exact compG L hsum (g_sum L.Y)
  · rintro c' B' _ i v B₃ us mu' hB' rfl hW hG hc hk hvi hB₃ hus
    exact plain_turn L hw hv hds hG hvi (hB'.trans hB₃) hus
  · rintro B' v - ⟨r, us, k, _, rfl, hr, hul, hin, _, _, rfl, _⟩
    rw [hlen, List.take_of_length_le (Nat.le_refl _)] at hin
    exact ⟨r, rfl, us, k, hr, hin⟩
theorem seg6 {w' : Nat} {Ds : List Int} {hr : Addr} {st : Stmt} (hst : lawBody[6]? = some st) (L : Law X mg A1 A2) (hw : 4 ≤ w') (hlh : Lk "here" (.ref hr) l) (hh : DL w' B hr Ds) (hz : Ds.length ≤ 1000) (hds : ∀ d ∈ Ds, 0 ≤ d ∧ d ≤ 9) (hy : ("plain" : Str) ∈ l.map (·.1))
    (next : ∀ r, ∃ l', Put "plain" (.ref r) l l' ∧ ∀ B', B.le B' → IL B' r Ds → Ex X B' mu l' rest K) : Ex X B mu l (st :: rest) K := by
  have e := Option.some.inj (hst.symm.trans (show lawBody[6]? = some _ from by rfl))
  subst e
  obtain ⟨vs, n, hB, hv⟩ := hh
  have hlen := hv.length
  refine ex_compLA (x := "digit") (cl := []) (G' := [("sum", .builtin "sum")]) (P := fun _ us => us = vs) L.R.h hy ((ev_nameR (a := hr) hlh).up.mono fun B' v _ ⟨hb, hv⟩ => ⟨hr, vs, n, hv, by rw [hb]; exact hB, by omega, rfl⟩) ?_ (by rfl) ?_
    (fun _ i _ us => IntsAre us (Ds.take i)) (fun _ _ _ _ _ _ h => h) (fun _ _ _ _ => .nil) ?_ ?_
  · rfl
  · intro q hq
    rw [List.mem_singleton.mp hq]
    exact compG L (by rfl) (g_sum L.Y)
  · rintro c' B' _ i v B₃ us mu' hB' rfl hW hG hc hk hvi hB₃ hus
    exact plain_turn L hw hv hds hG hvi (hB'.trans hB₃) hus
  · intro r
    obtain ⟨l', hp, kk⟩ := next r
    refine ⟨l', hp, ?_⟩
    rintro B' us k _ hB' hr hin ⟨_, rfl⟩
    rw [hlen, List.take_of_length_le (Nat.le_refl _)] at hin
    exact kk B' hB' ⟨us, k, hr, hin⟩
end
end
end
section
open PySem PySem.W PyProof.Rows PySem.Calls
set_option maxRecDepth 100000
set_option maxHeartbeats 1000000
section
section
variable {X : Cx} {mg : Str → Option Value} {A1 A2 : Addr} {B : PH} {mu : List (Addr × Obj)} {l : Locs} {rest : List Stmt} {K : Kont} {G : List (Str × Value)} {e f : Expr} {p pos : Pos}
/-- e >= f, an int below f -/
theorem tst_geF {b : Int} (he : EvB X B mu l e (fun _ v => ∃ M, M < b ∧ VI M v)) (hf : ∀ B', B.le B' → Ev X B' mu l f (VI b)) (hm : behindInMarks .GtE f = false := by with_unfolding_all rfl) : Tst X B mu l (.Compare e [.GtE] [f] pos) false := by
  refine .mk fun s whole Q hw S k => wpAny_isTrue_Compare1 (he.run s _ S fun v s1 B1 ⟨M, hM, t, hv⟩ S1 hb1 => (hf B1 hb1).run s1 _ S1 fun u s2 ⟨t', hu⟩ S2 => ?_) hm
  subst hv hu
  refine ge_int (wpAny_truthy_bool ?_)
  rw [decide_eq_false (by omega)]
  exact k s2 (S2.less hb1 S.ext)
theorem seg7 {w' b : Nat} {tb : Tok} {Ds : List Int} {hr pr : Addr} {st : Stmt} (hst : lawBody[7]? = some st) (L : Law X mg A1 A2) (hb : CellIs B A2 (.int (-(b : Nat)) tb)) (hlh : Lk "here" (.ref hr) l) (hlp : Lk "plain" (.ref pr) l) (hh : DL w' B hr Ds) (hp : IL B pr Ds) (hz : Ds.length ≤ 1000) (hb2 : 2 ≤ b) (hds : ∀ d ∈ Ds, 0 ≤ d ∧ d < b) (hlast : Ds.drop (Ds.length - 1) ≠ [0])
    (next : Ex X B mu l rest K) : Ex X B mu l (st :: rest) K := by
  have e := Option.some.inj (hst.symm.trans (show lawBody[7]? = some _ from by rfl))
  subst e
  have hG : X.c.G = lawG mg := L.G
  obtain ⟨vs, n, hB, hv⟩ := hh
  have hlen := hv.length
  refine ex_skip (tst_of (b := (!decide (([] : List Int) = [])) || (false || (decide (Ds.drop (Ds.length - 1) = [0]) || false))) (tst_or (tst_neL (L.R.less (by decide)) (evb_compNone (x := "digit") (P := fun B' us => us = vs ∧ B.le B') L.R.h ((ev_nameR (a := hr) hlh).up.mono fun B' v hB' ⟨hb, hv⟩ => ⟨hr, vs, n, hv, by rw [hb]; exact hB, by omega, rfl, hB'⟩) (by rfl) (by rfl) ?_) (fun _ _ => evb_nilI)) fun _ =>
    tst_or (tst_geF (b := 0 - (-(b : Nat) : Int)) ((evb_max (P := fun _ M => M = Ds ++ [0]) L.R.h hG (by unfold lawG; walk_at "gk") ((evb_addL (L := Ds) (M := [0]) (fun B' hB' => (ev_nameR (a := pr) hlp).up.mono fun B'' v _ ⟨h1, h2⟩ => ⟨pr, h2, by rw [h1]; exact hp.mono hB'⟩) (fun _ _ => evb_oneI ev_int) (by simp; omega)).mono fun B' v _ ⟨a, hv, hl⟩ => ⟨a, _, hv, hl, by simp, rfl⟩)).mono ?_) (fun B' hB' => ev_sub ev_int (ev_baseI L (hb.mono hB')))) fun _ =>
    tst_or (tst_eqL (L.R.less (by decide)) (evb_tail1 hp (by omega) (ev_nameR hlp)) (fun _ _ => evb_oneI ev_int)) fun _ => tst_or_nil) ?_) next
  · rintro c' B' _ i v B₃ mu' ⟨rfl, hB'⟩ hvi hB₃
    obtain ⟨d, hd, q, rfl, lq, hq, hlq⟩ := (hv.mono (hB'.trans hB₃)).get hvi
    have h0 := hds d (List.mem_of_getElem? hd)
    exact tst_bool (ev_tup (j := 0) (P := VB false) hq (ev_nameR (by walk_at "lk")) rfl (congrArg Value.bool (decide_eq_false (by omega))) (by decide))
  · rintro B' v - ⟨_, M, rfl, hM, hv⟩
    refine ⟨M, ?_, hv⟩
    rcases List.mem_append.mp hM with hM | hM
    · have := hds M hM; omega
    · rw [List.mem_singleton.mp hM]; omega
  · simp [hlast]
/-- rows that say the carry's result -/
theorem seg8 {w' b : Nat} {tb : Tok} {z : Int} {lr pr : Addr} {st : Stmt} (hst : lawBody[8]? = some st) (L : Law X mg A1 A2) (hw : 4 ≤ w') (hb : CellIs B A2 (.int (-(b : Nat)) tb)) (hll : Lk "later" (.ref lr) l) (hlp : Lk "plain" (.ref pr) l) (hh : DL w' B lr (nd b 40 (z + 1))) (hp : IL B pr (nd b 40 z)) (hb2 : 2 ≤ b) (hb9 : b ≤ 9) (hz1 : -2000 ≤ z) (hz2 : z ≤ 2000)
    (next : Ex X B mu l rest K) : Ex X B mu l (st :: rest) K := by
  have e := Option.some.inj (hst.symm.trans (show lawBody[8]? = some _ from by rfl))
  subst e
  have hG : X.c.G = lawG mg := L.G
  have hd := done_all hb2 (z := z) (by omega) (by omega)
  have hd' := done_all hb2 (z := z + 1) (by omega) (by omega)
  have hfu : nd b 39 (z + 1) = nd b 40 (z + 1) := nd_fuel hd' hd'.succ
  have hlen := nd_length (b : Int) 40 z
  have hnat : znat ((nd b 40 z).map Int.toNat) = nd b 40 z := by
    rw [znat, List.map_map]
    conv => rhs; rw [← List.map_id (nd b 40 z)]
    refine List.map_congr_left fun d hd => ?_
    exact Int.toNat_of_nonneg (nd_range hb2 40 z d hd).1
  refine ex_skip (tst_of (tst_neL (L := nd b 40 (z + 1)) (M := nd b 40 (z + 1)) (L.R.less (by decide)) ?_ (fun B' hB' => evb_plain L hw hll (hh.mono hB') (by have := nd_length (b : Int) 40 (z + 1); omega) (fun d hd => by have := nd_range hb2 40 (z + 1) d hd; omega) (by rfl) (by rfl) (by rfl))) (by simp)) next
  refine (evb_call (post := fun B' v => ∃ r M, v = .ref r ∧ NL B' r M ∧ znat M = nd b 39 (z + 1)) (n := 7) (P := fun B' vs => vs = [.ref pr, .int (-(b : Nat)) tb] ∧ B.le B') (L.R.less (by decide)) hG (by unfold lawG; walk_at "gk") (f_more L.Y).2
    (evs_cons (P := VR pr) (ev_nameR hlp) fun _ h1 => evs_cons (P := fun v => v = .int (-(b : Nat)) tb) (ev_base L hb) fun _ h2 => evs_nil ⟨by rw [h1, h2], PH.le.refl _⟩) ?_).mono ?_
  · rintro B₁ _ - ⟨rfl, hB1⟩
    exact more_spec L.Y hb2 hb9 (z := z) (L := (nd b 40 z).map Int.toNat) (by unfold NL; rw [hnat]; exact hp.mono hB1) hnat (by rw [List.length_map]; exact hlen) hd hd'
  · rintro B' v - ⟨r, M, rfl, hr, hM⟩
    refine ⟨r, rfl, ?_⟩
    rw [← hfu, ← hM]
    exact hr
end
end
end
section
open PySem PySem.W PyProof.Rows PySem.Calls
set_option maxRecDepth 100000
set_option maxHeartbeats 1000000
section
section
variable {X : Cx} {mg : Str → Option Value} {A1 A2 : Addr} {B : PH} {mu : List (Addr × Obj)} {l : Locs} {rest : List Stmt} {K : Kont} {G : List (Str × Value)} {e f : Expr} {p pos : Pos}
/-- sum(e), e makes a list of ints -/
theorem ev_sumB {L : List Int} (hh : X.A.handled = none) (hG : X.c.G = G) (hv : Gk "sum" (.builtin "sum") G) (he : EvB X B mu l e (fun B' v => ∃ a, v = .ref a ∧ IL B' a L))
    (hs : starEach [e] X.c.env = [(false, eval e X.c.env)] := by rfl) : Ev X B mu l (.Call (.Name "sum" p) [e] [] pos) (VI L.sum) := by
  refine .mk fun s Q S k => ?_
  refine r_callB S hG hv (args_cons (he.run s _ S fun v s' B' ⟨a, hv, hl⟩ S' hb => args_nil ?_) hs) hs
  subst hv
  obtain ⟨vs, n, hB, hi⟩ := hl
  obtain ⟨xs, hx⟩ := hi.allInts.items
  have hn := hi.numsOf
  rw [show vs = vs.toArray.toList from rfl, hx, nums_intItems] at hn
  refine sum_intListG hh (hx ▸ S'.isList hB) fun h' tk t' hk => ?_
  rw [preSum_eq, List.take_of_length_le (by simp), hn]
  exact k _ _ ⟨t', rfl⟩ ((S'.less hb S.ext).heap tk hk)
noncomputable def terms (b : Nat) (row : List Nat) : List Int := (List.range row.length).map fun i => ((row.getD i 0 : Nat) : Int) * (-(b : Nat) : Int) ^ i
theorem rows_len (b : Nat) : (rowsL b 2).length = b * b := by
  rw [rowsL, flat_le, rowsL, flat_le]
  simp [rowsL]
theorem rows_small {b : Nat} : ∀ row ∈ rowsL b 2, ∀ i, row.getD i 0 ≤ b := by
  intro row hr i
  have h1 : ∀ r ∈ rowsL b 2, ∀ d ∈ r, d < b := by
    intro r hr d hd
    simp only [rowsL, List.mem_flatMap, List.mem_map, List.mem_singleton, List.mem_range] at hr
    obtain ⟨r1, ⟨r0, rfl, d0, h0, rfl⟩, d1, h1, rfl⟩ := hr
    simp at hd
    rcases hd with rfl | rfl
    · exact h0
    · exact h1
  rw [List.getD_eq_getElem?_getD]
  cases h : row[i]? with
  | none => exact Nat.zero_le _
  | some d => exact Nat.le_of_lt (h1 row hr d (List.mem_of_getElem? h))
theorem terms_told {b : Nat} (hb : 2 ≤ b) (hb9 : b ≤ 9) : (rowsL b 2).map (fun row => (terms b row).sum) = toldL b := by
  rcases (show b = 2 ∨ b = 3 ∨ b = 4 ∨ b = 5 ∨ b = 6 ∨ b = 7 ∨ b = 8 ∨ b = 9 by omega) with rfl | rfl | rfl | rfl | rfl | rfl | rfl | rfl <;> decide +kernel
theorem seg9 {b : Nat} {tb : Tok} {st : Stmt} (hst : lawBody[9]? = some st) (L : Law X mg A1 A2) (hb : CellIs B A2 (.int (-(b : Nat)) tb)) (hb2 : 2 ≤ b) (hb9 : b ≤ 9)
    (next : ∀ B' r, B.le B' → IL B' r (upL b) → ∃ l', Put "told" (.ref r) l l' ∧ Ex X B' mu l' rest K) : Ex X B mu l (st :: rest) K := by
  have e := Option.some.inj (hst.symm.trans (show lawBody[9]? = some _ from by rfl))
  subst e
  have hG : X.c.G = lawG mg := L.G
  have hbb : b * b ≤ 81 := Nat.mul_le_mul hb9 hb9
  refine ex_asg (evb_told hb2 hb9 hG (by unfold lawG; walk_at "gk") ((evb_compL (X := X) (x := "row") (cl := [("base", A2)]) (G' := [("sum", .builtin "sum"), ("enumerate", .type "enumerate")]) (P := fun B' vs => B.le B' ∧ Al2 (TR B') vs (rowsL b 2)) L.R.h
    ((evb_call (post := fun B' v => ∃ r vs n, v = .ref r ∧ B' r = some (listOf (List.toArray vs) n) ∧ Al2 (TR B') vs (rowsL b 2)) (n := 7) (P := fun B' vs => ∃ t t', vs = [.int (b : Nat) t, .int (2 : Nat) t']) (L.R.less (by decide)) hG (by unfold lawG; walk_at "gk") (f_rows L.Y).2
      (evs_cons (P := VI (b : Nat)) (ev_vi (ev_sub ev_int (ev_baseI L hb)) (by omega)) fun _ h1 => evs_cons (P := VI (2 : Nat)) ev_int fun _ h2 => evs_nil ?_) ?_).mono ?_)
    (closureFor_one (x := "base") [(".0", .local), ("row", .local), ("sum", .globalImplicit), ("enumerate", .globalImplicit)] rfl (by decide) L.c2) (by rfl) ?_
    (fun _ i _ us => IntsAre us (((rowsL b 2).take i).map fun row => (terms b row).sum)) (fun _ _ _ _ _ _ h => h) (fun _ _ _ _ => .nil) ?_).mono ?_)) ?_
  · obtain ⟨t, rfl⟩ := h1
    obtain ⟨t', rfl⟩ := h2
    exact ⟨t, t', rfl⟩
  · rintro B₁ _ - ⟨t, t', rfl⟩
    exact rows_spec L.Y hb9 (by decide)
  · rintro B' v hB' ⟨r, vs, n, rfl, hr, hv⟩
    exact ⟨r, vs, n, rfl, hr, by rw [hv.length, rows_len]; omega, hB', hv⟩
  · intro q hq
    rcases List.mem_cons.mp hq with rfl | hq
    · exact compG L (by rfl) (g_sum L.Y)
    · rw [List.mem_singleton.mp hq]
      exact compG L (by rfl) (g_enumerate L.Y)
  · rintro c' B' vs i v B₃ us mu' hB' ⟨hBB, hal⟩ hW hG' hc hk hvi hB₃ hus
    obtain ⟨row, hrow, t, ts, rfl, ht, hts⟩ := hal.get hvi
    have hrl := rowsL_len (List.mem_of_getElem? hrow)
    have htl : ts.length = 2 := by rw [hts.length, List.length_map, hrl]
    refine .mk fun s Q S k => ?_
    have hkf : c'.env.scope.kind = .function := S.ok.kind
    have hkb : c'.env.kindOf ("base" : Str) = some .cell := (hk _).trans (relabel_free (by rfl) L.k L.k2)
    have hb' := (hb.mono hBB).mono hB₃
    refine ((ev_sumB (X := ⟨X.prog, X.w, X.A, c'⟩) (L := terms b row) L.R.h hG' (by walk_at "gk") ((evb_compET (X := ⟨X.prog, X.w, X.A, c'⟩) (x := "at") (y := "digit") (cl := [("base", A2)]) (G' := []) (a := t) (vs := ts) L.R.h hG' (by walk_at "gk") (ev_nameR (by walk_at "lk")) (hB₃ _ _ ht) (by omega) (by decide)
      (closureFor_one (x := "base") [(".0", .local), ("at", .local), ("digit", .local)] rfl (by decide) (by rw [hc]; rfl)) (by rfl) (by rfl) (fun _ h => nomatch h)
      (fun i _ us => IntsAre us ((terms b row).take i)) (fun _ _ _ _ _ h => h) .nil ?_).mono ?_)).up.mono ?_).run s Q S k
    · rintro c'' j d tk B₄ us' mu'' hW2 hG2 hc2 hk2 hdj hB₄ hus'
      have hkb2 : c''.env.kindOf ("base" : Str) = some .cell := (hk2 _).trans (relabel_free (by rfl) hkf hkb)
      obtain ⟨n, tn, hn, rfl⟩ := ints_nth hts hdj
      have hj : j < row.length := by
        have := (List.getElem?_eq_some_iff.mp hn).1
        rwa [List.length_map] at this
      have hn' : n = ((row.getD j 0 : Nat) : Int) := by
        rw [List.getElem?_map, List.getElem?_eq_getElem hj] at hn
        have := Option.some.inj hn
        rw [← this, List.getD_eq_getElem?_getD, List.getElem?_eq_getElem hj]
        rfl
      obtain ⟨ob, e1, e2⟩ := hb'.mono hB₄
      have hsm := rows_small row (List.mem_of_getElem? hrow) j
      refine (ev_mul (X := ⟨X.prog, X.w, X.A, c''⟩) (a := n) (b := (-(b : Nat) : Int) ^ j) (ev_nameI (by walk_at "lk")) (ev_vi (ev_pow (a := (-(b : Nat) : Int)) (b := (j : Nat)) ((ev_cell hkb2 (by rw [hc2]; rfl) e1 e2).mono fun _ h => ⟨tb, h⟩) (ev_nameI (by walk_at "lk")) (Int.natCast_nonneg _) (by omega) ?_) (by rw [Int.toNat_natCast])) ?_).up.mono ?_
      · exact Nat.lt_of_le_of_lt (show (-(b : Nat) : Int).natAbs ≤ 9 by omega) (by decide)
      · exact Nat.lt_of_le_of_lt (show n.natAbs ≤ 9 by omega) (by decide)
      · rintro B₅ u - ⟨-, tu, rfl⟩
        have htj : (terms b row)[j]? = some (n * (-(b : Nat) : Int) ^ j) := by
          rw [terms, List.getElem?_map, List.getElem?_range hj, hn']
          rfl
        rw [take_snoc htj]
        exact intsAre_snoc hus' _ _
    · rintro B₅ u - ⟨r, us', n', rfl, hr, -, hin⟩
      have : (terms b row).length ≤ ts.length := by rw [terms, List.length_map, List.length_range, hrl, htl]; exact Nat.le_refl _
      rw [List.take_of_length_le this] at hin
      exact ⟨r, rfl, us', n', hr, hin⟩
    · rintro B₅ u - ⟨-, tu, rfl⟩
      rw [take_snoc hrow, List.map_append]
      exact intsAre_snoc hus _ _
  · rintro B' v - ⟨r, us, n, vs, rfl, hr, -, hin, B₀, -, ⟨-, hal⟩, -⟩
    rw [hal.length, List.take_of_length_le (Nat.le_refl _), terms_told hb2 hb9] at hin
    exact ⟨r, rfl, us, n, hr, hin⟩
  · rintro B' _ hB' ⟨r, rfl, hr⟩
    exact next B' r hB' hr
end
end
end
section
open PySem PySem.W PyProof.Rows PySem.Calls
set_option maxRecDepth 100000
set_option maxHeartbeats 1000000
section
section
variable {X : Cx} {mg : Str → Option Value} {A1 A2 : Addr} {B : PH} {mu : List (Addr × Obj)} {l : Locs} {rest : List Stmt} {K : Kont} {G : List (Str × Value)} {e f : Expr} {p pos : Pos}
theorem Evs.mono {es : List Expr} {P P' : PH → List Value → Prop} (h : Evs X B mu l es P) (hp : ∀ B' vs, B.le B' → P B' vs → P' B' vs) : Evs X B mu l es P' := .mk fun s pos _ S k => h.run s pos _ S fun vs s' B' p S' hb => k vs s' B' (hp B' vs hb p) S' hb
/-- e[k], e a frozen list of ints -/
theorem ev_itemL {i : Expr} {a : Addr} {L : List Int} {k : Nat} (he : Ev X B mu l e (VR a)) (hl : IL B a L) (hi : Ev X B mu l i (VI k)) (h1 : k < L.length) (hz : L.length ≤ 1000000)
    (hs : ∀ k u, subscripted i false (.ref a) (.int k u) = operate [.ref a, .int k u] (getItem (.ref a) (.int k u)) := by intro _ _; with_unfolding_all rfl) : Ev X B mu l (.Subscript e i pos) (VI (L.getD k 0)) :=
  ev_at he hi fun u s Q S k' => r_itemI S hl (Int.natCast_nonneg k) (by omega) hz (fun t => k' _ s ⟨t, rfl⟩ S) (hs _ u)
/-- e[-1], e a frozen list of ints -/
theorem ev_lastL {k : Nat} {p0 p1 : Pos} {a : Addr} {L : List Int} (he : Ev X B mu l e (VR a)) (hl : IL B a L) (h0 : 0 < L.length) (hz : L.length ≤ 1000000)
    (hs : ∀ k u, subscripted (.UnaryOp .USub (.Constant (.int 1) k p0) p1) false (.ref a) (.int (-1) u) = operate [.ref a, .int (-1) u] (getItem (.ref a) (.int (-1) u)) := by intro _ _; with_unfolding_all rfl) :
    Ev X B mu l (.Subscript e (.UnaryOp .USub (.Constant (.int 1) k p0) p1) pos) (VI (L.getD (L.length - 1) 0)) :=
  ev_at he (ev_neg ev_int) fun u s Q S k' => by
    obtain ⟨vs, n, hB, hI⟩ := hl
    have hlen := hI.length
    obtain ⟨t, ht⟩ := hI.get (L.length - 1) (L.getD (L.length - 1) 0) (by rw [List.getD_eq_getElem?_getD, List.getElem?_eq_getElem (by omega)]; rfl)
    have hL := S.isList hB
    refine tail_any hL.typeIs slot_list_getitem.lookup (wpAny_getItem_list_neg hL (by decide) (by rw [List.size_toArray]; omega) (by decide) ?_ (k' _ s ⟨t, rfl⟩ S)) (hs _ u)
    rw [List.size_toArray, show ((-1 : Int) + (vs.length : Int)).toNat = L.length - 1 by omega]
    simpa using ht
/-- len(e), e makes a list -/
theorem ev_lenB {n : Nat} (hG : X.c.G = G) (hv : Gk "len" (.builtin "len") G) (he : EvB X B mu l e (fun B' v => ∃ a vs k, v = .ref a ∧ B' a = some (listOf (List.toArray vs) k) ∧ vs.length = n)) (hz : n ≤ 1000)
    (hs : starEach [e] X.c.env = [(false, eval e X.c.env)] := by rfl) : Ev X B mu l (.Call (.Name "len" p) [e] [] pos) (VI n) := by
  refine .mk fun s Q S k => ?_
  refine r_callB S hG hv (args_cons (he.run s _ S fun v s' B' ⟨a, vs, m, hv, hl, hn⟩ S' hb => args_nil ?_) hs) hs
  subst hv hn
  exact r_len S' (S'.isList hl) (by omega) fun t s'' S'' => k _ s'' ⟨t, rfl⟩ (S''.less hb S.ext)
theorem upL_len (b : Nat) : (upL b).length = b * b := by rw [upL, List.length_map, List.length_range]
theorem upL_at {b i : Nat} (h : i < b * b) : (upL b).getD i 0 = -((b * (b - 1) : Nat) : Int) + i := by
  rw [upL, List.getD_eq_getElem?_getD, List.getElem?_map, List.getElem?_range h]
  rfl
theorem nine {P : Nat → Prop} {b : Nat} (hb : 2 ≤ b) (hb9 : b ≤ 9) (h : P 2 ∧ P 3 ∧ P 4 ∧ P 5 ∧ P 6 ∧ P 7 ∧ P 8 ∧ P 9) : P b := by
  rcases (show b = 2 ∨ b = 3 ∨ b = 4 ∨ b = 5 ∨ b = 6 ∨ b = 7 ∨ b = 8 ∨ b = 9 by omega) with rfl | rfl | rfl | rfl | rfl | rfl | rfl | rfl
  · exact h.1
  · exact h.2.1
  · exact h.2.2.1
  · exact h.2.2.2.1
  · exact h.2.2.2.2.1
  · exact h.2.2.2.2.2.1
  · exact h.2.2.2.2.2.2.1
  · exact h.2.2.2.2.2.2.2
theorem seg10 {b : Nat} {tb : Tok} {tr : Addr} {st : Stmt} (hst : lawBody[10]? = some st) (L : Law X mg A1 A2) (hb : CellIs B A2 (.int (-(b : Nat)) tb)) (hlt : Lk "told" (.ref tr) l) (ht : IL B tr (upL b)) (hb2 : 2 ≤ b) (hb9 : b ≤ 9)
    (next : Ex X B mu l rest K) : Ex X B mu l (st :: rest) K := by
  have e := Option.some.inj (hst.symm.trans (show lawBody[10]? = some _ from by rfl))
  subst e
  have hG : X.c.G = lawG mg := L.G
  have hbb : b * b ≤ 81 := Nat.mul_le_mul hb9 hb9
  have hpos : 0 < b * b := Nat.mul_pos (by omega) (by omega)
  have hr : Builtin.Range.small (-((b * (b - 1) : Nat) : Int)) (-((b * (b - 1) : Nat) : Int) + -(b : Nat) * -(b : Nat)) 1 = true ∧ Builtin.Range.rangeSize (-((b * (b - 1) : Nat) : Int)) (-((b * (b - 1) : Nat) : Int) + -(b : Nat) * -(b : Nat)) 1 = (b * b : Nat) :=
    nine (P := fun b => Builtin.Range.small (-((b * (b - 1) : Nat) : Int)) (-((b * (b - 1) : Nat) : Int) + -(b : Nat) * -(b : Nat)) 1 = true ∧ Builtin.Range.rangeSize (-((b * (b - 1) : Nat) : Int)) (-((b * (b - 1) : Nat) : Int) + -(b : Nat) * -(b : Nat)) 1 = (b * b : Nat)) hb2 hb9 (by decide)
  have h0 : ∀ B', B.le B' → ∀ {pn pc ps : Pos} {kk : Nat}, Ev X B' mu l (.Subscript (.Name "told" pn) (.Constant (.int ((0 : Nat) : Int)) kk pc) ps) (VI (-((b * (b - 1) : Nat) : Int))) := fun B' hB' pn pc ps kk =>
    ev_vi (ev_itemL (k := 0) (ev_nameR hlt) (ht.mono hB') ev_int (by rw [upL_len]; exact hpos) (by rw [upL_len]; omega)) (by rw [upL_at hpos]; omega)
  refine ex_skip (tst_of (tst_neL (L := upL b) (M := upL b) (L.R.less (by decide)) ((ev_nameR (a := tr) hlt).up.mono fun B' v _ ⟨h1, h2⟩ => ⟨tr, h2, by rw [h1]; exact ht⟩) (fun B' hB' => (evb_listR (n := b * b) L.R.h hG (by unfold lawG; walk_at "gk") (by unfold lawG; walk_at "gk") (h0 B' hB') (ev_add (h0 B' hB') (ev_mul (ev_baseI L (hb.mono hB')) (ev_baseI L (hb.mono hB')) ?_)) hr.1 hr.2 (by omega)).mono fun _ _ _ h => h)) (by simp)) next
  exact Nat.lt_of_le_of_lt (show (-(b : Nat) : Int).natAbs ≤ 9 by omega) (by decide)

theorem ends_len {b : Nat} (hb : 2 ≤ b) (hb9 : b ≤ 9) : (nd b 40 (-((b * (b - 1) : Nat) : Int))).length = 2 ∧ (nd b 40 ((b - 1 : Nat) : Int)).length = 1 :=
  nine (P := fun b => (nd b 40 (-((b * (b - 1) : Nat) : Int))).length = 2 ∧ (nd b 40 ((b - 1 : Nat) : Int)).length = 1) hb hb9 (by decide +kernel)
theorem seg11 {w' b : Nat} {tw tb : Tok} {tr : Addr} {lf : Option Value → Locs} {o : Option Value} {st : Stmt} (hst : lawBody[11]? = some st) (L : Law X mg A1 A2) (hb : CellIs B A2 (.int (-(b : Nat)) tb)) (hlt : Lk "told" (.ref tr) (lf o)) (hlw : ∀ o, Lk "w" (.int w' tw) (lf o)) (hl1 : ∀ v, Lk "one" v (lf (some v))) (hput : ∀ o v, Put "one" v (lf o) (lf (some v)))
    (ht : IL B tr (upL b)) (hw : 4 ≤ w') (hw2 : w' ≤ 8) (hb2 : 2 ≤ b) (hb9 : b ≤ 9)
    (next : ∀ B' o, B.le B' → Ex X B' mu (lf o) rest K) : Ex X B mu (lf o) (st :: rest) K := by
  have e := Option.some.inj (hst.symm.trans (show lawBody[11]? = some _ from by rfl))
  subst e
  have hG : X.c.G = lawG mg := L.G
  have hbb : b * b ≤ 81 := Nat.mul_le_mul hb9 hb9
  have hpos : 0 < b * b := Nat.mul_pos (by omega) (by omega)
  have hends := ends_len hb2 hb9
  have hsm : b * (b - 1) ≤ 81 := Nat.mul_le_mul hb9 (show b - 1 ≤ 9 by omega)
  have hlast : -((b * (b - 1) : Nat) : Int) + (b * b - 1 : Nat) = ((b - 1 : Nat) : Int) := nine (P := fun b => -((b * (b - 1) : Nat) : Int) + (b * b - 1 : Nat) = ((b - 1 : Nat) : Int)) hb2 hb9 (by decide)
  refine ex_forT (x := "one") (P := fun _ _ vs => ∃ t t', vs = [.int (-((b * (b - 1) : Nat) : Int)) t, .int ((b - 1 : Nat) : Int) t']) L.R.h ((evb_tuple (P := fun _ vs => ∃ t t', vs = [.int (-((b * (b - 1) : Nat) : Int)) t, .int ((b - 1 : Nat) : Int) t'])
    ((evs2 (P := VI (-((b * (b - 1) : Nat) : Int))) (P' := VI ((b - 1 : Nat) : Int)) (ev_vi (ev_itemL (k := 0) (ev_nameR hlt) ht ev_int (by rw [upL_len]; exact hpos) (by rw [upL_len]; omega)) (by rw [upL_at hpos]; omega))
      (ev_vi (ev_lastL (ev_nameR hlt) ht (by rw [upL_len]; exact hpos) (by rw [upL_len]; omega)) (by rw [upL_len, upL_at (by omega)]; exact hlast))).mono ?_) (by rintro _ _ ⟨_, _, rfl⟩; simp)).mono ?_)
    (fun _ _ i B' mu' l' => B.le B' ∧ mu' = mu ∧ ∃ o, l' = lf o) ?_
  · rintro B' vs - ⟨rfl, _, _, rfl, ⟨t, rfl⟩, t', rfl⟩
    exact ⟨t, t', rfl⟩
  · rintro B' v - ⟨B₁, a, vs, hvs, _, _, rfl, ha⟩
    exact ⟨a, vs, rfl, ha, hvs⟩
  rintro B' a vs hB' ⟨t, t', rfl⟩
  refine ⟨⟨hB', rfl, o, rfl⟩, ?_, ?_⟩
  · rintro i v B₁ _ _ its hv hB₁ ⟨hBB, rfl, o', rfl⟩
    refine ⟨_, hput o' v, ?_⟩
    have key : ∃ z t, v = .int z t ∧ -2048 ≤ z ∧ z ≤ 2048 ∧ (nd b 40 z).length ≤ 2 ∧ nd b 40 z ≠ [] := by
      match i, hv with
      | 0, hv => cases hv; exact ⟨_, t, rfl, by omega, by omega, by omega, fun q => by rw [q] at hends; cases hends.1⟩
      | 1, hv => cases hv; exact ⟨_, t', rfl, by omega, by omega, by omega, fun q => by rw [q] at hends; cases hends.2⟩
      | i + 2, hv => simp at hv
    obtain ⟨z, tz, rfl, hz1, hz2, hln, hne⟩ := key
    refine ex_skip (tst_of (tst_gt (ev_lenB (n := (nd b 40 z).length) hG (by unfold lawG; walk_at "gk") (evb_orL ((evb_digits (z := z) L (hb.mono hBB) (hlw _) hw hw2 hb2 hb9 (fun _ _ => ev_nameI (hl1 _)) hz1 hz2).mono ?_)) (by omega)) ev_int) (decide_eq_false (by omega))) (ex_nil ⟨_, rfl, hBB, rfl, _, rfl⟩)
    rintro B₂ v - ⟨r, rfl, vs, n, hr, hv⟩
    refine ⟨⟨r, vs, n, rfl, hr, fun q => hne (List.eq_nil_of_length_eq_zero (by rw [← hv.length, q]; rfl)), by rw [hv.length]; omega⟩, r, vs, n, rfl, hr, hv.length⟩
  · rintro B₁ _ _ hB₁ ⟨hBB, rfl, o', rfl⟩
    exact next B₁ o' hBB
end
end
end
section
open PySem PySem.W PyProof.Rows PySem.Calls
set_option maxRecDepth 100000
set_option maxHeartbeats 1000000
section
section
variable {X : Cx} {mg : Str → Option Value} {A1 A2 : Addr} {B : PH} {mu : List (Addr × Obj)} {l : Locs} {rest : List Stmt} {K : Kont} {G : List (Str × Value)} {e f : Expr} {p pos : Pos}
/-- one of the pair's numbers, by draws -/
noncomputable def pv (Ld : List Nat) (i : Nat) : Int := (dr Ld (4 + 2 * i) 19 : Nat) * (1 - 2 * (dr Ld (4 + 2 * i + 1) 2 : Nat))
theorem pv_bd (Ld : List Nat) (i : Nat) : -18 ≤ pv Ld i ∧ pv Ld i ≤ 18 := by
  have h1 : dr Ld (4 + 2 * i) 19 < 19 := dr_lt (by decide)
  have h2 : dr Ld (4 + 2 * i + 1) 2 < 2 := dr_lt (by decide)
  unfold pv
  rcases (show dr Ld (4 + 2 * i + 1) 2 = 0 ∨ dr Ld (4 + 2 * i + 1) 2 = 1 by omega) with h | h <;> rw [h] <;> omega
theorem seg12 {lake a n : Nat} {t : Tok} {Ld : List Nat} {st : Stmt} (hst : lawBody[12]? = some st) (L : Law X mg A1 A2) (hl : CellIs B A1 (.ref lake)) (hL : NL B a Ld) (hz : Ld.length ≤ 8)
    (next : ∀ B' tx ty t n, B.le B' → ∃ l₁ l₂, Put "x" (.int (pv Ld 0) tx) l l₁ ∧ Put "y" (.int (pv Ld 1) ty) l₁ l₂ ∧ Ex X B' ((lake, lakeO 8 t a n) :: mu) l₂ rest K) :
    Ex X B ((lake, lakeO 4 t a n) :: mu) l (st :: rest) K := by
  have e := Option.some.inj (hst.symm.trans (show lawBody[12]? = some _ from by rfl))
  subst e
  have hG : X.c.G = lawG mg := L.G
  obtain ⟨h1, h2⟩ := range_up (a := 0) (b := 2) (by decide) (by decide) (by decide)
  refine ex_cons fun s S => Assign_Tuple (r_comp (mv := [(lake, lakeO 4 t a n)]) (mu0 := mu) (l := l) (cl := [("lake", A1)]) ["turn"] [("_law_mirrored", .ref (adr mg "_law_mirrored"))] L.R.h
    (closureFor_one (x := "lake") [(".0", .local), ("turn", .local), ("_law_mirrored", .globalImplicit)] rfl (by decide) L.c1) (by simp) (fun y hy => by rw [List.mem_singleton.mp hy]; rfl)
    (fun q hq => by rw [List.mem_singleton.mp hq]; exact compG L (by rfl) (f_mirrored L.Y).1) ?_)
  refine ev_range1 hG (by unfold lawG; walk_at "gk") (ev_int (i := 2)) (by rfl) s _ S fun r s' t0 u0 v0 S' hr => ?_
  refine src_range (target := .Name "turn" ⟨250, 75, 250, 79⟩) L.R.h (fun _ _ => rfl) S' hr h1 h2 fun it its H s₂ S₂ hH X' => ?_
  refine ⟨B, its, 2, H, _, fun i _ mv us => ∃ t n, mv = [(lake, lakeO (4 + 2 * i) t a n)] ∧ IntsAre us ((List.range i).map (pv Ld)), S₂, hH, X', by decide, ⟨t, n, rfl, .nil⟩, ?_, ?_⟩
  · rintro c' i v B₃ B₄ mv₁ us l₁ its' D n' s3 hW hG' hc hk hi hB hB' ⟨t1, n1, rfl, hus⟩ ⟨rfl, tk, rfl⟩ hl1 hm S3
    obtain ⟨o, rfl⟩ := one_loc hl1
    refine r_asgName S3 Put.here fun s4 S4 => wpAny_tests_nil ?_
    rw [if_pos rfl]
    have hkl : c'.env.kindOf ("lake" : Str) = some .cell := (hk _).trans (relabel_free (by rfl) L.k L.k1)
    have hcl : c'.env.cells.lookup ("lake" : Str) = some A1 := by rw [hc]; rfl
    have Y' : Wd mg c'.W := by rw [hW]; exact L.Y
    obtain ⟨ob, e1, e2⟩ := hl.mono (hB.trans hB')
    have hLd := hL.mono (hB.trans hB')
    refine (EvL.run (X := ⟨X.prog, X.w, X.A, c'⟩) (m1 := [(D, listOf (List.toArray us) n')]) (m2 := its') (lake := lake) (a := a) (k := 4 + 2 * i) (k' := 4 + 2 * i + 1 + 1) (i := pv Ld i)
      (el_mul (el_draw (many := 19) Y' (L.R.less (by decide)) hG' (by walk_at "gk") (fun _ => ev_cell hkl hcl e1 e2) hLd (by omega) (by omega) (by decide))
        (el_sub el_int (el_mul el_int (el_draw (many := 2) Y' (L.R.less (by decide)) hG' (by walk_at "gk") (fun _ => ev_cell hkl hcl e1 e2) hLd (by omega) (by omega) (by decide)) (by decide)))
        (Nat.lt_of_lt_of_le (dr_lt (by decide)) (by decide))) s4 t1 n1 _ S4 fun tv t' n'' s5 S5 => ?_)
    refine ⟨_, [(lake, lakeO (4 + 2 * i + 1 + 1) t' a n'')], _, PH.le.refl _, rfl, rfl, S5, t', n'', rfl, ?_⟩
    rw [List.range_succ, List.map_append]
    exact intsAre_snoc hus _ _
  · rintro B₃ mv₁ us D n' hB hm ⟨t1, n1, rfl, hus⟩ hul s3 S3
    obtain ⟨S4, hle⟩ := S3.freeze
    obtain ⟨tx, ty, rfl⟩ : ∃ tx ty, us = [.int (pv Ld 0) tx, .int (pv Ld 1) ty] := by
      have hus' : IntsAre us [pv Ld 0, pv Ld 1] := hus
      cases hus' with
      | cons _ tx h => cases h with
        | cons _ ty h => cases h; exact ⟨tx, ty, rfl⟩
    rw [PyProof.Rows.assign_Tuple]
    refine wpAny_bind (wpAny_standAt ?_)
    unfold unpack
    refine wpAny_bind (wpAny_holding (unpack2 L.R.h S4 (PH.add_self _ _ _) fun s5 S5 => ?_))
    obtain ⟨l₁, l₂, p1, p2, kk⟩ := next (B₃.add D (listOf [.int (pv Ld 0) tx, .int (pv Ld 1) ty].toArray n')) tx ty t1 n1 (hB.trans hle)
    exact inOrder_cons (r_asgName S5 p1 fun s6 S6 => inOrder_cons (r_asgName S6 p2 fun s7 S7 => inOrder_nil ⟨_, _, l₂, hB.trans hle, S7, kk⟩))
end
end
end
section
open PySem PySem.W PyProof.Rows PySem.Calls
set_option maxRecDepth 100000
set_option maxHeartbeats 1000000
section
theorem PDone.succ : ∀ {k : Nat} {x y : Int}, PDone k x y → PDone (k + 1) x y
  | 0, _, _, h => .inl h
  | _ + 1, _, _, .inl h => .inl h
  | _ + 1, _, _, .inr h => .inr (PDone.succ h)
section
variable {X : Cx} {mg : Str → Option Value} {A1 A2 : Addr} {B : PH} {mu : List (Addr × Obj)} {l : Locs} {rest : List Stmt} {K : Kont} {G : List (Str × Value)} {e f : Expr} {p pos : Pos}
theorem seg13 {w' : Nat} {tw tx ty : Tok} {x y : Int} {st : Stmt} (hst : lawBody[13]? = some st) (L : Law X mg A1 A2) (hlw : Lk "w" (.int w' tw) l) (hlx : Lk "x" (.int x tx) l) (hly : Lk "y" (.int y ty) l) (hw : 4 ≤ w') (hw2 : w' ≤ 8) (hx : -18 ≤ x ∧ x ≤ 18) (hy : -18 ≤ y ∧ y ≤ 18)
    (next : ∀ B' r, B.le B' → DL w' B' r (pd 60 x y) → ∃ l', Put "row" (.ref r) l l' ∧ Ex X B' mu l' rest K) : Ex X B mu l (st :: rest) K := by
  have e := Option.some.inj (hst.symm.trans (show lawBody[13]? = some _ from by rfl))
  subst e
  have hG : X.c.G = lawG mg := L.G
  have bx : Bd 1000 x := ⟨by omega, by omega⟩
  have by' : Bd 1000 y := ⟨by omega, by omega⟩
  refine ex_asg (evb_call (post := fun B' v => ∃ r, v = .ref r ∧ DL w' B' r (pd 60 x y)) (n := 9) (P := fun B' vs => ∃ a b t, vs = [.ref a, .ref b, .int w' t] ∧ SR w' B' a x ∧ SR w' B' b y) (L.R.less (by decide)) hG (by unfold lawG; walk_at "gk") (f_pdigits L.Y).2
    (evs_consB (EvU.at (eu_signed L.Y (by omega) hw2 (L.R.less (by decide)) hG (by unfold lawG; walk_at "gk") hlw (fun _ _ => ev_nameI hlx) (bx.abs (by decide)))) fun B₁ v hB₁ hv =>
      evs_consB (EvU.at (eu_signed L.Y (by omega) hw2 (L.R.less (by decide)) hG (by unfold lawG; walk_at "gk") hlw (fun _ _ => ev_nameI hly) (by'.abs (by decide)))) fun B₂ u hB₂ hu => evs_cons (P := VI w') (ev_nameI hlw) fun _ h3 => evs_nil ?_) ?_) ?_
  · obtain ⟨a, rfl, ha⟩ := hv
    obtain ⟨b, rfl, hb⟩ := hu
    obtain ⟨t, rfl⟩ := h3
    exact ⟨a, b, t, rfl, ha.mono hB₂, hb⟩
  · rintro B₁ _ - ⟨a, b, t, rfl, ha, hb⟩
    exact pair_digits_spec L.Y hw hw2 ha hb bx by' (pdone_all hx hy)
  · rintro B' _ hB' ⟨r, rfl, hr⟩
    exact next B' r hB' hr
theorem seg14 {w' : Nat} {tw tx ty : Tok} {x y : Int} {rr : Addr} {st : Stmt} (hst : lawBody[14]? = some st) (L : Law X mg A1 A2) (hlw : Lk "w" (.int w' tw) l) (hlx : Lk "x" (.int x tx) l) (hly : Lk "y" (.int y ty) l) (hlr : Lk "row" (.ref rr) l) (hw : 4 ≤ w') (hw2 : w' ≤ 8) (hx : -18 ≤ x ∧ x ≤ 18) (hy : -18 ≤ y ∧ y ≤ 18) (hr : DL w' B rr (pd 60 x y))
    (next : Ex X B mu l rest K) : Ex X B mu l (st :: rest) K := by
  have e := Option.some.inj (hst.symm.trans (show lawBody[14]? = some _ from by rfl))
  subst e
  have hG : X.c.G = lawG mg := L.G
  have bx : Bd 1000 x := ⟨by omega, by omega⟩
  have by' : Bd 1000 y := ⟨by omega, by omega⟩
  refine ex_skip (tst_of (b := false || (false || false)) (tst_or (tst_isNone (ev_name hlr ⟨_, rfl⟩)) fun _ => tst_or (tst_neP (w' := w') (x := x) (y := y) (L.R.less (by decide))
    (evb_call (n := 7) (P := fun B' vs => ∃ t, vs = [.ref rr, .int w' t] ∧ B.le B') (L.R.less (by decide)) hG (by unfold lawG; walk_at "gk") (f_pread L.Y).2 (evs_cons (P := VR rr) (ev_nameR hlr) fun _ h1 => evs_cons (P := VI w') (ev_nameI hlw) fun _ h3 => evs_nil ?_) ?_)
    (fun B' hB' => (evb_tuple (P := fun B₂ vs => ∃ a b, vs = [.ref a, .ref b] ∧ SR w' B₂ a x ∧ SR w' B₂ b y) (evs_consB (EvU.at (eu_signed L.Y (by omega) hw2 (L.R.less (by decide)) hG (by unfold lawG; walk_at "gk") hlw (fun _ _ => ev_nameI hlx) (bx.abs (by decide)))) fun B₁ v hB₁ hv =>
      evs_consB (EvU.at (eu_signed L.Y (by omega) hw2 (L.R.less (by decide)) hG (by unfold lawG; walk_at "gk") hlw (fun _ _ => ev_nameI hly) (by'.abs (by decide)))) fun B₂ u hB₂ hu => evs_nil ?_) ?_).mono ?_)) fun _ => tst_or_nil) rfl) next
  · obtain ⟨t, rfl⟩ := h3
    exact ⟨t, by rw [h1], PH.le.refl _⟩
  · rintro B₁ _ - ⟨t, rfl, hB1⟩
    have hd := (pdone_all hx hy).succ
    have := pair_read_spec (prog := X.prog) (w := X.w) (tw := t) L.Y (show 0 < w' by omega) hw2 (hr.mono hB1) (by have := pd_length 60 x y; omega) (pref_all 60 (pdone_all hx hy).succ hx hy) (fun d hd => by
      have := pd_range 60 x y d hd
      exact Nat.lt_of_le_of_lt (show d.natAbs ≤ 1 by omega) (by decide))
    rwa [pd_tell 60 x y hd] at this
  · obtain ⟨a, rfl, ha⟩ := hv
    obtain ⟨b, rfl, hb⟩ := hu
    exact ⟨a, b, rfl, ha.mono hB₂, hb⟩
  · rintro _ _ ⟨a, b, rfl, _⟩; simp
  · rintro B₂ v - ⟨B₁, q, vs, ⟨a, b, rfl, ha, hb⟩, _, hB, rfl, hq⟩
    exact ⟨q, a, b, rfl, hq, ha.mono hB, hb.mono hB⟩
end
end
end
section
open PySem PySem.W PyProof.Rows PySem.Calls
set_option maxRecDepth 100000
set_option maxHeartbeats 1000000
section
theorem rows3_small : (rowsL 2 3).all (fun row => row.all (· < 2)) = true := by decide
theorem pref3 : (rowsL 2 3).all (fun row => prefOk (row.map fun d : Nat => (d : Int))) = true := by decide +kernel
theorem Strs.snoc {vs : List Value} {ks : List Str} {k : Str} {t : Tok} (h : Strs vs ks) : Strs (vs ++ [.str k t]) (ks ++ [k]) := by
  refine ⟨by rw [List.length_append, List.length_append, h.1]; rfl, fun i v hv => ?_⟩
  by_cases hi : i < vs.length
  · rw [List.getElem?_append_left hi] at hv
    obtain ⟨k', t', h1, h2⟩ := h.2 i v hv
    exact ⟨k', t', by rw [List.getElem?_append_left (by rw [← h.1]; exact hi)]; exact h1, h2⟩
  · rw [List.getElem?_append_right (by omega)] at hv
    have h0 : i - vs.length = 0 := by
      have := (List.getElem?_eq_some_iff.mp hv).1
      rw [List.length_singleton] at this
      omega
    rw [h0] at hv
    cases hv
    refine ⟨k, t, ?_, rfl⟩
    rw [List.getElem?_append_right (by rw [← h.1]; omega), ← h.1, h0]
    rfl
section
variable {X : Cx} {mg : Str → Option Value} {A1 A2 : Addr} {B : PH} {mu : List (Addr × Obj)} {l : Locs} {rest : List Stmt} {K : Kont} {G : List (Str × Value)} {e f : Expr} {p pos : Pos}
theorem one_spec {w' : Nat} (hw : 4 ≤ w') {k kt : Nat} {k2 : Nat} {p0 p1 p2 pos : Pos} (h1 : starEach [.Constant (.bool false) k p0, .List [.Constant (.int 1) k2 p2] p1] X.c.env = (false, eval (.Constant (.bool false) k p0) X.c.env) :: starEach [.List [.Constant (.int 1) k2 p2] p1] X.c.env := by rfl)
    (h2' : starEach [.List [.Constant (.int 1) k2 p2] p1] X.c.env = (false, eval (.List [.Constant (.int 1) k2 p2] p1) X.c.env) :: starEach [] X.c.env := by rfl) (h3 : starEach [.Constant (.int 1) k2 p2] X.c.env = (false, eval (.Constant (.int 1) k2 p2) X.c.env) :: starEach [] X.c.env := by rfl) :
    EvB X B mu l (.Tuple [.Constant (.bool false) k p0, .List [.Constant (.int 1) k2 p2] p1] kt pos) (VS w' 1) :=
  (evb_tuple (P := fun B₂ vs => ∃ r, vs = [.bool false, .ref r] ∧ NL B₂ r [1]) (evs_cons (P := VB false) ev_bool (fun _ e1 => evs_consB (evb_list (evs1 ev_int h3) (by rintro _ _ ⟨_, _, rfl, _⟩; simp)) (fun B₁ v _ hv => evs_nil (by
    obtain ⟨_, r, _, ⟨_, _, rfl, t, rfl⟩, _, _, rfl, hr⟩ := hv
    exact ⟨r, by rw [e1], _, _, hr, .cons 1 t .nil⟩)) h2') h1) (by rintro _ _ ⟨r, rfl, _⟩; simp)).mono fun B₂ v _ ⟨B₁, p, vs, hv, _, hb, hp, ht⟩ => by
    obtain ⟨r, rfl, hr⟩ := hv
    exact ⟨p, hp, r, ht, by rw [show (1 : Int).natAbs = 1 from rfl, limbs_one (by omega) (by decide) (Nat.lt_of_lt_of_le (by decide : 1 < 2 ^ 4) (Nat.pow_le_pow_right (by decide) hw))]; exact hr.mono hb⟩
theorem seg16 {w' : Nat} {tw : Tok} {fr n0 : Nat} {lf : Option Value → Locs} {o : Option Value} {st : Stmt} (hst : lawBody[16]? = some st) (L : Law X mg A1 A2) (hlw : ∀ o, Lk "w" (.int w' tw) (lf o)) (hlp : ∀ o, Lk "pairs" (.ref fr) (lf o)) (hl1 : ∀ v, Lk "row" v (lf (some v))) (hput : ∀ o v, Put "row" v (lf o) (lf (some v))) (hw : 4 ≤ w') (hw2 : w' ≤ 8)
    (next : ∀ B' us n o, B.le B' → Strs us ((rowsL 2 3).map text3) → Ex X B' ((fr, listOf (List.toArray us) n) :: mu) (lf o) rest K) : Ex X B ((fr, listOf ([] : List Value).toArray n0) :: mu) (lf o) (st :: rest) K := by
  have e := Option.some.inj (hst.symm.trans (show lawBody[16]? = some _ from by rfl))
  subst e
  have hG : X.c.G = lawG mg := L.G
  refine ex_forL (x := "row") (P := fun B' _ vs => B.le B' ∧ Al2 (TR B') vs (rowsL 2 3)) L.R.h ((evb_call (post := fun B' v => ∃ r vs n, v = .ref r ∧ B' r = some (listOf (List.toArray vs) n) ∧ Al2 (TR B') vs (rowsL 2 3)) (n := 7) (P := fun B' vs => ∃ t t', vs = [.int (2 : Nat) t, .int (3 : Nat) t']) (L.R.less (by decide)) hG (by unfold lawG; walk_at "gk") (f_rows L.Y).2
      (evs_cons (P := VI (2 : Nat)) ev_int fun _ h1 => evs_cons (P := VI (3 : Nat)) ev_int fun _ h2 => evs_nil ?_) ?_).mono ?_)
    (fun _ _ i B' mu' l' => B.le B' ∧ ∃ us n, mu' = ((fr, listOf (List.toArray us) n) :: mu) ∧ Strs us (((rowsL 2 3).map text3).take i) ∧ ∃ o, l' = lf o) ?_
  · obtain ⟨t, rfl⟩ := h1
    obtain ⟨t', rfl⟩ := h2
    exact ⟨t, t', rfl⟩
  · rintro B₁ _ - ⟨t, t', rfl⟩
    exact rows_spec L.Y (by decide) (by decide)
  · rintro B' v hB' ⟨r, vs, n, rfl, hr, hv⟩
    exact ⟨r, vs, n, rfl, hr, hB', hv⟩
  rintro B' ra vs hB' ⟨-, hal⟩
  refine ⟨⟨hB', [], n0, rfl, ⟨rfl, fun i v h => by simp at h⟩, o, rfl⟩, ?_, ?_⟩
  · rintro i v B₁ _ _ its hvi hB₁ ⟨hBB, us, n, rfl, hus, o', rfl⟩ J hJ
    refine ⟨_, hput o' v, ?_⟩
    obtain ⟨row, hrow, t, ts, rfl, ht, hts⟩ := hal.get hvi
    have hmem := List.mem_of_getElem? hrow
    have hrl := rowsL_len hmem
    have htl : ts.length = 3 := by rw [hts.length, List.length_map, hrl]
    have hsm := List.all_eq_true.mp (List.all_eq_true.mp rows3_small row hmem)
    have hall := List.all_eq_true.mp all3 row hmem
    simp only [Bool.and_eq_true, decide_eq_true_eq] at hall
    obtain ⟨⟨⟨ha1, ha2⟩, ha3⟩, ha4⟩ := hall
    have hd1 := srD_small hw ha1
    have hd2 := srD_small hw ha2
    have hul : us.length ≤ 8 := by
      rw [hus.1, List.length_take, eight3]; omega
    have htxt : (PyData.tuple [srD w' (told3 row).1, srD w' (told3 row).2]).shown = text3 row := by rw [hd1, hd2]; rfl
    refine ex_append (P := fun _ v => ∃ t, v = .str (text3 row) t) L.hi (hlp _) ((ev_repr (w' := w') (x := (told3 row).1) (y := (told3 row).2) (L.R.less (by decide)) L.g hG (by unfold lawG; walk_at "gk")
      (evb_call (n := 7) (P := fun B₂ vs => ∃ a t, vs = [.ref a, .int w' t] ∧ DL w' B₂ a (row.map fun d : Nat => (d : Int))) (L.R.less (by decide)) hG (by unfold lawG; walk_at "gk") (f_pread L.Y).2
        (evs_consB (EvB.mono (P' := fun B₂ v => ∃ a, v = .ref a ∧ DL w' B₂ a (row.map fun d : Nat => (d : Int))) (evb_compT (X := X) (x := "one") (cl := []) (G' := []) (a := t) (vs := ts) L.R.h (ev_nameR (hl1 _)) (hB₁ _ _ ht) (by omega) (by rfl) (by rfl) (fun _ h => nomatch h)
          (fun j B₂ us' => VDs w' B₂ us' ((row.map fun d : Nat => (d : Int)).take j)) (fun _ _ _ _ hb h => h.mono hb) trivial ?_) ?_) fun B₂ v hB₂ hv => evs_cons (P := VI w') (ev_nameI (hlw _)) fun _ h3 => evs_nil ?_) ?_) ?_ ?_).up.mono ?_) (by omega) ?_
    · rintro c' j d B₃ us' mu' hW hG' hc hk hdj hB₃ hus'
      obtain ⟨m, tm, hm, rfl⟩ := ints_nth hts hdj
      rw [List.getElem?_map] at hm
      obtain ⟨d, hd, rfl⟩ := Option.map_eq_some_iff.mp hm
      have hd2 : d < 2 := by simpa using hsm d (List.mem_of_getElem? hd)
      have hdj' : (row.map fun d : Nat => (d : Int))[j]? = some (d : Int) := by rw [List.getElem?_map, hd]; rfl
      refine (evb_if (X := ⟨X.prog, X.w, X.A, c'⟩) (P := VS w' (d : Int)) (tst_eq (ev_nameI (by walk_at "lk")) ev_int) (fun h => ?_) (fun h => ?_)).mono fun B₅ u hb hu => ?_
      · have : d = 1 := by
          have := beq_iff_eq.mp h
          omega
        subst this
        exact one_spec hw
      · have : d = 0 := by
          have := beq_eq_false_iff_ne.mp h
          omega
        subst this
        exact EvU.at eu_nought
      · rw [take_snoc hdj']
        exact VDs.snoc hu (hus'.mono hb)
    · rintro B₂ v - ⟨r, us', n', rfl, hr, -, hin⟩
      rw [List.take_of_length_le (by rw [List.length_map, hrl, htl]; exact Nat.le_refl _)] at hin
      exact ⟨r, rfl, us', n', hr, hin⟩
    · obtain ⟨a, rfl, ha⟩ := hv
      obtain ⟨t3, rfl⟩ := h3
      exact ⟨a, t3, rfl, ha⟩
    · rintro B₂ _ - ⟨a, t3, rfl, ha⟩
      exact pair_read_spec L.Y (by omega) hw2 ha (by rw [List.length_map, hrl]; decide) (pref_of (List.all_eq_true.mp pref3 row hmem)) (fun d hd => by
        obtain ⟨m, hm, rfl⟩ := List.mem_map.mp hd
        have : m < 2 := by simpa using hsm m hm
        exact Nat.lt_of_le_of_lt (show (m : Int).natAbs ≤ 1 by omega) (by decide))
    · rw [hd1, hd2]; exact ha3
    · rw [htxt, sizeLine_eq]; omega
    · rintro B₂ v - ⟨-, t3, rfl⟩
      exact ⟨t3, by rw [htxt]⟩
    · rintro B₂ v n' hB₂ ⟨t3, rfl⟩
      have hti : ((rowsL 2 3).map text3)[i]? = some (text3 row) := by rw [List.getElem?_map, hrow]; rfl
      exact ex_nil ⟨_, rfl, hJ _ _ _ ⟨hBB.trans hB₂, us ++ [.str (text3 row) t3], n', rfl, by rw [take_snoc hti]; exact hus.snoc, _, rfl⟩⟩
  · rintro B₁ _ _ hB₁ ⟨hBB, us, n, rfl, hus, o', rfl⟩
    rw [hal.length, List.take_of_length_le (by rw [List.length_map]; exact Nat.le_refl _)] at hus
    exact next B₁ us n o' hBB hus
theorem ev_eqI {a b : Int} (he : Ev X B mu l e (VI a)) (hf : Ev X B mu l f (VI b)) (hm : behindInMarks .Eq f = false := by with_unfolding_all rfl) : Ev X B mu l (.Compare e [.Eq] [f] pos) (VB (a == b)) := ev_cmp he hf (by rintro _ _ ⟨t, rfl⟩ ⟨u, rfl⟩ s Q h; exact eq_int h) hm
theorem seg17 {fr n : Nat} {us : List Value} {st : Stmt} (hst : lawBody[17]? = some st) (L : Law X mg A1 A2) (hlp : Lk "pairs" (.ref fr) l) (hus : Strs us ((rowsL 2 3).map text3)) (hK : ∀ B', K (.ret (.bool true)) B' mu l) : Ex X B ((fr, listOf (List.toArray us) n) :: mu) l (st :: rest) K := by
  have e := Option.some.inj (hst.symm.trans (show lawBody[17]? = some _ from by rfl))
  subst e
  have hG : X.c.G = lawG mg := L.G
  refine ex_freeze fun hle => ex_ret (P := fun _ v => v = .bool true) ((ev_eqI (a := (8 : Nat)) (evb_lenSet (n := 8) hG (by unfold lawG; walk_at "gk") ((evb_set (ks := (rowsL 2 3).map text3) L.R.h hG (by unfold lawG; walk_at "gk") ((ev_nameR (a := fr) hlp).up.mono fun B' v _ ⟨h1, h2⟩ => ⟨fr, us, n, h2, by rw [h1]; exact PH.add_self _ _ _, hus⟩) unlike3 (by rw [eight3]; decide)).mono fun B' v _ ⟨r, o, es, ep, t, a1, a2, a3, a4, a5, a6⟩ => ⟨r, o, es, ep, t, a1, a2, a3, a4, a5, by rw [a6, eight3]⟩) (by decide)) ev_int).up.mono fun _ _ _ h => h.2) ?_
  rintro B' v - rfl
  exact hK B'
end
end
end
section
open PySem PySem.W PyProof.Rows PySem.Calls
set_option maxRecDepth 100000
set_option maxHeartbeats 2000000
section
theorem nd_last {b : Nat} (hb : 2 ≤ b) : ∀ (k : Nat) (z : Int), Done b k z → (nd b k z).drop ((nd b k z).length - 1) ≠ [0]
  | 0, _, _ => by simp [nd]
  | k + 1, z, h => by
    rw [nd]
    split
    · simp
    · rename_i h0
      have hd := h.resolve_left h0
      cases ht : nd b k (-(z / (b : Int))) with
      | nil =>
        have h1 := nd_nil hd ht
        have h2 := Int.mul_ediv_add_emod z b
        have h3 : z / (b : Int) = 0 := by omega
        rw [h3, Int.mul_zero] at h2
        simp only [List.length_cons, List.length_nil, Nat.zero_add, Nat.sub_self, List.drop_zero, ne_eq, List.cons.injEq, and_true]
        omega
      | cons d r =>
        have := nd_last hb k _ hd
        rw [ht] at this
        simpa using this
theorem law_run {mg : Str → Option Value} {W : Heap} {B : PH} {sc : Addr} {ns : List Int} {w : World} (Y : Wd mg W) (hsc : GL B sc ns) (hz : ns.length ≤ 63) (E : Value → Shared → Prop) (Q : Value → Shared → Prop) (s : Shared) (hW : HLe W s.heap) (hB : B.on s.heap)
    (hQ : ∀ v s' B', (∃ h tk, s' = { s with heap := h, toks := tk }) → HLe s.heap s'.heap → B.le B' → B'.on s'.heap → (∀ b o, B' b = some o → B b = some o ∨ s.heap.get? b = none) → v = .bool true → Q v s') :
    wpAny (model pw w) callerA (call (.ref (adr mg "law")) [.ref sc]) Q E s := by
  refine run_ofC (post := fun _ v => v = .bool true) (r := 10) ["script"] ["w", "number", "here", "later", "plain", "row", "told", "one", "x", "y", "pairs"] (lawG mg) (isDef Y 39 32 (by rfl) (by kernel_rfl)) (fun _ _ _ => rfl) (by decide) (by decide) (by simp only [lawG, List.map_cons, List.map_nil]; decide)
    (gcons (f_mirrored Y).1 (gcons (f_digits Y).1 (gcons (f_lsigned Y).1 (gcons (f_read Y).1 (gcons (g_max Y) (gcons (f_more Y).1 (gcons (g_sorted Y) (gcons (f_rows Y).1 (gcons (g_list Y) (gcons (g_range Y) (gcons (g_len Y) (gcons (f_pdigits Y).1 (gcons (f_pread Y).1 (gcons (g_repr Y) (gcons (g_set Y) gnil)))))))))))))))
    (by decide) (fun n => by simp [cellsFrom]) ?_ rfl rfl rfl rfl E Q s ⟨rfl, by decide, by decide⟩ hW hB hQ
  rintro X L cells ⟨env, hA⟩ hgl hbl hprog rfl rfl hG hi R hscope hcells hX hfr
  simp only [List.zip_cons_cons, List.zip_nil_right, List.map_cons, List.map_nil, List.cons_append, List.nil_append]
  obtain ⟨o2, o1, rfl, ho2, ho1⟩ := CellsAre.two (n := "base") (n' := "lake") (c := L + 1 + 1) (c' := L + 1) hX
  have LW : Law X mg (L + 1) (L + 1 + 1) := by
    refine ⟨Y, hG, R, by rw [hA]; rfl, hi, by rw [hscope], ?_, ?_, ?_, ?_, hgl, hbl⟩
    · show X.c.env.scope.names.lookup _ = _; rw [hscope]; rfl
    · show X.c.env.scope.names.lookup _ = _; rw [hscope]; rfl
    · rw [hcells]; rfl
    · rw [hcells]; rfl
  refine ex_perm (mu' := [(L + 1, o1), (L + 1 + 1, o2)]) (List.Perm.swap _ _ _) ?_
  refine seg0 (by rfl) LW ho1 (by walk_at "lk") hsc hz ?_
  intro B1 lake a Ld t0 n0 o1' hB1 hLd0 hLl hd1
  refine ex_freeze fun hle1 => ?_
  have hlk : CellIs (B1.add (L + 1) o1') (L + 1) (.ref lake) := ⟨o1', PH.add_self _ _ _, hd1⟩
  have hLd := hLd0.mono hle1
  generalize B1.add (L + 1) o1' = B2 at hle1 hlk hLd
  refine ex_perm (mu' := [(L + 1 + 1, o2), (lake, lakeO 0 t0 a n0)]) (List.Perm.swap _ _ _) ?_
  refine seg1 (by rfl) LW ho2 hlk hLd hLl (by simp) ?_
  intro tw tb t1 n1
  have hw : 4 ≤ 4 + dr Ld 0 5 ∧ 4 + dr Ld 0 5 ≤ 8 := by have := dr_lt (Ld := Ld) (k := 0) (many := 5) (by decide); omega
  have hb : 2 ≤ 2 + dr Ld 1 8 ∧ 2 + dr Ld 1 8 ≤ 9 := by have := dr_lt (Ld := Ld) (k := 1) (many := 8) (by decide); omega
  generalize 4 + dr Ld 0 5 = w' at hw
  generalize 2 + dr Ld 1 8 = b at hb
  refine ⟨_, by walk_at "put", fun o2' hd2 => ex_freeze fun hle2 => ?_⟩
  have hbs : CellIs (B2.add (L + 1 + 1) o2') (L + 1 + 1) (.int (-(b : Nat)) tb) := ⟨o2', PH.add_self _ _ _, hd2⟩
  have hlk2 := hlk.mono hle2
  have hLd2 := hLd.mono hle2
  generalize B2.add (L + 1 + 1) o2' = B3 at hle2 hbs hlk2 hLd2
  refine seg2 (by rfl) LW hlk2 hLd2 hLl ?_
  intro tz t2 n2
  have hz' : -2000 ≤ (dr Ld 2 1999 : Int) * (1 - 2 * (dr Ld 3 2 : Int)) ∧ (dr Ld 2 1999 : Int) * (1 - 2 * (dr Ld 3 2 : Int)) ≤ 2000 := by
    have h1 := dr_lt (Ld := Ld) (k := 2) (many := 1999) (by decide)
    have h2 := dr_lt (Ld := Ld) (k := 3) (many := 2) (by decide)
    rcases (show dr Ld 3 2 = 0 ∨ dr Ld 3 2 = 1 by omega) with h | h <;> rw [h] <;> omega
  generalize (dr Ld 2 1999 : Int) * (1 - 2 * (dr Ld 3 2 : Int)) = z at hz'
  refine ⟨_, by walk_at "put", ?_⟩
  refine seg3 (by rfl) LW hbs (by walk_at "lk") (by walk_at "lk") hw.1 hw.2 hb.1 hb.2 hz'.1 hz'.2 ?_
  intro B4 hr hB4 hh
  refine ⟨_, by walk_at "put", ?_⟩
  refine seg4 (by rfl) LW (hbs.mono hB4) (by walk_at "lk") (by walk_at "lk") hw.1 hw.2 hb.1 hb.2 hz'.1 hz'.2 ?_
  intro B5 lr hB5 hl
  refine ⟨_, by walk_at "put", ?_⟩
  have hds : ∀ d ∈ nd b 40 z, 0 ≤ d ∧ d < b := nd_range hb.1 40 z
  refine seg5 (by rfl) LW (hbs.mono (hB4.trans hB5)) (by walk_at "lk") (by walk_at "lk") (by walk_at "lk") (by walk_at "lk") hw.1 hw.2 hb.1 hb.2 hz'.1 hz'.2 (hh.mono hB5) ?_
  refine seg6 (by rfl) LW hw.1 (by walk_at "lk") (hh.mono hB5) (by have := nd_length (b : Int) 40 z; omega) (fun d hd => by have := hds d hd; omega) (by simp) ?_
  intro pr
  refine ⟨_, by walk_at "put", ?_⟩
  intro B6 hB6 hp
  have hB36 := hB4.trans (hB5.trans hB6)
  refine seg7 (by rfl) LW (hbs.mono hB36) (by walk_at "lk") (by walk_at "lk") (hh.mono (hB5.trans hB6)) hp (by have := nd_length (b : Int) 40 z; omega) hb.1 hds (nd_last hb.1 40 z (done_all hb.1 (by omega) (by omega)).succ) ?_
  refine seg8 (by rfl) LW hw.1 (hbs.mono hB36) (by walk_at "lk") (by walk_at "lk") (hl.mono hB6) hp hb.1 hb.2 hz'.1 hz'.2 ?_
  refine seg9 (by rfl) LW (hbs.mono hB36) hb.1 hb.2 ?_
  intro B7 tr hB7 ht
  refine ⟨_, by walk_at "put", ?_⟩
  refine seg10 (by rfl) LW (hbs.mono (hB36.trans hB7)) (by walk_at "lk") ht hb.1 hb.2 ?_
  refine seg11 (lf := fun o => [("script", some (.ref sc)), ("w", some (.int w' tw)), ("number", some (.int z tz)), ("here", some (.ref hr)), ("later", some (.ref lr)), ("plain", some (.ref pr)), ("row", none), ("told", some (.ref tr)), ("one", o), ("x", none), ("y", none), ("pairs", none)]) (o := none) (by rfl) LW (hbs.mono (hB36.trans hB7)) (by walk_at "lk") (fun _ => by walk_at "lk") (fun _ => by walk_at "lk") (fun _ _ => by walk_at "put") ht hw.1 hw.2 hb.1 hb.2 ?_
  intro B8 oo hB8
  have hB38 := hB36.trans (hB7.trans hB8)
  refine seg12 (by rfl) LW (hlk2.mono hB38) (hLd2.mono hB38) hLl ?_
  intro B9 tx ty t3 n3 hB9
  have bx := pv_bd Ld 0
  have by' := pv_bd Ld 1
  generalize pv Ld 0 = x at bx
  generalize pv Ld 1 = y at by'
  refine ⟨_, _, by walk_at "put", by walk_at "put", ?_⟩
  refine seg13 (by rfl) LW (by walk_at "lk") (by walk_at "lk") (by walk_at "lk") hw.1 hw.2 bx by' ?_
  intro B10 rr hB10 hrr
  refine ⟨_, by walk_at "put", ?_⟩
  refine seg14 (by rfl) LW (by walk_at "lk") (by walk_at "lk") (by walk_at "lk") (by walk_at "lk") hw.1 hw.2 bx by' hrr ?_
  refine ex_asgList fun fr => ⟨_, by walk_at "put", ?_⟩
  refine seg16 (lf := fun o => [("script", some (.ref sc)), ("w", some (.int w' tw)), ("number", some (.int z tz)), ("here", some (.ref hr)), ("later", some (.ref lr)), ("plain", some (.ref pr)), ("row", o), ("told", some (.ref tr)), ("one", oo), ("x", some (.int x tx)), ("y", some (.int y ty)), ("pairs", some (.ref fr))]) (o := some (.ref rr)) (by rfl) LW (fun _ => by walk_at "lk") (fun _ => by walk_at "lk") (fun _ => by walk_at "lk") (fun _ _ => by walk_at "put") hw.1 hw.2 ?_
  intro B11 us n4 o4 hB11 hus
  exact seg17 (by rfl) LW (by walk_at "lk") hus fun _ => rfl
end
end
section
open PySem PySem.W PyProof.Rows PySem.Calls
set_option maxRecDepth 100000
set_option maxHeartbeats 8000000
section
theorem wd_of {q : Program} {loose : List Str} {mean : ExcName → Option Value} {mg mb : Str → Option Value} {h : Heap} (T : PyProof.Rows.Top q loose mean mg mb h) (hq : recsOf q = recsOf pw)
    (hf : ∀ x ∈ ourBuiltins, x ∉ startupNames ∧ x ∉ loose ∧ x ∉ (recsOf q).map (·.name) ∧ x ∉ (litsOf q).map (·.1) ∧ x ∉ (clssOf q loose).map (·.name)) : Wd mg h :=
  ⟨T.g, ⟨mb, T.b, T.builtins⟩, T.nolimit, fun d hd => T.fn d (hq ▸ hd), fun x hx => let ⟨a, b, c, d, e⟩ := hf x hx; T.free x a b c d e⟩
theorem law_enter {q : Program} {loose : List Str} {XP : (Str → Option Value) → Heap → Prop} {YP : World → Heap → Prop} {d : DefRec} {kwd : List (Str × Expr)} (hq : recsOf q = recsOf pw) (hn : d.name = "law")
    (hf : ∀ x ∈ ourBuiltins, x ∉ startupNames ∧ x ∉ looseW q loose ∧ x ∉ (recsOf q).map (·.name) ∧ x ∉ (litsOf q).map (·.1) ∧ x ∉ (clssOf q (looseW q loose)).map (·.name)) :
    WalkO q loose XP YP Challenge.rw_xm0422_01.row.toRowW d kwd (fun f vs => PySem.call f vs) := by
  intro w s₀ s₁ mg mb G _ fa o pm cd doc dV kV _ _ _ _ hmg hg args vals as hpre hlay hrd hwl hlo
  have Y : Wd mg s₁.heap := wd_of G.T hq hf
  have hfa : fa = adr mg "law" := by
    rw [hn] at hmg
    unfold adr; rw [hmg]
  subst hfa
  clear hn hmg G
  wrow_args hpre hlay hrd hwl hlo
  rename_i ns _ _ _ _ _ _ _ sc items _ hL _ _ _ hI _ hlen _
  obtain ⟨ol, hol, hcl, nl, hdl⟩ := hL
  refine law_run (B := fun b => if b = sc then some ol else none) Y ⟨ol, items, nl, by simp, hcl, hdl, hI⟩ (by omega) _ _ s₁ (HLe.refl _) (fun b o e => ?_) ?_
  · have e' : (if b = sc then some ol else none) = some o := e
    by_cases hb : b = sc
    · rw [if_pos hb] at e'; cases e'; rw [hb]; exact hol
    · rw [if_neg hb] at e'; cases e'
  · rintro v s' B' ⟨h, tk, rfl⟩ hle - - - rfl
    refine ⟨.inl ⟨_, .bool true, [], rfl, fun _ => rfl, .bool _, ?_, fun _ => ⟨List.nodup_nil, fun a h => nomatch h⟩⟩, .of_keep fun b o e => hle b o e, rfl, .of_eq hg⟩
    wrow_post
end
end
end Mine
open PySem PySem.W PyProof.Rows
set_option maxRecDepth 100000 in
set_option maxHeartbeats 8000000 in
theorem PySem.Challenge.cw_xm0422_01_holds : PySem.Challenge.rw_xm0422_01.Holds := by
  w_on; o_law; o_head Hook.none; (case hw => w_witness2)
  exact Mine.law_enter (by kernel_rfl) (by rfl) (by decide +kernel)
