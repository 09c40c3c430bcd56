import PyProof.Rows.All
import Wide.All
import OpenK.AllK
import Wide.FinOn
import KE.RegMulBits
import PySem.Challenge.RW_pq0170_01
set_option Elab.async false
set_option maxRecDepth 100000
set_option maxHeartbeats 8000000
set_option linter.all false
set_option compiler.extract_closed false
namespace Mine
section
open PySem PySem.W PyProof.Rows
set_option synthInstance.maxSize 1
open_top hd for PySem.Challenge.rw_pq0170_01
end
set_option maxHeartbeats 1000000

/- M1 -/
section
/- plain facts of fractions and of sizes: no program in sight -/

open PySem PyProof.Rows PySem.Builtin.Int

theorem frac_pos (a b : Int) (h : 0 < b) : (Rat.divInt a b).num = Int.fdiv a (Int.gcd a b) ∧ ((Rat.divInt a b).den : Int) = Int.fdiv b (Int.gcd a b) := by
  obtain ⟨n, rfl⟩ := Int.eq_ofNat_of_zero_le (Int.le_of_lt h)
  have hn : n ≠ 0 := by omega
  have e : Rat.divInt a n = Rat.normalize a n hn := by
    rw [Rat.normalize_eq_mkRat, Rat.divInt_ofNat]
  rw [e, Rat.normalize_eq]
  have hg : Int.gcd a n = a.natAbs.gcd n := by simp [Int.gcd]
  rw [hg]
  refine ⟨?_, ?_⟩
  · rw [Int.fdiv_eq_ediv_of_nonneg _ (by omega)]
  · rw [Int.fdiv_eq_ediv_of_nonneg _ (by omega)]; rfl
theorem frac_neg (a b : Int) (h : b < 0) : (Rat.divInt a b).num = Int.fdiv a (-(Int.gcd a b : Int)) ∧ ((Rat.divInt a b).den : Int) = Int.fdiv b (-(Int.gcd a b : Int)) := by
  have := frac_pos (-a) (-b) (by omega)
  have e : Rat.divInt (-a) (-b) = Rat.divInt a b := Rat.neg_divInt_neg ..
  rw [e] at this
  have hg : Int.gcd (-a) (-b) = Int.gcd a b := by simp [Int.gcd]
  rw [hg] at this
  rw [this.1, this.2]
  have k : ∀ x y : Int, Int.fdiv (-x) y = Int.fdiv x (-y) := fun x y => by
    have := Int.neg_fdiv_neg x (-y)
    rw [Int.neg_neg] at this
    exact this
  exact ⟨k _ _, k _ _⟩
theorem gcd_ne (a b : Int) (h : b ≠ 0) : (0:Int) < (Int.gcd a b : Int) := by
  have := Int.gcd_pos_of_ne_zero_right a h
  omega
theorem rat_mul (p q : Rat) : Rat.divInt (p.num * q.num) (p.den * q.den) = p * q := by
  rw [Rat.mul_def, Rat.normalize_eq_mkRat, ← Rat.divInt_ofNat]; simp
theorem rat_sub (p q : Rat) : Rat.divInt (p.num * q.den - q.num * p.den) (p.den * q.den) = p - q := by
  rw [Rat.sub_def, Rat.normalize_eq_mkRat, ← Rat.divInt_ofNat]; simp
theorem rat_div (p q : Rat) : Rat.divInt (p.num * q.den) (p.den * q.num) = p / q := by
  rw [Rat.div_def]
  conv => rhs; rw [← Rat.num_divInt_den p, ← Rat.num_divInt_den q, Rat.inv_divInt, Rat.divInt_mul_divInt]
theorem den_ne (q : Rat) : (q.den : Int) ≠ 0 := by have := q.den_pos; omega
theorem den_pos (q : Rat) : (0 : Int) < q.den := by have := q.den_pos; omega

/-- both parts of a fraction lie below 2 ^ k -/
noncomputable def Fit (k : Nat) (q : Rat) : Prop := intBits q.num ≤ k ∧ intBits (q.den : Int) ≤ k

theorem fit_divInt {a b : Int} {k : Nat} (hb : b ≠ 0) (h1 : intBits a ≤ k) (h2 : intBits b ≤ k) : Fit k (Rat.divInt a b) := by
  unfold Fit
  rcases Int.lt_or_gt_of_ne hb with h | h
  · rw [(frac_neg a b h).1, (frac_neg a b h).2]; exact ⟨bits_fdiv h1, bits_fdiv h2⟩
  · rw [(frac_pos a b h).1, (frac_pos a b h).2]; exact ⟨bits_fdiv h1, bits_fdiv h2⟩
theorem Fit.mono {j k : Nat} {q : Rat} (h : Fit j q) (hk : j ≤ k) : Fit k q := ⟨Nat.le_trans h.1 hk, Nat.le_trans h.2 hk⟩
theorem mul_ne {a b : Int} (h : a ≠ 0) (k : b ≠ 0) : a * b ≠ 0 := Int.mul_ne_zero h k
theorem Fit.mul {j k : Nat} {p q : Rat} (h : Fit j p) (g : Fit k q) : Fit (j + k) (p * q) := by
  rw [← rat_mul]
  exact fit_divInt (mul_ne (den_ne p) (den_ne q)) (bits_mul h.1 g.1) (bits_mul h.2 g.2)
theorem Fit.sub {j k : Nat} {p q : Rat} (h : Fit j p) (g : Fit k q) : Fit (j + k + 1) (p - q) := by
  rw [← rat_sub]
  refine fit_divInt (mul_ne (den_ne p) (den_ne q)) ?_ (Nat.le_succ_of_le (bits_mul h.2 g.2))
  have h1 := bits_sub (bits_mul h.1 g.2) (bits_mul g.1 h.2)
  rw [Nat.add_comm k j, Nat.max_self] at h1
  exact h1
theorem Fit.div {j k : Nat} {p q : Rat} (h : Fit j p) (g : Fit k q) (hq : q ≠ 0) : Fit (j + k) (p / q) := by
  rw [← rat_div]
  refine fit_divInt (mul_ne (den_ne p) fun e => hq (Rat.num_eq_zero.mp e)) (bits_mul h.1 g.2) (bits_mul h.2 g.1)
theorem Fit.okNN {k : Nat} {p q : Rat} (h : Fit k p) (g : Fit k q) (hk : k ≤ 67108864) : IntMulOk p.num q.num := mulOk_of_bits h.1 g.1 (by omega)
theorem Fit.okND {k : Nat} {p q : Rat} (h : Fit k p) (g : Fit k q) (hk : k ≤ 67108864) : IntMulOk p.num q.den := mulOk_of_bits h.1 g.2 (by omega)
theorem Fit.okDN {k : Nat} {p q : Rat} (h : Fit k p) (g : Fit k q) (hk : k ≤ 67108864) : IntMulOk p.den q.num := mulOk_of_bits h.2 g.1 (by omega)
theorem Fit.okDD {k : Nat} {p q : Rat} (h : Fit k p) (g : Fit k q) (hk : k ≤ 67108864) : IntMulOk p.den q.den := mulOk_of_bits h.2 g.2 (by omega)
theorem fit_int {a : Int} {k : Nat} (hk : 1 ≤ k) (h : intBits a ≤ k) : Fit k (a : Rat) := by
  refine ⟨by rw [Rat.num_intCast]; exact h, ?_⟩
  rw [Rat.den_intCast]
  exact Nat.le_trans (by decide) hk

open PySem PyProof.Rows PySem.Builtin.Int
theorem log2_lt_of_bits {g : Int} {k : Nat} (hk : 0 < k) (h : intBits g ≤ k) : g.natAbs.log2 < k := by
  have h1 : g.natAbs < 2 ^ k := lt_pow_of_bits h (Nat.le_refl k)
  rcases Nat.eq_zero_or_pos g.natAbs with e | e
  · rw [e]; exact hk
  · exact (Nat.log2_lt (Nat.ne_of_gt e)).mpr h1
theorem gcd_natAbs_le (a b : Int) (h : b ≠ 0) : (Int.gcd a b : Int).natAbs ≤ b.natAbs := by
  have : Int.gcd a b ≤ b.natAbs := Nat.le_of_dvd (by omega) (Int.gcd_dvd_natAbs_right a b)
  omega
theorem noPy_gcd (x : Int) {a b : Int} (hb : b ≠ 0) (h : intBits b ≤ 8999) : Builtin.divisionGoesByPylong x (Int.gcd a b) = false :=
  PyProof.noPylong_of_log2 (Nat.lt_trans (log2_lt_of_bits (by decide) (bits_of_natAbs_le (gcd_natAbs_le a b hb) h)) (by decide))
theorem noPy_gcd_neg (x : Int) {a b : Int} (hb : b ≠ 0) (h : intBits b ≤ 8999) : Builtin.divisionGoesByPylong x (-(Int.gcd a b : Int)) = false :=
  PyProof.noPylong_of_log2 (Nat.lt_trans (log2_lt_of_bits (by decide) (bits_neg (bits_of_natAbs_le (gcd_natAbs_le a b hb) h))) (by decide))
end

/- M2 -/
section
/- The elimination as a plain relation over rows of fractions: no program in sight -/

noncomputable abbrev Mat := List (List Rat)
noncomputable def rowAt (M : Mat) (i : Nat) : List Rat := M.getD i []
noncomputable def at2 (M : Mat) (i j : Nat) : Rat := (rowAt M i).getD j 0
noncomputable def swapR (M : Mat) (i k : Nat) : Mat := (M.set i (rowAt M k)).set k (rowAt M i)
noncomputable def scaleR (M : Mat) (i : Nat) (p : Rat) : Mat := M.set i ((rowAt M i).map (· / p))
noncomputable def lessR (r b : List Rat) (f : Rat) : List Rat := List.zipWith (fun r b => r - f * b) r b
noncomputable def clr (M : Mat) (i o : Nat) : Mat := if o = i then M else M.set o (lessR (rowAt M o) (rowAt M i) (at2 M o i))
noncomputable def clearTo (M : Mat) (i : Nat) : Nat → Mat
  | 0 => M
  | k + 1 => clr (clearTo M i k) i k

structure Shape (M : Mat) (n c : Nat) : Prop where
  len : M.length = n
  row : ∀ r ∈ M, r.length = c

theorem rowAt_get {M : Mat} {i : Nat} (h : i < M.length) : M[i]? = some (rowAt M i) := by
  unfold rowAt
  rw [List.getD_eq_getElem?_getD, List.getElem?_eq_getElem h]
  rfl
theorem rowAt_mem {M : Mat} {i : Nat} (h : i < M.length) : rowAt M i ∈ M := List.mem_of_getElem? (rowAt_get h)
theorem at2_get {M : Mat} {i j : Nat} (h : j < (rowAt M i).length) : (rowAt M i)[j]? = some (at2 M i j) := by
  unfold at2
  rw [List.getD_eq_getElem?_getD, List.getElem?_eq_getElem h]
  rfl
theorem Shape.rowLen {M : Mat} {n c i : Nat} (S : Shape M n c) (h : i < n) : (rowAt M i).length = c := S.row _ (rowAt_mem (by rw [S.len]; exact h))
theorem rowAt_set {M : Mat} {i k : Nat} {r : List Rat} (h : i < M.length) : rowAt (M.set i r) k = if k = i then r else rowAt M k := by
  unfold rowAt
  rw [List.getD_eq_getElem?_getD, List.getElem?_set, List.getD_eq_getElem?_getD]
  by_cases e : i = k
  · subst e; simp [h]
  · rw [if_neg e, if_neg (Ne.symm e)]
theorem Shape.set {M : Mat} {n c i : Nat} {r : List Rat} (S : Shape M n c) (h : r.length = c) : Shape (M.set i r) n c :=
  ⟨by rw [List.length_set]; exact S.len, fun x hx => by
    rcases List.mem_or_eq_of_mem_set hx with h' | rfl
    · exact S.row x h'
    · exact h⟩
theorem lessR_len {r b : List Rat} {f : Rat} {c : Nat} (h : r.length = c) (k : b.length = c) : (lessR r b f).length = c := by
  unfold lessR
  rw [List.length_zipWith, h, k, Nat.min_self]
theorem Shape.swap {M : Mat} {n c i k : Nat} (S : Shape M n c) (hi : i < n) (hk : k < n) : Shape (swapR M i k) n c := (S.set (S.rowLen hk)).set (S.rowLen hi)
theorem Shape.scale {M : Mat} {n c i : Nat} {p : Rat} (S : Shape M n c) (hi : i < n) : Shape (scaleR M i p) n c := S.set (by rw [List.length_map]; exact S.rowLen hi)
theorem Shape.clr {M : Mat} {n c i o : Nat} (S : Shape M n c) (hi : i < n) (ho : o < n) : Shape (clr M i o) n c := by
  unfold Mine.clr
  split
  · exact S
  · exact S.set (lessR_len (S.rowLen ho) (S.rowLen hi))
theorem Shape.clearTo {M : Mat} {n c i : Nat} (S : Shape M n c) (hi : i < n) : ∀ k, k ≤ n → Shape (clearTo M i k) n c
  | 0, _ => S
  | k + 1, h => Shape.clr (Shape.clearTo S hi k (by omega)) hi (by omega)
theorem clr_row {M : Mat} {i o k : Nat} (ho : o < M.length) : rowAt (clr M i o) k = if o ≠ i ∧ k = o then lessR (rowAt M o) (rowAt M i) (at2 M o i) else rowAt M k := by
  unfold clr
  by_cases e : o = i
  · rw [if_pos e, if_neg (fun h => h.1 e)]
  · rw [if_neg e, rowAt_set ho]
    by_cases q : k = o
    · rw [if_pos q, if_pos ⟨e, q⟩]
    · rw [if_neg q, if_neg fun h => q h.2]
/-- a row not yet cleared stands, the pivot's row stands -/
theorem clearTo_row {M : Mat} {n c i : Nat} (S : Shape M n c) (hi : i < n) : ∀ k, k ≤ n → ∀ o, (o = i ∨ k ≤ o) → rowAt (clearTo M i k) o = rowAt M o
  | 0, _, _, _ => rfl
  | k + 1, h, o, ho => by
    have S' := Shape.clearTo S hi k (by omega)
    show rowAt (clr (clearTo M i k) i k) o = _
    rw [clr_row (by rw [S'.len]; omega), if_neg (by omega)]
    exact clearTo_row S hi k (by omega) o (by omega)
theorem less_zero {r b : List Rat} {c : Nat} (h : r.length = c) (k : b.length = c) : lessR r b 0 = r := by
  unfold lessR
  apply List.ext_getElem?
  intro i
  rw [List.getElem?_zipWith]
  by_cases hi : i < c
  · rw [List.getElem?_eq_getElem (by omega), List.getElem?_eq_getElem (by omega)]
    simp [Rat.zero_mul, Rat.sub_eq_add_neg, Rat.add_zero]
  · rw [List.getElem?_eq_none (by omega)]
theorem set_self {M : Mat} {i : Nat} (h : i < M.length) : M.set i (rowAt M i) = M := by
  apply List.ext_getElem?
  intro k
  rw [List.getElem?_set]
  split
  · rename_i e; subst e; exact (rowAt_get h).symm
  · rfl
theorem swap_self {M : Mat} {i : Nat} (h : i < M.length) : swapR M i i = M := by
  unfold swapR
  rw [set_self h, set_self h]
theorem clr_zero {M : Mat} {n c i o : Nat} (S : Shape M n c) (hi : i < n) (ho : o < n) (h : at2 M o i = 0) : clr M i o = M := by
  unfold clr
  split
  · rfl
  · rw [h, less_zero (S.rowLen ho) (S.rowLen hi), set_self (by rw [S.len]; exact ho)]

inductive Reach (M0 : Mat) (n : Nat) : Nat → Mat → Rat → Prop
  | start : Reach M0 n 0 M0 1
  | step {i M t k} : Reach M0 n i M t → i ≤ k → k < n → i < n → at2 M k i ≠ 0 →
      Reach M0 n (i + 1) (clearTo (scaleR (swapR M i k) i (at2 (swapR M i k) i i)) i n) ((if k = i then t else -t) * at2 (swapR M i k) i i)

noncomputable def fitB : Nat → Nat
  | 0 => 8
  | i + 1 => 4 * fitB i + 1
noncomputable def fitT : Nat → Nat
  | 0 => 1
  | i + 1 => fitT i + fitB i
noncomputable def AllFit (b : Nat) (r : List Rat) : Prop := ∀ q ∈ r, Fit b q
noncomputable def MatFit (b : Nat) (M : Mat) : Prop := ∀ r ∈ M, AllFit b r
theorem AllFit.mono {j k : Nat} {r : List Rat} (h : AllFit j r) (hk : j ≤ k) : AllFit k r := fun q hq => (h q hq).mono hk
theorem MatFit.mono {j k : Nat} {M : Mat} (h : MatFit j M) (hk : j ≤ k) : MatFit k M := fun q hq => (h q hq).mono hk
theorem MatFit.row {b : Nat} {M : Mat} {i : Nat} (h : MatFit b M) (hi : i < M.length) : AllFit b (rowAt M i) := h _ (rowAt_mem hi)
theorem MatFit.at {b : Nat} {M : Mat} {n c i j : Nat} (h : MatFit b M) (S : Shape M n c) (hi : i < n) (hj : j < c) : Fit b (at2 M i j) :=
  h.row (by rw [S.len]; exact hi) _ (List.mem_of_getElem? (at2_get (by rw [S.rowLen hi]; exact hj)))
theorem MatFit.set {b : Nat} {M : Mat} {i : Nat} {r : List Rat} (h : MatFit b M) (k : AllFit b r) : MatFit b (M.set i r) := fun x hx => by
  rcases List.mem_or_eq_of_mem_set hx with h' | rfl
  · exact h x h'
  · exact k
theorem fit_neg {k : Nat} {q : Rat} (h : Fit k q) : Fit k (-q) := by
  exact ⟨PyProof.Rows.bits_neg h.1, h.2⟩
theorem allFit_div {b : Nat} {r : List Rat} {p : Rat} (h : AllFit b r) (hp : Fit b p) (h0 : p ≠ 0) : AllFit (2 * b) (r.map (· / p)) := fun q hq => by
  obtain ⟨x, hx, rfl⟩ := List.mem_map.mp hq
  exact ((h x hx).div hp h0).mono (by omega)
theorem allFit_less {b : Nat} {r y : List Rat} {f : Rat} (h : AllFit b r) (k : AllFit (2 * b) y) (hf : Fit b f) : AllFit (4 * b + 1) (lessR r y f) := fun q hq => by
  obtain ⟨i, hi⟩ := List.mem_iff_getElem?.mp hq
  unfold lessR at hi
  rw [List.getElem?_zipWith] at hi
  cases e1 : r[i]? with
  | none => rw [e1] at hi; cases hi
  | some a =>
    cases e2 : y[i]? with
    | none => rw [e1, e2] at hi; cases hi
    | some d =>
      rw [e1, e2] at hi
      cases hi
      exact ((h a (List.mem_of_getElem? e1)).sub (hf.mul (k d (List.mem_of_getElem? e2)))).mono (by omega)
/-- what the clearing keeps of the sizes -/
theorem clearTo_fit {M : Mat} {n c i b : Nat} (S : Shape M n c) (hi : i < n) (hc : i < c) (h : ∀ o, o < n → o ≠ i → AllFit b (rowAt M o)) (k : AllFit (2 * b) (rowAt M i)) : ∀ j, j ≤ n → MatFit (4 * b + 1) (clearTo M i j)
  | 0, _ => fun r hr => by
    obtain ⟨o, ho⟩ := List.mem_iff_getElem?.mp hr
    have ho' : o < M.length := (List.getElem?_eq_some_iff.mp ho).1
    have e : r = rowAt M o := Option.some.inj (ho.symm.trans (rowAt_get ho'))
    rw [e]
    by_cases q : o = i
    · rw [q]; exact k.mono (by omega)
    · exact (h o (by rw [← S.len]; exact ho') q).mono (by omega)
  | j + 1, hj => by
    have ih := clearTo_fit S hi hc h k j (by omega)
    have S' := Shape.clearTo S hi j (by omega)
    show MatFit _ (clr (clearTo M i j) i j)
    unfold clr
    split
    · exact ih
    · rename_i q
      refine ih.set ?_
      have e1 := clearTo_row S hi j (by omega) j (.inr (Nat.le_refl _))
      have e2 := clearTo_row S hi j (by omega) i (.inl rfl)
      have e3 : at2 (clearTo M i j) j i = at2 M j i := by unfold at2; rw [e1]
      rw [e1, e2, e3]
      refine allFit_less (h j (by omega) q) k (h j (by omega) q _ (List.mem_of_getElem? (at2_get (by rw [S.rowLen (by omega)]; exact hc))))
theorem swap_row {M : Mat} {n c i k o : Nat} (S : Shape M n c) (hi : i < n) (hk : k < n) : rowAt (swapR M i k) o = if o = k then rowAt M i else if o = i then rowAt M k else rowAt M o := by
  unfold swapR
  rw [rowAt_set (by rw [List.length_set, S.len]; exact hk), rowAt_set (by rw [S.len]; exact hi)]
theorem swap_pivot {M : Mat} {n c i k : Nat} (S : Shape M n c) (hi : i < n) (hk : k < n) : at2 (swapR M i k) i i = at2 M k i := by
  unfold at2
  rw [swap_row S hi hk]
  by_cases e : i = k
  · subst e; simp
  · rw [if_neg e, if_pos rfl]
theorem swap_fit {M : Mat} {n c i k b : Nat} (S : Shape M n c) (hi : i < n) (hk : k < n) (h : MatFit b M) : MatFit b (swapR M i k) :=
  (h.set (h.row (by rw [S.len]; exact hk))).set (h.row (by rw [S.len]; exact hi))
theorem step_fit {M : Mat} {n c i k b : Nat} (S : Shape M n c) (hi : i < n) (hk : k < n) (hc : n ≤ c) (h : MatFit b M) (h0 : at2 M k i ≠ 0) : ∀ j, j ≤ n → MatFit (4 * b + 1) (clearTo (scaleR (swapR M i k) i (at2 (swapR M i k) i i)) i j) := by
  have S1 := S.swap hi hk
  have h1 := swap_fit S hi hk h
  have hp : Fit b (at2 (swapR M i k) i i) := h1.at S1 hi (by omega)
  have h0' : at2 (swapR M i k) i i ≠ 0 := by rw [swap_pivot S hi hk]; exact h0
  refine clearTo_fit (S1.scale hi) hi (by omega) (fun o ho ne => ?_) ?_
  · unfold scaleR
    rw [rowAt_set (by rw [S1.len]; exact hi), if_neg ne]
    exact h1.row (by rw [S1.len]; exact ho)
  · unfold scaleR
    rw [rowAt_set (by rw [S1.len]; exact hi), if_pos rfl]
    exact allFit_div (h1.row (by rw [S1.len]; exact hi)) hp h0'
theorem reach_fit {M0 M : Mat} {n c i : Nat} {t : Rat} (hc : n ≤ c) (S : Shape M0 n c) (h : MatFit 8 M0) (R : Reach M0 n i M t) : Shape M n c ∧ MatFit (fitB i) M ∧ Fit (fitT i) t := by
  induction R with
  | start => exact ⟨S, h, by unfold Fit fitT; decide⟩
  | @step i M t k _ _ hk hi h0 ih =>
    obtain ⟨S', h', ht⟩ := ih
    have S1 := S'.swap hi hk
    refine ⟨(S1.scale hi).clearTo hi n (Nat.le_refl _), step_fit S' hi hk hc h' h0 n (Nat.le_refl _), ?_⟩
    refine Fit.mul ?_ ((swap_fit S' hi hk h').at S1 hi (by omega))
    split
    · exact ht
    · exact fit_neg ht
end

/- M3 -/
section
/- Laplace's sum along the first column, as the law reckons it -/

noncomputable def cof (A : List (List Int)) (i : Nat) : List (List Int) := (A.eraseIdx i).map (List.drop 1)
noncomputable def sgn (i : Nat) : Int := if i % 2 = 0 then 1 else -1
noncomputable def head0 (A : List (List Int)) (i : Nat) : Int := (A.getD i []).getD 0 0
noncomputable def lawTo (f : List (List Int) → Int) (A : List (List Int)) : Nat → Int
  | 0 => 0
  | k + 1 => lawTo f A k + head0 A k * f (cof A k) * sgn k
noncomputable def lawSum : Nat → List (List Int) → Int
  | 0 => fun _ => 1
  | n + 1 => fun A => lawTo (lawSum n) A (n + 1)
end

/- M4 -/
section
/- The turned grid -/

noncomputable def turnZ (A : List (List Int)) (n : Nat) : List (List Int) := (List.range n).map fun j => (List.range n).map fun i => (A.getD i []).getD j 0

/-- a row by a column -/
noncomputable def dotTo (xs : List Int) (B : List (List Int)) (j : Nat) : Nat → Int
  | 0 => 0
  | i + 1 => dotTo xs B j i + xs.getD i 0 * (B.getD i []).getD j 0
noncomputable def prodZ (A B : List (List Int)) (n : Nat) : List (List Int) := A.map fun xs => (List.range n).map fun j => dotTo xs B j n
end

open PySem PySem.W PySem.Spec PySem.Calls PyProof.Rows

/- B2 -/
section
/- The layer: a contract of a def at the heap's level. What stood before the call stands behind it (HLe); what is new is told (own). -/

structure Cx where
  w : World
  p : Program
  loose : List Str
  mean : ExcName → Option Value
  mg : Str → Option Value
  mb : Str → Option Value
noncomputable abbrev Led := List (Addr × Obj)

noncomputable def HLe (h h' : Heap) : Prop := ∀ b o, h.get? b = some o → h'.get? b = some o
theorem HLe.refl (h : Heap) : HLe h h := fun _ _ e => e
theorem HLe.trans {h h' h'' : Heap} (a : HLe h h') (b : HLe h' h'') : HLe h h'' := fun x o e => b x o (a x o e)
theorem Fr.hle {h₀ h : Heap} {L : Addr} {m : Str → Option Value} (F : Fr h₀ L h m) : HLe h₀ h := F.keep

/-- the objects `own` stand in `h'` and did not in `g` -/
noncomputable def Own (g h' : Heap) (own : Led) : Prop := ∀ p ∈ own, h'.get? p.1 = some p.2 ∧ g.get? p.1 = none
noncomputable def Out (g : Heap) (Ret : Led → Value → Prop) (s : Shared) (v : Value) (s' : Shared) : Prop :=
  ∃ own h' tk', s' = { s with heap := h', toks := tk' } ∧ Ret own v ∧ HLe g h' ∧ Own g h' own

noncomputable def Tell (c : Cx) (f : Addr) (k : Nat) (vs : List Value) (Pre : Heap → Prop) (Ret : Led → Value → Prop) : Prop :=
  ∀ (dp un : Nat) (gd : Option (List Code)) (cn : Str) (cs : Scope) (a : Addr) (ccd : Value) (cl : List (Str × Addr)) (outer : List Env) (A₀ : Around) (base h₀ : Heap) (L : Addr) (m : Str → Option Value) (s : Shared)
    (Q E : Value → Shared → Prop),
    Below A₀ base outer h₀ → Fr h₀ L s.heap m → (Mine.hd.heap_39 c.w.params).In h₀ →
    Top c.p c.loose c.mean c.mg c.mb h₀ → cs.kind = .function → dp + k < recursionLimit → un + 8 * k < cLine → Pre s.heap →
    (∀ v s', Out s.heap Ret s v s' → Q v s') →
    wpAny (model PySem.Challenge.rw_pq0170_01.row.prog c.w) (ktrTop dp un gd cn cs L a ccd cl outer) (call (.ref f) vs) Q E s

theorem Fr.grow {h₀ h h' : Heap} {L : Addr} {m : Str → Option Value} (F : Fr h₀ L h m) (k : HLe h h') : Fr h₀ L h' m := F.keeps k
theorem News.grow {h₀ h h' : Heap} {L : Addr} {m : Str → Option Value} {news own : Led} (F : Fr h₀ L h m) (N : News h₀ L h news) (k : HLe h h') (O : Own h h' own) : News h₀ L h' (own ++ news) := by
  intro p hp
  rcases List.mem_append.mp hp with hp | hp
  · have := O p hp
    refine ⟨this.1, fun e => ?_, ?_⟩
    · obtain ⟨oL, _, _, hL, _⟩ := F.ns
      rw [e, hL] at this; cases this.2
    · cases q : h₀.get? p.1 with
      | none => rfl
      | some o => rw [F.keep _ _ q] at this; cases this.2
  · exact ⟨k _ _ (N p hp).1, (N p hp).2⟩

/-- the use of a contract: frame, ledger and what was kept -/
theorem tell_use {w : World} {pp : Program} {loose : List Str} {mean : ExcName → Option Value} {mg mb : Str → Option Value} {f : Addr} {k : Nat} {vs : List Value} {Pre : Heap → Prop} {Ret : Led → Value → Prop} (C : Tell ⟨w, pp, loose, mean, mg, mb⟩ f k vs Pre Ret)
    {dp un : Nat} {gd : Option (List Code)} {cn : Str} {cs : Scope} {a : Addr} {ccd : Value} {cl : List (Str × Addr)} {outer : List Env} {A₀ : Around} {base h₀ : Heap} {L : Addr} {m : Str → Option Value} {s : Shared} {news : Led}
    {Q E : Value → Shared → Prop}
    (B : Below A₀ base outer h₀) (F : Fr h₀ L s.heap m) (X : (Mine.hd.heap_39 w.params).In h₀) (N : News h₀ L s.heap news)
    (T : Top pp loose mean mg mb h₀) (hk : cs.kind = .function) (hd : dp + k < recursionLimit) (hu : un + 8 * k < cLine) (P : Pre s.heap)
    (ret : ∀ r own h' tk', Ret own r → HLe s.heap h' → Own s.heap h' own → Fr h₀ L h' m → News h₀ L h' (own ++ news) → Q r { s with heap := h', toks := tk' }) :
    wpAny (model PySem.Challenge.rw_pq0170_01.row.prog w) (ktrTop dp un gd cn cs L a ccd cl outer) (call (.ref f) vs) Q E s :=
  C dp un gd cn cs a ccd cl outer A₀ base h₀ L m s Q E B F X T hk hd hu P (by
    rintro v s' ⟨own, h', tk', rfl, hr, hk', ho⟩
    exact ret v own h' tk' hr hk' ho (Fr.grow F hk') (News.grow F N hk' ho))

theorem Out.intro {g h' : Heap} {L : Addr} {m : Str → Option Value} {news : Led} {Ret : Led → Value → Prop} {s : Shared} {v : Value} {tk : Nat} (own : Led) (F : Fr g L h' m) (N : News g L h' news) (sub : ∀ p ∈ own, p ∈ news) (r : Ret own v) :
    Out g Ret s v { s with heap := h', toks := tk } := ⟨own, h', tk, rfl, r, F.keep, fun p hp => ⟨(N p (sub p hp)).1, (N p (sub p hp)).2.2⟩⟩

theorem Own.old {g h h' : Heap} {own : Led} (k : HLe g h) (O : Own h h' own) : Own g h' own := fun p hp => ⟨(O p hp).1, by
  cases q : g.get? p.1 with
  | none => rfl
  | some o => have := (O p hp).2; rw [k _ _ q] at this; cases this⟩
theorem Out.pass {g h h' : Heap} {L : Addr} {m : Str → Option Value} {Ret : Led → Value → Prop} {s : Shared} {v : Value} {tk : Nat} {own : Led} (F : Fr g L h m) (k : HLe h h') (O : Own h h' own) (r : Ret own v) :
    Out g Ret s v { s with heap := h', toks := tk } := ⟨own, h', tk, rfl, r, HLe.trans F.keep k, Own.old F.keep O⟩

section
variable {prog : Program} {w : World} {A₀ A : Around} {s : Shared} {K : Frag} {L : Addr} {h₀ base : Heap} {m mg mb : Str → Option Value} {p : Program} {loose : List Str} {mean : ExcName → Option Value} {env : Env} {outer : List Env}
  {name qual : Str} {params : Arguments} {body : List Stmt} {scope : Scope} {dV kV doc pm cdv ct oc : Value} {an od : Option Addr} {osl : Array (Option Value)} {f : Addr} {args : Args} {binds : List (Str × Value)} {Q E : Value → Shared → Prop}

theorem enter_plain (Pre : Heap → Prop) (Ret : Led → Value → Prop) (B : Below A₀ base outer h₀) (F : Fr h₀ L s.heap m) (X₀ : K.In h₀) (T : Top p loose mean mg mb h₀) (hA : A.frames = some (env :: outer)) (hf : env.frame = some L) (hke : env.scope.kind = .function)
    (ho : K.lookup f = some ⟨oc, od, .func (fnOf name qual params body scope dV kV doc pm an cdv ct), osl⟩) (hcd : codeIn K cdv qual = true) (hroom : A.depth < recursionLimit)
    (hbind : BindsTo s (fnOf name qual params body scope dV kV doc pm an cdv ct) args binds) (hloc : ∀ y ∈ binds, scope.names.lookup y.1 = some .local) (P : Pre s.heap) (ret : ∀ v s', Out s.heap Ret s v s' → Q v s')
    (hco : scope.isCoroutine = false) (hgen : scope.isGenerator = false) (hk : scope.kind = .function) (hcell : ∀ x ∈ scope.names, x.2 ≠ .cell)
    (h : ∀ g L' h₁, Fr g L' h₁ (fun y => binds.reverse.lookup y) → News g L' h₁ [] → Below A base (env :: outer) g → K.In g → Top p loose mean mg mb g → Pre g →
      wpAny (model prog w) (A.deeper (envOf qual scope L' f cdv)) (execs body (envOf qual scope L' f cdv)) (fun fl s' => Out g Ret s (match fl with | .ret v => v | _ => .none) s') (fun _ _ => False) { s with heap := h₁, toks := s.toks + binds.length }) :
    wpAny (model prog w) A (call (.ref f) args.pos args.kw) Q E s := by
  refine wpAny_call ?_
  obtain ⟨FG, BG, st, -⟩ := groundX (R := fun _ _ => True) B F News.nil hA hf hke
  refine codeAny_call_def (fd := fnOf name qual params body scope dV kV doc pm an cdv ct) (body := body) (binds := binds) hroom ((X₀.keeps F.keep) _ _ ho) rfl (T.nolimit.keeps F.keep) (codeRec_of (X₀.keeps F.keep) hcd) rfl hbind hcell hloc (fun h₁ hns hk₁ => ?_) hco hgen hk
  exact wpAny_mono (h s.heap s.heap.objs.size h₁ ⟨hns, hk₁, Nat.le_refl _⟩ News.nil BG (X₀.keeps F.keep) (T.keeps F.keep) P) (fun fl s' hl => ret _ _ hl) fun _ _ x => x.elim

theorem enter_cells (Pre : Heap → Prop) (Ret : Led → Value → Prop) (B : Below A₀ base outer h₀) (F : Fr h₀ L s.heap m) (X₀ : K.In h₀) (T : Top p loose mean mg mb h₀) (hA : A.frames = some (env :: outer)) (hf : env.frame = some L) (hke : env.scope.kind = .function)
    (ho : K.lookup f = some ⟨oc, od, .func (fnOf name qual params body scope dV kV doc pm an cdv ct), osl⟩) (hcd : codeIn K cdv qual = true) (hroom : A.depth < recursionLimit)
    (hbind : BindsTo s (fnOf name qual params body scope dV kV doc pm an cdv ct) args binds) (hkind : (binds.all fun y => scope.names.lookup y.1 == some .local || scope.names.lookup y.1 == some .cell) = true)
    (hnd : ((cellsFrom 0 scope.names []).map (·.1)).Nodup) (P : Pre s.heap) (ret : ∀ v s', Out s.heap Ret s v s' → Q v s')
    (hco : scope.isCoroutine = false) (hgen : scope.isGenerator = false) (hk : scope.kind = .function)
    (h : ∀ g L' h₁ tk cells, Fr g L' h₁ (bindL (envOfC qual scope L' f cdv).kindOf binds fun _ => none) → News g L' h₁ cells →
      CellsAre (bindC (envOfC qual scope L' f cdv).kindOf binds fun _ => none) (cellsFrom (L' + 1) scope.names []) cells → Below A base (env :: outer) g → K.In g → Top p loose mean mg mb g → Pre g →
      wpAny (model prog w) (A.deeper (envOfC qual scope L' f cdv)) (execs body (envOfC qual scope L' f cdv)) (fun fl s' => Out g Ret s (match fl with | .ret v => v | _ => .none) s') (fun _ _ => False) { s with heap := h₁, toks := tk }) :
    wpAny (model prog w) A (call (.ref f) args.pos args.kw) Q E s := by
  refine wpAny_call ?_
  obtain ⟨FG, BG, st, -⟩ := groundX (R := fun _ _ => True) B F News.nil hA hf hke
  refine codeAny_call_function ((hroom)) ((X₀.keeps F.keep) _ _ ho) rfl hco hgen rfl (codeRec_of (X₀.keeps F.keep) hcd) (hbind _ _ _ _ ?_)
  refine wpAny_newFunctionEnv_cells hk (kindsX hkind _) fun env' he s' x => ?_
  subst he
  refine ⟨(T.nolimit.keeps F.keep).keeps x.toInCall.keep, codeAny_func ?_⟩
  obtain ⟨h₁, tk, rfl, _⟩ := x.done
  obtain ⟨cells, NC, Y⟩ := Cl.news (h₀ := s.heap) (Nat.le_refl _) fun n c hm => ⟨x.cell n c (lookup_of_mem_nodup (cellsFrom_names scope.names 0 (s.heap.objs.size + 1) [] [] rfl ▸ hnd) hm), x.above n c hm⟩
  exact wpAny_mono (h s.heap s.heap.objs.size h₁ tk cells ⟨x.toInCall.ns, x.toInCall.keep, Nat.le_refl _⟩ NC Y BG (X₀.keeps F.keep) (T.keeps F.keep) P) (fun fl s' hl => ret _ _ hl) fun _ _ y => y.elim
end

section
variable {c : Cx} {name qual : Str} {params : Arguments} {body : List Stmt} {scope : Scope} {dV kV doc pm cdv ct oc : Value} {an od : Option Addr} {osl : Array (Option Value)} {f : Addr} {k : Nat} {vs : List Value} {binds : List (Str × Value)} {Pre : Heap → Prop} {Ret : Led → Value → Prop}
theorem tell_plain
    (ho : (Mine.hd.heap_39 c.w.params).lookup f = some ⟨oc, od, .func (fnOf name qual params body scope dV kV doc pm an cdv ct), osl⟩) (hcd : codeIn (Mine.hd.heap_39 c.w.params) cdv qual = true)
    (hbind : ∀ s, BindsTo s (fnOf name qual params body scope dV kV doc pm an cdv ct) ⟨vs, []⟩ binds) (hloc : ∀ y ∈ binds, scope.names.lookup y.1 = some .local)
    (hco : scope.isCoroutine = false) (hgen : scope.isGenerator = false) (hk : scope.kind = .function) (hcell : ∀ x ∈ scope.names, x.2 ≠ .cell)
    (h : ∀ (dp un : Nat) (gd : Option (List Code)) (cn : Str) (cs : Scope) (a : Addr) (ccd : Value) (cl : List (Str × Addr)) (outer : List Env) (base g : Heap) (L L' : Addr) (h₁ : Heap) (s : Shared) (tk : Nat),
      dp + k < recursionLimit → un + 8 * k < cLine → cs.kind = .function →
      Below (ktrTop dp un gd cn cs L a ccd cl outer) base (envX cn cs L a ccd cl :: outer) g → Fr g L' h₁ (fun y => binds.reverse.lookup y) → (Mine.hd.heap_39 c.w.params).In g → News g L' h₁ [] →
      Top c.p c.loose c.mean c.mg c.mb g → Pre g →
      wpAny (model PySem.Challenge.rw_pq0170_01.row.prog c.w) ((ktrTop dp un gd cn cs L a ccd cl outer).deeper (envOf qual scope L' f cdv)) (execs body (envOf qual scope L' f cdv)) (fun fl s' => Out g Ret s (match fl with | .ret v => v | _ => .none) s') (fun _ _ => False) { s with heap := h₁, toks := tk }) :
    Tell c f k vs Pre Ret := by
  intro dp un gd cn cs a ccd cl outer A₀ base h₀ L m s Q E B F X T hke hd hu P hret
  refine enter_plain (args := ⟨vs, []⟩) Pre Ret B F X T (env := envX cn cs L a ccd cl) (outer := outer) rfl rfl hke ho hcd (Nat.lt_of_le_of_lt (Nat.le_add_right _ _) hd) (hbind s) hloc P hret hco hgen hk hcell ?_
  intro g L' h₁ F' N' B' X' T' P'
  exact h dp un gd cn cs a ccd cl outer base g L L' h₁ s _ hd hu hke ⟨rfl, B'.stays, B'.frames⟩ F' X' N' T' P'
theorem tell_cells {mm : Str → Option Value} {CC : Addr → Led → Prop}
    (ho : (Mine.hd.heap_39 c.w.params).lookup f = some ⟨oc, od, .func (fnOf name qual params body scope dV kV doc pm an cdv ct), osl⟩) (hcd : codeIn (Mine.hd.heap_39 c.w.params) cdv qual = true)
    (hbind : ∀ s, BindsTo s (fnOf name qual params body scope dV kV doc pm an cdv ct) ⟨vs, []⟩ binds) (hkind : (binds.all fun y => scope.names.lookup y.1 == some .local || scope.names.lookup y.1 == some .cell) = true)
    (hnd : ((cellsFrom 0 scope.names []).map (·.1)).Nodup)
    (hco : scope.isCoroutine = false) (hgen : scope.isGenerator = false) (hk : scope.kind = .function)
    (hmm : ∀ L', bindL (envOfC qual scope L' f cdv).kindOf binds (fun _ => none) = mm)
    (hCC : ∀ L' cells, CellsAre (bindC (envOfC qual scope L' f cdv).kindOf binds fun _ => none) (cellsFrom (L' + 1) scope.names []) cells → CC L' cells)
    (h : ∀ (dp un : Nat) (gd : Option (List Code)) (cn : Str) (cs : Scope) (a : Addr) (ccd : Value) (cl : List (Str × Addr)) (outer : List Env) (base g : Heap) (L L' : Addr) (h₁ : Heap) (s : Shared) (tk : Nat) (cells : Led),
      dp + k < recursionLimit → un + 8 * k < cLine → cs.kind = .function →
      Below (ktrTop dp un gd cn cs L a ccd cl outer) base (envX cn cs L a ccd cl :: outer) g → Fr g L' h₁ mm → (Mine.hd.heap_39 c.w.params).In g → News g L' h₁ cells → CC L' cells →
      Top c.p c.loose c.mean c.mg c.mb g → Pre g →
      wpAny (model PySem.Challenge.rw_pq0170_01.row.prog c.w) ((ktrTop dp un gd cn cs L a ccd cl outer).deeper (envOfC qual scope L' f cdv)) (execs body (envOfC qual scope L' f cdv)) (fun fl s' => Out g Ret s (match fl with | .ret v => v | _ => .none) s') (fun _ _ => False) { s with heap := h₁, toks := tk }) :
    Tell c f k vs Pre Ret := by
  intro dp un gd cn cs a ccd cl outer A₀ base h₀ L m s Q E B F X T hke hd hu P hret
  refine enter_cells (args := ⟨vs, []⟩) Pre Ret B F X T (env := envX cn cs L a ccd cl) (outer := outer) rfl rfl hke ho hcd (Nat.lt_of_le_of_lt (Nat.le_add_right _ _) hd) (hbind s) hkind hnd P hret hco hgen hk ?_
  intro g L' h₁ tk cells F' N' Y' B' X' T' P'
  exact h dp un gd cn cs a ccd cl outer base g L L' h₁ s tk cells hd hu hke ⟨rfl, B'.stays, B'.frames⟩ (hmm L' ▸ F') X' N' (hCC _ _ Y') T' P'
theorem tell_at (H : ∀ h, Pre h → Tell c f k vs (fun h' => h' = h) Ret) : Tell c f k vs Pre Ret := by
  intro dp un gd cn cs a ccd cl outer A₀ base h₀ L m s Q E B F X T hke hd hu P hret
  exact H s.heap P dp un gd cn cs a ccd cl outer A₀ base h₀ L m s Q E B F X T hke hd hu rfl hret
end

/-- an int comes back -/
noncomputable abbrev RInt (x : Int) (own : Led) (r : Value) : Prop := own = [] ∧ ∃ t, r = .int x t
noncomputable abbrev tupObj (vs : List Value) (c : Nat) : Obj := { cls := .type "tuple", data := .seq vs.toArray c }
noncomputable abbrev lstObj (vs : List Value) (c : Nat) : Obj := { cls := .type "list", data := .seq vs.toArray c }
noncomputable abbrev tup2 (a : Int) (t : Tok) (b : Int) (u : Tok) (c : Nat) : Obj := tupObj [Value.int a t, Value.int b u] c
/-- a new pair of ints comes back -/
noncomputable abbrev RPair (x y : Int) (own : Led) (r : Value) : Prop := ∃ D t u c, r = .ref D ∧ own = [(D, tup2 x t y u c)]
/-- v is a pair of ints in h -/
noncomputable def PairAt (h : Heap) (v : Value) (x y : Int) : Prop := ∃ D t u, v = .ref D ∧ IsTup h D [Value.int x t, Value.int y u].toArray
noncomputable def RatAt (h : Heap) (v : Value) (q : Rat) : Prop := PairAt h v q.num q.den
noncomputable def RRat (q : Rat) (own : Led) (r : Value) : Prop := RPair q.num q.den own r
/- a contract whose result is an int, a pair: used without a case split; the sides are sought at the use -/
section
variable {w : World} {pp : Program} {loose : List Str} {mean : ExcName → Option Value} {mg mb : Str → Option Value} {f : Addr} {k : Nat} {vs : List Value} {Pre : Heap → Prop} {x y : Int}
    {dp un : Nat} {gd : Option (List Code)} {cn : Str} {cs : Scope} {a : Addr} {ccd : Value} {cl : List (Str × Addr)} {outer : List Env} {A₀ : Around} {base h₀ : Heap} {L : Addr} {m : Str → Option Value} {s : Shared} {news : Led}
    {Q E : Value → Shared → Prop}
theorem tell_int (C : Tell ⟨w, pp, loose, mean, mg, mb⟩ f k vs Pre (RInt x))
    (B : Below A₀ base outer h₀) (F : Fr h₀ L s.heap m) (X : (Mine.hd.heap_39 w.params).In h₀) (N : News h₀ L s.heap news)
    (T : Top pp loose mean mg mb h₀) (hk : cs.kind = .function) (hd : dp + k < recursionLimit) (hu : un + 8 * k < cLine) (P : Pre s.heap)
    (ret : ∀ t h' tk', HLe s.heap h' → Fr h₀ L h' m → News h₀ L h' news → Q (.int x t) { s with heap := h', toks := tk' }) :
    wpAny (model PySem.Challenge.rw_pq0170_01.row.prog w) (ktrTop dp un gd cn cs L a ccd cl outer) (call (.ref f) vs) Q E s := by
  refine tell_use C B F X N T hk hd hu P ?_
  intro r own h' tk' hr k' _ F' N'
  obtain ⟨e, t, e'⟩ := hr
  subst e
  subst e'
  exact ret t h' tk' k' F' N'
theorem call_int (C : Tell ⟨w, pp, loose, mean, mg, mb⟩ f k vs Pre (RInt x)) (P : Pre s.heap)
    (ret : ∀ t h' tk', Fr h₀ L h' m → News h₀ L h' news → Q (.int x t) { s with heap := h', toks := tk' })
    (B : Below A₀ base outer h₀ := by k_asm) (F : Fr h₀ L s.heap m := by k_asm) (X : (Mine.hd.heap_39 w.params).In h₀ := by k_asm) (N : News h₀ L s.heap news := by k_asm)
    (T : Top pp loose mean mg mb h₀ := by k_asm) (hk : cs.kind = .function := by first | exact rfl | assumption) (hd : dp + k < recursionLimit := by ktr_room) (hu : un + 8 * k < cLine := by ktr_units) :
    wpAny (model PySem.Challenge.rw_pq0170_01.row.prog w) (ktrTop dp un gd cn cs L a ccd cl outer) (call (.ref f) vs) Q E s :=
  tell_int C B F X N T hk hd hu P fun t h' tk' _ F' N' => ret t h' tk' F' N'
theorem call_pair (C : Tell ⟨w, pp, loose, mean, mg, mb⟩ f k vs Pre (RPair x y)) (P : Pre s.heap)
    (ret : ∀ D t u c h' tk', Fr h₀ L h' m → News h₀ L h' ((D, tup2 x t y u c) :: news) → Q (.ref D) { s with heap := h', toks := tk' })
    (B : Below A₀ base outer h₀ := by k_asm) (F : Fr h₀ L s.heap m := by k_asm) (X : (Mine.hd.heap_39 w.params).In h₀ := by k_asm) (N : News h₀ L s.heap news := by k_asm)
    (T : Top pp loose mean mg mb h₀ := by k_asm) (hk : cs.kind = .function := by first | exact rfl | assumption) (hd : dp + k < recursionLimit := by ktr_room) (hu : un + 8 * k < cLine := by ktr_units) :
    wpAny (model PySem.Challenge.rw_pq0170_01.row.prog w) (ktrTop dp un gd cn cs L a ccd cl outer) (call (.ref f) vs) Q E s := by
  refine tell_use C B F X N T hk hd hu P ?_
  intro r own h' tk' hr _ _ F' N'
  obtain ⟨D, t, u, c, e, e'⟩ := hr
  subst e
  subst e'
  exact ret D t u c h' tk' F' N'
theorem call_pairO (C : Tell ⟨w, pp, loose, mean, mg, mb⟩ f k vs Pre (RPair x y)) (P : Pre s.heap)
    (ret : ∀ D t u c h' tk', HLe s.heap h' → Own s.heap h' [(D, tup2 x t y u c)] → Fr h₀ L h' m → News h₀ L h' ((D, tup2 x t y u c) :: news) → Q (.ref D) { s with heap := h', toks := tk' })
    (B : Below A₀ base outer h₀ := by k_asm) (F : Fr h₀ L s.heap m := by k_asm) (X : (Mine.hd.heap_39 w.params).In h₀ := by k_asm) (N : News h₀ L s.heap news := by k_asm)
    (T : Top pp loose mean mg mb h₀ := by k_asm) (hk : cs.kind = .function := by first | exact rfl | assumption) (hd : dp + k < recursionLimit := by ktr_room) (hu : un + 8 * k < cLine := by ktr_units) :
    wpAny (model PySem.Challenge.rw_pq0170_01.row.prog w) (ktrTop dp un gd cn cs L a ccd cl outer) (call (.ref f) vs) Q E s := by
  refine tell_use C B F X N T hk hd hu P ?_
  intro r own h' tk' hr k' O' F' N'
  obtain ⟨D, t, u, c, e, e'⟩ := hr
  subst e
  subst e'
  exact ret D t u c h' tk' k' O' F' N'
theorem call_rats {D E' : Addr} {p q z : Rat} {t u t' u' : Tok} (i1 : IsTup s.heap D [Value.int p.num t, Value.int p.den u].toArray) (i2 : IsTup s.heap E' [Value.int q.num t', Value.int q.den u'].toArray)
    (C : Tell ⟨w, pp, loose, mean, mg, mb⟩ f k [.ref D, .ref E'] (fun h => RatAt h (.ref D) p ∧ RatAt h (.ref E') q) (RRat z))
    (ret : ∀ D t u c h' tk', HLe s.heap h' → Own s.heap h' [(D, tup2 z.num t z.den u c)] → Fr h₀ L h' m → News h₀ L h' ((D, tup2 z.num t z.den u c) :: news) → Q (.ref D) { s with heap := h', toks := tk' })
    (B : Below A₀ base outer h₀ := by k_asm) (F : Fr h₀ L s.heap m := by k_asm) (X : (Mine.hd.heap_39 w.params).In h₀ := by k_asm) (N : News h₀ L s.heap news := by k_asm)
    (T : Top pp loose mean mg mb h₀ := by k_asm) (hk : cs.kind = .function := by first | exact rfl | assumption) (hd : dp + k < recursionLimit := by ktr_room) (hu : un + 8 * k < cLine := by ktr_units) :
    wpAny (model PySem.Challenge.rw_pq0170_01.row.prog w) (ktrTop dp un gd cn cs L a ccd cl outer) (call (.ref f) [.ref D, .ref E']) Q E s :=
  call_pairO C ⟨⟨_, _, _, rfl, i1⟩, ⟨_, _, _, rfl, i2⟩⟩ ret B F X N T hk hd hu
end
/-- the walk is to stop here -/
noncomputable def Stop9 (P : Prop) : Prop := P
theorem Stop9.of {P : Prop} (h : Stop9 P) : P := h
theorem Stop9.mk {P : Prop} (h : P) : Stop9 P := h
theorem stop_call {M : Model} {A : Around} {E : Value → Shared → Prop} {s : Shared} {a : Addr} {Q : Value → Shared → Prop} {vs : List Value} (h : Stop9 (wpAny M A (call (.ref a) vs) Q E s)) : wpAny M A (call (.ref a) vs) Q E s := h
end

local macro_rules | `(tactic| walk_at "my behind") => `(tactic| (intros; (try k_sweep); (try dsimp only); (try k_fold)))

/- D1 -/
section
theorem fill_D1 : ∀ c f k vs P R, Tell c f k vs P R → True := by
  w_top off
  unfold Tell
  k_fill
  intros
  trivial

theorem gcd_start (a b : Int) : (0 ≤ (if a < 0 then -a else a)) ∧ 0 ≤ (if b < 0 then -b else b) ∧ Int.gcd (if a < 0 then -a else a) (if b < 0 then -b else b) = Int.gcd a b := by
  refine ⟨by split <;> omega, by split <;> omega, ?_⟩
  split <;> split <;> simp
theorem gcd_turn {x y : Int} {g : Nat} (hx : 0 ≤ x) (hy : 0 ≤ y) (h : 0 < y) (e : Int.gcd x y = g) : 0 ≤ y ∧ 0 ≤ Int.fmod x y ∧ Int.gcd y (Int.fmod x y) = g := by
  refine ⟨hy, Int.fmod_nonneg_of_pos _ h, ?_⟩
  rw [Int.fmod_eq_emod_of_nonneg _ hy]
  obtain ⟨m, rfl⟩ := Int.eq_ofNat_of_zero_le hx
  obtain ⟨n, rfl⟩ := Int.eq_ofNat_of_zero_le hy
  rw [← Int.natCast_emod, Int.gcd_natCast_natCast] at *
  rw [← e, Nat.gcd_comm m n, Nat.gcd_rec n m, Nat.gcd_comm]
theorem gcd_less {x y : Int} (h : 0 < y) : (Int.fmod x y).toNat < y.toNat := by
  have := Int.fmod_nonneg_of_pos x h
  have := Int.fmod_lt_of_pos x h
  omega
theorem gcd_end {x y : Int} {g : Nat} (hx : 0 ≤ x) (hy : 0 ≤ y) (h : ¬ 0 < y) (e : Int.gcd x y = g) : x = g := by
  have : y = 0 := by omega
  subst this
  rw [Int.gcd_zero_right] at e
  omega
theorem t_common_divisor (c : Cx) (a b : Int) (t u : Tok) : Tell c 89 1 [.int a t, .int b u] (fun _ => True) (RInt (Int.gcd a b)) := by
  refine' tell_plain (binds := [(Str.ofString "one", .int a t), (Str.ofString "other", .int b u)]) ?ho ?hcd ?hbind ?hloc ?hco ?hgen ?hk ?hcell ?_
  (case ho => k_is)
  (case hcd => k_is)
  (case hbind => (intro _; exact BindsTo.of_eq rfl))
  (case hloc => exact locs rfl)
  (case hco => exact rfl)
  (case hgen => exact rfl)
  (case hk => exact rfl)
  (case hcell => decide)
  intro dp un gd cn cs a' ccd cl outer base g L L' h₁ s tk hd hu hke B' F' X' N' T' P'
  k_with_none
  k_with "exec While Compare cons nil" => k_while (fun script x y => 0 ≤ x ∧ 0 ≤ y ∧ Int.gcd x y = Int.gcd a b) (fun script x y => y.toNat) "one" "other"
  k_with "state" => first | exact gcd_start _ _ | exact gcd_turn (by assumption) (by assumption) (by assumption) (by assumption)
  k_with "measure" => exact gcd_less (by assumption)
  (try dsimp only)
  k_steps
  all_goals exact Out.intro [] (by assumption) (by assumption) (fun _ h => nomatch h) ⟨rfl, _, congrArg (Value.int · _) (gcd_end (by assumption) (by assumption) (by assumption) (by assumption))⟩
end

/- D2 -/
section
theorem fill_D2 : ∀ c f k vs P R, Tell c f k vs P R → True := by
  w_top off
  unfold Tell
  k_fill
  intros
  trivial

local macro_rules | `(tactic| walk_at "call ref") => `(tactic| (k_here; k_dflt (refine' call_int (t_common_divisor _ _ _ _ _) trivial ?_); walk_at "my behind"))

local macro_rules | `(tactic| walk_at "binaryOp FloorDiv int int") => `(tactic| (k_here; (with_reducible refine floordiv_int ?my1 ?_ (Or.inl ?my2)); (case my2 => assumption); (case my1 => omega)))

theorem t_fraction (c : Cx) (a b : Int) (t u : Tok) (hb : b ≠ 0) (hs : Builtin.Int.intBits b ≤ 8999) : Tell c 96 2 [.int a t, .int b u] (fun _ => True) (RRat (Rat.divInt a b)) := by
  refine' tell_plain (binds := [(Str.ofString "above", .int a t), (Str.ofString "below", .int b u)]) ?ho ?hcd ?hbind ?hloc ?hco ?hgen ?hk ?hcell ?_
  (case ho => k_is)
  (case hcd => k_is)
  (case hbind => (intro _; exact BindsTo.of_eq rfl))
  (case hloc => exact locs rfl)
  (case hco => exact rfl)
  (case hgen => exact rfl)
  (case hk => exact rfl)
  (case hcell => decide)
  intro dp un gd cn cs a' ccd cl outer base g L L' h₁ s tk hd hu hke B' F' X' N' T' P'
  k_with_none
  have hg := gcd_ne a b hb
  have p1 := noPy_gcd a (a := a) hb hs
  have p2 := noPy_gcd b (a := a) hb hs
  have p3 := noPy_gcd_neg a (a := a) hb hs
  have p4 := noPy_gcd_neg b (a := a) hb hs
  (try dsimp only)
  k_steps
  all_goals first
    | (have e := frac_pos a b (by omega); unfold RRat; rw [e.1, e.2]; exact Out.intro [_] (by assumption) (by assumption) (fun _ h => by rw [List.mem_singleton.mp h]; exact List.mem_cons_self) ⟨_, _, _, _, rfl, rfl⟩)
    | (have e := frac_neg a b (by omega); unfold RRat; rw [e.1, e.2]; exact Out.intro [_] (by assumption) (by assumption) (fun _ h => by rw [List.mem_singleton.mp h]; exact List.mem_cons_self) ⟨_, _, _, _, rfl, rfl⟩)

local macro_rules | `(tactic| walk_at "call ref") => `(tactic| (k_here; k_dflt (refine' call_pair (t_fraction _ _ _ _ _ (by assumption) (by assumption)) trivial ?_); walk_at "my behind"))

theorem t_fraction_times (c : Cx) (v1 v2 : Value) (p q : Rat) (hp : Fit 4000 p) (hq : Fit 4000 q) : Tell c 110 3 [v1, v2] (fun h => RatAt h v1 p ∧ RatAt h v2 q) (RRat (p * q)) := by
  refine tell_at ?_
  rintro g₀ ⟨⟨D1, t1, t2, rfl, h1⟩, ⟨D2, t3, t4, rfl, h2⟩⟩
  refine' tell_plain (binds := [(Str.ofString "one", .ref D1), (Str.ofString "other", .ref D2)]) ?ho ?hcd ?hbind ?hloc ?hco ?hgen ?hk ?hcell ?_
  (case ho => k_is)
  (case hcd => k_is)
  (case hbind => (intro _; exact BindsTo.of_eq rfl))
  (case hloc => exact locs rfl)
  (case hco => exact rfl)
  (case hgen => exact rfl)
  (case hk => exact rfl)
  (case hcell => decide)
  rintro dp un gd cn cs a' ccd cl outer base g L L' h₁ s tk hd hu hke B' F' X' N' T' rfl
  k_with_none
  have m1 := hp.okNN hq (by decide)
  have m2 := hp.okDD hq (by decide)
  have m3 := mul_ne (den_ne p) (den_ne q)
  have m4 : Builtin.Int.intBits ((p.den : Int) * q.den) ≤ 8999 := Nat.le_trans (bits_mul hp.2 hq.2) (by decide)
  (try dsimp only)
  k_steps
  all_goals (try w_report)
  all_goals (rw [← rat_mul]; exact Out.intro [_] (by assumption) (by assumption) (fun _ h => by rw [List.mem_singleton.mp h]; exact List.mem_cons_self) ⟨_, _, _, _, rfl, rfl⟩)

theorem t_fraction_less (c : Cx) (v1 v2 : Value) (p q : Rat) (hp : Fit 4000 p) (hq : Fit 4000 q) : Tell c 117 3 [v1, v2] (fun h => RatAt h v1 p ∧ RatAt h v2 q) (RRat (p - q)) := by
  refine tell_at ?_
  rintro g₀ ⟨⟨D1, t1, t2, rfl, h1⟩, ⟨D2, t3, t4, rfl, h2⟩⟩
  refine' tell_plain (binds := [(Str.ofString "one", .ref D1), (Str.ofString "other", .ref D2)]) ?ho ?hcd ?hbind ?hloc ?hco ?hgen ?hk ?hcell ?_
  (case ho => k_is)
  (case hcd => k_is)
  (case hbind => (intro _; exact BindsTo.of_eq rfl))
  (case hloc => exact locs rfl)
  (case hco => exact rfl)
  (case hgen => exact rfl)
  (case hk => exact rfl)
  (case hcell => decide)
  rintro dp un gd cn cs a' ccd cl outer base g L L' h₁ s tk hd hu hke B' F' X' N' T' rfl
  k_with_none
  have m1 := hp.okND hq (by decide)
  have m2 := hq.okND hp (by decide)
  have m5 := hp.okDD hq (by decide)
  have m3 := mul_ne (den_ne p) (den_ne q)
  have m4 : Builtin.Int.intBits ((p.den : Int) * q.den) ≤ 8999 := Nat.le_trans (bits_mul hp.2 hq.2) (by decide)
  (try dsimp only)
  k_steps
  all_goals (try w_report)
  all_goals (rw [← rat_sub]; exact Out.intro [_] (by assumption) (by assumption) (fun _ h => by rw [List.mem_singleton.mp h]; exact List.mem_cons_self) ⟨_, _, _, _, rfl, rfl⟩)

theorem t_fraction_by (c : Cx) (v1 v2 : Value) (p q : Rat) (hp : Fit 4000 p) (hq : Fit 4000 q) (h0 : q ≠ 0) : Tell c 124 3 [v1, v2] (fun h => RatAt h v1 p ∧ RatAt h v2 q) (RRat (p / q)) := by
  refine tell_at ?_
  rintro g₀ ⟨⟨D1, t1, t2, rfl, h1⟩, ⟨D2, t3, t4, rfl, h2⟩⟩
  refine' tell_plain (binds := [(Str.ofString "one", .ref D1), (Str.ofString "other", .ref D2)]) ?ho ?hcd ?hbind ?hloc ?hco ?hgen ?hk ?hcell ?_
  (case ho => k_is)
  (case hcd => k_is)
  (case hbind => (intro _; exact BindsTo.of_eq rfl))
  (case hloc => exact locs rfl)
  (case hco => exact rfl)
  (case hgen => exact rfl)
  (case hk => exact rfl)
  (case hcell => decide)
  rintro dp un gd cn cs a' ccd cl outer base g L L' h₁ s tk hd hu hke B' F' X' N' T' rfl
  k_with_none
  have m1 := hp.okND hq (by decide)
  have m2 := hp.okDN hq (by decide)
  have m3 := mul_ne (den_ne p) (fun e => h0 (Rat.num_eq_zero.mp e))
  have m4 : Builtin.Int.intBits ((p.den : Int) * q.num) ≤ 8999 := Nat.le_trans (bits_mul hp.2 hq.1) (by decide)
  (try dsimp only)
  k_steps
  all_goals (try w_report)
  all_goals (rw [← rat_div]; exact Out.intro [_] (by assumption) (by assumption) (fun _ h => by rw [List.mem_singleton.mp h]; exact List.mem_cons_self) ⟨_, _, _, _, rfl, rfl⟩)
end

/- D3 -/
section
theorem fill_D3 : ∀ c f k vs P R, Tell c f k vs P R → True := by
  w_top off
  unfold Tell
  k_fill
  intros
  trivial

/-- f figures: the least f of 1 or more with n below 10 ^ f -/
noncomputable def Figs (n : Int) (f : Nat) : Prop := 1 ≤ f ∧ 0 ≤ n ∧ n < 10 ^ f ∧ (f = 1 ∨ 10 ^ (f - 1) ≤ n)

theorem pow10 (k : Nat) : ((10 ^ k : Nat) : Int) = 10 ^ k := by simp
theorem pow10_mono {a b : Nat} (h : a ≤ b) : (10 : Int) ^ a ≤ 10 ^ b := by
  rw [← pow10, ← pow10]
  exact Int.ofNat_le.mpr (Nat.pow_le_pow_right (by omega) h)
theorem figs_turn {n b m : Int} {f : Nat} (H : Figs n f) (h1 : 1 ≤ m ∧ m ≤ f ∧ b = 10 ^ m.toNat) (h : b ≤ n) : 1 ≤ m + 1 ∧ m + 1 ≤ f ∧ b * 10 = 10 ^ (m + 1).toNat := by
  obtain ⟨h1, h2, rfl⟩ := h1
  have e : (m + 1).toNat = m.toNat + 1 := by omega
  refine ⟨by omega, ?_, by rw [e, Int.pow_succ]⟩
  by_cases q : m = f
  · exfalso
    have : m.toNat = f := by omega
    rw [this] at h
    have := H.2.2.1
    omega
  · omega
theorem figs_end {n b m : Int} {f : Nat} (H : Figs n f) (h1 : 1 ≤ m ∧ m ≤ f ∧ b = 10 ^ m.toNat) (h : ¬ b ≤ n) : m = f := by
  obtain ⟨h1, h2, rfl⟩ := h1
  by_cases q : m = f
  · exact q
  · exfalso
    have : m.toNat ≤ f - 1 := by omega
    have k := pow10_mono this
    rcases H.2.2.2 with e | e <;> omega
theorem t_figures (c : Cx) (n : Int) (t : Tok) (f : Nat) (H : Figs n f) : Tell c 44 1 [.int n t] (fun _ => True) (RInt f) := by
  refine' tell_plain (binds := [(Str.ofString "number", .int n t)]) ?ho ?hcd ?hbind ?hloc ?hco ?hgen ?hk ?hcell ?_
  (case ho => k_is)
  (case hcd => k_is)
  (case hbind => (intro _; exact BindsTo.of_eq rfl))
  (case hloc => exact locs rfl)
  (case hco => exact rfl)
  (case hgen => exact rfl)
  (case hk => exact rfl)
  (case hcell => decide)
  intro dp un gd cn cs a' ccd cl outer base g L L' h₁ s tk hd hu hke B' F' X' N' T' P'
  k_with_none
  have hf := H.1
  k_with "exec While Compare cons nil" => k_while (fun script b m => 1 ≤ m ∧ m ≤ f ∧ b = 10 ^ m.toNat) (fun script b m => (f + 1 - m).toNat) "bound" "many"
  k_with "state" => first | (refine ⟨by omega, by omega, rfl⟩) | exact figs_turn H ⟨by assumption, by assumption, by assumption⟩ (by assumption)
  k_with "measure" => (have := figs_turn H ⟨by assumption, by assumption, by assumption⟩ (by assumption); omega)
  (try dsimp only)
  k_steps
  all_goals exact Out.intro [] (by assumption) (by assumption) (fun _ h => nomatch h) ⟨rfl, _, congrArg (Value.int · _) (figs_end H ⟨by assumption, by assumption, by assumption⟩ (by assumption))⟩
end

/- D4 -/
section
theorem fill_D4 : ∀ c f k vs P R, Tell c f k vs P R → True := by
  w_top off
  unfold Tell
  k_fill
  intros
  trivial

local macro_rules | `(tactic| walk_at "call ref") => `(tactic| (k_here; k_dflt (refine' call_int (t_figures _ _ _ _ (by assumption)) trivial ?_); walk_at "my behind"))

theorem t_rounded (c : Cx) (x N p : Int) (t u : Tok) (f : Nat) (H : Figs N f) (hf : 4 ≤ f) (hN : N = x * 100000) (hp : p = 5) : Tell c 51 2 [.int N t, .int p u] (fun _ => True) (RInt x) := by
  subst hp
  refine' tell_plain (binds := [(Str.ofString "number", .int N t), (Str.ofString "places", .int 5 u)]) ?ho ?hcd ?hbind ?hloc ?hco ?hgen ?hk ?hcell ?_
  (case ho => k_is)
  (case hcd => k_is)
  (case hbind => (intro _; exact BindsTo.of_eq rfl))
  (case hloc => exact locs rfl)
  (case hco => exact rfl)
  (case hgen => exact rfl)
  (case hk => exact rfl)
  (case hcell => decide)
  intro dp un gd cn cs a' ccd cl outer base g L L' h₁ s tk hd hu hke B' F' X' N' T' P'
  k_with_none
  have hq : Int.fdiv N 100000 = x := by rw [hN]; exact Int.mul_fdiv_cancel _ (by decide)
  have hr : Int.fmod N 100000 = 0 := by rw [hN]; exact Int.mul_fmod_left _ _
  (try dsimp only)
  k_steps
  all_goals (try w_report)
  all_goals exact Out.intro [] (by assumption) (by assumption) (fun _ h => nomatch h) ⟨rfl, _, congrArg (Value.int · _) (by first | assumption | omega)⟩
end

/- D5 -/
section
local macro_rules | `(tactic| walk_at "my none") => `(tactic| skip)
theorem fill_D5 : ∀ c f k vs P R, Tell c f k vs P R → True := by
  w_top off
  unfold Tell
  k_fill
  intros
  trivial

theorem figs_ex (k : Nat) : ∀ n : Int, 0 ≤ n → n < 10 ^ k → ∃ f, Figs n f := by
  induction k with
  | zero => intro n h0 h; exact ⟨1, by omega, h0, by omega, .inl rfl⟩
  | succ k ih =>
    intro n h0 h
    by_cases q : n < 10 ^ k
    · exact ih n h0 q
    · exact ⟨k + 1, by omega, h0, h, .inr (by simpa using Int.not_lt.mp q)⟩
theorem figs_le {n : Int} {f k : Nat} (H : Figs n f) (h : n < 10 ^ k) (hk : 1 ≤ k) : f ≤ k := by
  by_cases q : f ≤ k
  · exact q
  · exfalso
    rcases H.2.2.2 with e | e
    · omega
    · have := pow10_mono (a := k) (b := f - 1) (by omega)
      omega
open Classical in
noncomputable def figsOf (n : Int) : Nat := if h : ∃ f, Figs n f then choose h else 1
theorem figsOf_is {n : Int} {k : Nat} (h0 : 0 ≤ n) (h : n < 10 ^ k) : Figs n (figsOf n) := by
  have e := figs_ex k n h0 h
  unfold figsOf
  rw [dif_pos e]
  exact Classical.choose_spec e

/-- the state of the loop that drops noughts -/
noncomputable def Noughts (B z e : Int) : Prop := 0 < z ∧ ((e ≤ 0 ∧ z = B * 10 ^ (-e).toNat) ∨ (0 ≤ e ∧ z * 10 ^ e.toNat = B))
theorem noughts_turn {B z e : Int} (H : Noughts B z e) (h : Int.fmod z 10 = 0) : Noughts B (Int.fdiv z 10) (e + 1) := by
  obtain ⟨h0, H⟩ := H
  have hz : z = Int.fdiv z 10 * 10 := by have := Int.mul_fdiv_add_fmod z 10; omega
  have hp : 0 < Int.fdiv z 10 := by omega
  refine ⟨hp, ?_⟩
  generalize hw : Int.fdiv z 10 = w at *
  by_cases q : 0 ≤ e
  · right
    refine ⟨by omega, ?_⟩
    have k : (e + 1).toNat = e.toNat + 1 := by omega
    rw [k, Int.pow_succ]
    rcases H with ⟨h1, h2⟩ | ⟨h1, h2⟩
    · have z0 : e = 0 := by omega
      subst z0
      simp at h2 ⊢
      omega
    · rw [hz] at h2
      rw [← h2, Int.mul_assoc, Int.mul_comm (10 ^ e.toNat)]
  · left
    refine ⟨by omega, ?_⟩
    rcases H with ⟨h1, h2⟩ | ⟨h1, h2⟩
    · have k : (-e).toNat = (-(e + 1)).toNat + 1 := by omega
      rw [k, Int.pow_succ, ← Int.mul_assoc] at h2
      omega
    · omega
theorem noughts_less {B z e : Int} (H : Noughts B z e) (h : Int.fmod z 10 = 0) : (Int.fdiv z 10).toNat < z.toNat := by
  have h0 := H.1
  have := Int.mul_fdiv_add_fmod z 10
  omega
theorem noughts_end {B z e : Int} (H : Noughts B z e) (h : ¬ Int.fmod z 10 = 0) : 0 ≤ e ∧ z * 10 ^ e.toNat = B := by
  obtain ⟨h0, H⟩ := H
  rcases H with ⟨h1, h2⟩ | H
  · by_cases q : e = 0
    · subst q
      simp at h2 ⊢
      omega
    · exfalso
      apply h
      have k : (-e).toNat = (-e - 1).toNat + 1 := by omega
      rw [k, Int.pow_succ, ← Int.mul_assoc] at h2
      rw [h2]
      exact Int.mul_fmod_left _ _
  · exact H
theorem noughts_small {B z e : Int} (h0 : 0 < z) (_h1 : 0 ≤ e) (h2 : z * 10 ^ e.toNat = B) (hB : B < 1000000) : z < 1000000 ∧ e < 6 := by
  have p : (0 : Int) < 10 ^ e.toNat := by have := pow10_mono (Nat.zero_le e.toNat); simp at this; omega
  refine ⟨?_, ?_⟩
  · have : z * 1 ≤ z * 10 ^ e.toNat := Int.mul_le_mul_of_nonneg_left (by omega) (by omega)
    omega
  · by_cases q : e < 6
    · exact q
    · exfalso
      have k := pow10_mono (a := 6) (b := e.toNat) (by omega)
      have : 1 * (10 ^ e.toNat) ≤ z * 10 ^ e.toNat := Int.mul_le_mul_of_nonneg_right (by omega) (by omega)
      omega

theorem figs_shift {B : Int} {f k : Nat} (H : Figs B f) (hB : 0 < B) : Figs (B * 10 ^ k) (f + k) := by
  have p : (0 : Int) < 10 ^ k := by have := pow10_mono (Nat.zero_le k); simp at this; omega
  obtain ⟨h1, h2, h3, h4⟩ := H
  refine ⟨by omega, Int.mul_nonneg h2 (by omega), ?_, .inr ?_⟩
  · rw [Int.pow_add]
    exact Int.mul_lt_mul_of_pos_right h3 p
  · have e : f + k - 1 = (f - 1) + k := by omega
    rw [e, Int.pow_add]
    refine Int.mul_le_mul_of_nonneg_right ?_ (by omega)
    rcases h4 with rfl | h4
    · simp; omega
    · exact h4
theorem noughts_all {B z e : Int} (_hB0 : 0 < B) (hB : B < 1000000) (H : Noughts B z e) (h : ¬ Int.fmod z 10 = 0) : Figs z (figsOf z) ∧ figsOf z ≤ 6 ∧ 0 ≤ e ∧ e < 6 ∧ z * 10 ^ e.toNat = B := by
  obtain ⟨h1, h2⟩ := noughts_end H h
  obtain ⟨h3, h4⟩ := noughts_small H.1 h1 h2 hB
  have F := figsOf_is (n := z) (k := 6) (by have := H.1; omega) (by omega)
  exact ⟨F, figs_le F (by omega) (by decide), h1, h4, h2⟩
theorem noughts_zero {B e : Int} {f : Nat} (hB : 0 < B) (hf : f ≤ 6) (he : e = f - 45) : Noughts B (B * 10 ^ (40 - f)) (e + (45 - 40)) := by
  have p : (0 : Int) < 10 ^ (40 - f) := by have := pow10_mono (Nat.zero_le (40 - f)); simp at this; omega
  refine ⟨Int.mul_pos hB p, .inl ⟨by omega, ?_⟩⟩
  have : (-(e + (45 - 40))).toNat = 40 - f := by omega
  rw [this]
theorem made_shift {A N : Int} {f : Nat} (hA : A ≠ 0) (H : Figs (if A < 0 then -A else A) f) (hf : f ≤ 6) (hN : N = A * 10 ^ (45 - f)) :
    Figs (if N < 0 then -N else N) 45 ∧ (if N < 0 then -N else N) = ((if A < 0 then -A else A) * 10 ^ (40 - f)) * 100000 := by
  have p : (0 : Int) < 10 ^ (45 - f) := by have := pow10_mono (Nat.zero_le (45 - f)); simp at this; omega
  have e : (if N < 0 then -N else N) = (if A < 0 then -A else A) * 10 ^ (45 - f) := by
    rw [hN]
    by_cases q : A < 0
    · rw [if_pos q, if_pos (Int.mul_neg_of_neg_of_pos q p), Int.neg_mul]
    · rw [if_neg q, if_neg (by have := Int.mul_nonneg (Int.not_lt.mp q) (Int.le_of_lt p); omega)]
  have k : 45 - f = (40 - f) + 5 := by omega
  refine ⟨?_, by rw [e, k, Int.pow_add, ← Int.mul_assoc]; rfl⟩
  rw [e]
  have := figs_shift (k := 45 - f) H (by split <;> omega)
  rwa [show f + (45 - f) = 45 by omega] at this
theorem made_neg {A N B z : Int} {e : Int} {f : Nat} (hN : N = A * 10 ^ (45 - f)) (hB : (if A < 0 then -A else A) = B) (h : z * 10 ^ e.toNat = B) (q : N < 0) : -z * 10 ^ e.toNat = A := by
  have p : (0 : Int) < 10 ^ (45 - f) := by have := pow10_mono (Nat.zero_le (45 - f)); simp at this; omega
  have : A < 0 := by
    by_cases r : A < 0
    · exact r
    · have := Int.mul_nonneg (Int.not_lt.mp r) (Int.le_of_lt p); omega
  rw [Int.neg_mul, h, ← hB, if_pos this]; omega
theorem made_pos {A N B z : Int} {e : Int} {f : Nat} (hN : N = A * 10 ^ (45 - f)) (hB : (if A < 0 then -A else A) = B) (h : z * 10 ^ e.toNat = B) (q : ¬ N < 0) : z * 10 ^ e.toNat = A := by
  have p : (0 : Int) < 10 ^ (45 - f) := by have := pow10_mono (Nat.zero_le (45 - f)); simp at this; omega
  have : ¬ A < 0 := fun r => q (by rw [hN]; exact Int.mul_neg_of_neg_of_pos r p)
  rw [h, ← hB, if_neg this]

/-- the decimal that says A: a new pair -/
noncomputable def RDec (A : Int) (own : Led) (r : Value) : Prop := ∃ x e, 0 ≤ e ∧ e < 6 ∧ x * 10 ^ e.toNat = A ∧ RPair x e own r

local macro_rules | `(tactic| walk_at "call ref") => `(tactic| (k_here; with_reducible refine stop_call ?_))

theorem t_made (c : Cx) (A N e : Int) (t u v : Tok) (f : Nat) (hA : A ≠ 0) (H : Figs (if A < 0 then -A else A) f) (hf : f ≤ 6) (hN : N = A * 10 ^ (45 - f)) (he : e = f - 45) :
    Tell c 58 3 [.int N t, .int e u, .int 40 v] (fun _ => True) (RDec A) := by
  refine' tell_plain (binds := [(Str.ofString "coefficient", .int N t), (Str.ofString "exponent", .int e u), (Str.ofString "digits", .int 40 v)]) ?ho ?hcd ?hbind ?hloc ?hco ?hgen ?hk ?hcell ?_
  (case ho => k_is)
  (case hcd => k_is)
  (case hbind => (intro _; exact BindsTo.of_eq rfl))
  (case hloc => exact locs rfl)
  (case hco => exact rfl)
  (case hgen => exact rfl)
  (case hk => exact rfl)
  (case hcell => decide)
  intro dp un gd cn cs a' ccd cl outer base g L L' h₁ s tk hd hu hke B' F' X' N' T' P'
  k_with_none
  obtain ⟨H45, hx⟩ := made_shift hA H hf hN
  have hp : (0 : Int) < (if A < 0 then -A else A) := by split <;> omega
  have hs : (if A < 0 then -A else A) < (1000000 : Int) := Int.lt_of_lt_of_le H.2.2.1 (pow10_mono hf)
  generalize hB : (if A < 0 then -A else A) = B at *
  have hz := noughts_zero hp hf he
  have hz0 : B * 10 ^ (40 - f) ≠ 0 := by have := hz.1; omega
  k_with "exec While Compare cons nil" => k_while (fun script z e => Noughts B z e) (fun script z e => z.toNat) "size" "exponent"
  k_with "state" => first | exact hz | exact noughts_turn (by assumption) (by assumption)
  k_with "measure" => exact noughts_less (by assumption) (by assumption)
  (try dsimp only)
  k_steps
  refine Stop9.mk ?_
  refine' call_int (t_figures _ _ _ _ H45) trivial ?_
  walk_at "my behind"
  k_steps
  refine Stop9.mk ?_
  refine' call_int (t_rounded _ _ _ _ _ _ _ H45 ?my2 hx ?my4) trivial ?_
  case my2 => omega
  case my4 => omega
  walk_at "my behind"
  k_steps
  · exact absurd (by assumption) hz0
  refine Stop9.mk ?_
  obtain ⟨q1', q2', q3', q4', q5'⟩ := noughts_all (by assumption) (by assumption) (by assumption) (by assumption)
  refine' call_int (t_figures _ _ _ _ q1') trivial ?_
  walk_at "my behind"
  k_steps
  all_goals (try w_report)
  all_goals first
    | exact Out.intro [_] (by assumption) (by assumption) (fun _ h => by rw [List.mem_singleton.mp h]; exact List.mem_cons_self) ⟨_, _, by assumption, by assumption, made_neg hN hB (by assumption) (by assumption), _, _, _, _, rfl, rfl⟩
    | exact Out.intro [_] (by assumption) (by assumption) (fun _ h => by rw [List.mem_singleton.mp h]; exact List.mem_cons_self) ⟨_, _, by assumption, by assumption, made_pos hN hB (by assumption) (by assumption), _, _, _, _, rfl, rfl⟩

theorem t_made0 (c : Cx) (N e : Int) (t u v : Tok) (hN : N = 0) : Tell c 58 3 [.int N t, .int e u, .int 40 v] (fun _ => True) (RDec 0) := by
  subst hN
  refine' tell_plain (binds := [(Str.ofString "coefficient", .int 0 t), (Str.ofString "exponent", .int e u), (Str.ofString "digits", .int 40 v)]) ?ho ?hcd ?hbind ?hloc ?hco ?hgen ?hk ?hcell ?_
  (case ho => k_is)
  (case hcd => k_is)
  (case hbind => (intro _; exact BindsTo.of_eq rfl))
  (case hloc => exact locs rfl)
  (case hco => exact rfl)
  (case hgen => exact rfl)
  (case hk => exact rfl)
  (case hcell => decide)
  intro dp un gd cn cs a' ccd cl outer base g L L' h₁ s tk hd hu hke B' F' X' N' T' P'
  k_with_none
  have H1 : Figs (if (0 : Int) < 0 then -0 else 0) 1 := by (unfold Figs; decide)
  (try dsimp only)
  k_steps
  refine Stop9.mk ?_
  refine' call_int (t_figures _ _ _ _ H1) trivial ?_
  walk_at "my behind"
  k_steps
  all_goals exact Out.intro [_] (by assumption) (by assumption) (fun _ h => by rw [List.mem_singleton.mp h]; exact List.mem_cons_self) ⟨0, 0, by decide, by decide, by decide, _, _, _, _, rfl, rfl⟩
end

/- D6 -/
section
theorem fill_D6 : ∀ c f k vs P R, Tell c f k vs P R → True := by
  w_top off
  unfold Tell
  k_fill
  intros
  trivial

local macro_rules | `(tactic| walk_at "call ref") => `(tactic| (k_here; k_dflt (refine' call_int (t_figures _ _ _ _ (by assumption)) trivial ?_); walk_at "my behind"))
theorem figs_one : Figs 1 1 := by unfold Figs; decide
theorem fmod_one (x : Int) : Int.fmod x 1 = 0 := by rw [Int.fmod_eq_emod_of_nonneg _ (by decide), Int.emod_one]
theorem dec_arg {A : Int} {f : Nat} (hf : f ≤ 6) : A * 10 ^ (45 - f) = 10 * Int.fdiv (A * 10 ^ (40 + 3 + ((1 : Nat) : Int) - f).toNat) 1 + 0 := by
  rw [Int.fdiv_one, show (40 + 3 + ((1 : Nat) : Int) - f).toNat = 44 - f by omega, show 45 - f = (44 - f) + 1 by omega, Int.pow_succ]
  rw [← Int.mul_assoc, Int.mul_comm, Int.add_zero]
theorem t_decimal (c : Cx) (w : Value) (A : Int) (v : Tok) (hA : A ≠ 0) (hs : A.natAbs < 1000000) :
    Tell c 131 4 [w, .int 40 v] (fun h => PairAt h w A 1) (RDec A) := by
  refine tell_at ?_
  rintro g₀ ⟨D1, t1, t2, rfl, h1⟩
  refine' tell_plain (binds := [(Str.ofString "one", .ref D1), (Str.ofString "digits", .int 40 v)]) ?ho ?hcd ?hbind ?hloc ?hco ?hgen ?hk ?hcell ?_
  (case ho => k_is)
  (case hcd => k_is)
  (case hbind => (intro _; exact BindsTo.of_eq rfl))
  (case hloc => exact locs rfl)
  (case hco => exact rfl)
  (case hgen => exact rfl)
  (case hk => exact rfl)
  (case hcell => decide)
  rintro dp un gd cn cs a' ccd cl outer base g L L' h₁ s tk hd hu hke B' F' X' N' T' rfl
  k_with_none
  obtain ⟨f, H⟩ := figs_ex 6 (if A < 0 then -A else A) (by split <;> omega) (by split <;> omega)
  have hf := figs_le H (k := 6) (by split <;> omega) (by decide)
  have hf1 := H.1
  have H1 := figs_one
  have z1 := fmod_one ((if A < 0 then -A else A) * 10 ^ (40 + 3 + (1 : Int) - f).toNat)
  (try dsimp only)
  k_steps
  all_goals (try w_report)
  · refine' tell_use (t_made _ A _ _ _ _ _ f hA H hf ?n ?e) ?k1 ?k2 ?k3 ?k4 ?k5 ?kK ?kd ?ku trivial ?_
    case n => rw [← dec_arg hf]; rw [if_pos (by assumption), Int.neg_mul, Int.neg_neg]
    case e => omega
    (case k1 => first | k_asm | ktn_no "tell: the frames below")
    (case k2 => first | k_asm | ktn_no "tell: the frame")
    (case k3 => first | k_asm | ktn_no "tell: the written part")
    (case k4 => first | k_asm | ktn_no "tell: the ledger")
    (case k5 => first | k_asm | ktn_no "tell: the top's facts")
    (case kK => first | exact rfl | assumption | ktn_no "tell: the caller is no def")
    (case kd => first | ktr_room | ktn_no "tell: the frames' room")
    (case ku => first | ktr_units | ktn_no "tell: the C units")
    exact fun r own h' tk' hr k O _ _ => Out.pass (by assumption) k O hr
  · refine' tell_use (t_made _ A _ _ _ _ _ f hA H hf ?n ?e) ?k1 ?k2 ?k3 ?k4 ?k5 ?kK ?kd ?ku trivial ?_
    case n => rw [← dec_arg hf]; rw [if_neg (by assumption)]
    case e => omega
    (case k1 => first | k_asm | ktn_no "tell: the frames below")
    (case k2 => first | k_asm | ktn_no "tell: the frame")
    (case k3 => first | k_asm | ktn_no "tell: the written part")
    (case k4 => first | k_asm | ktn_no "tell: the ledger")
    (case k5 => first | k_asm | ktn_no "tell: the top's facts")
    (case kK => first | exact rfl | assumption | ktn_no "tell: the caller is no def")
    (case kd => first | ktr_room | ktn_no "tell: the frames' room")
    (case ku => first | ktr_units | ktn_no "tell: the C units")
    exact fun r own h' tk' hr k O _ _ => Out.pass (by assumption) k O hr

theorem t_decimal0 (c : Cx) (w : Value) (A : Int) (v : Tok) (hA : A = 0) :
    Tell c 131 4 [w, .int 40 v] (fun h => PairAt h w A 1) (RDec A) := by
  subst hA
  refine tell_at ?_
  rintro g₀ ⟨D1, t1, t2, rfl, h1⟩
  refine' tell_plain (binds := [(Str.ofString "one", .ref D1), (Str.ofString "digits", .int 40 v)]) ?ho ?hcd ?hbind ?hloc ?hco ?hgen ?hk ?hcell ?_
  (case ho => k_is)
  (case hcd => k_is)
  (case hbind => (intro _; exact BindsTo.of_eq rfl))
  (case hloc => exact locs rfl)
  (case hco => exact rfl)
  (case hgen => exact rfl)
  (case hk => exact rfl)
  (case hcell => decide)
  rintro dp un gd cn cs a' ccd cl outer base g L L' h₁ s tk hd hu hke B' F' X' N' T' rfl
  k_with_none
  have H : Figs (if (0 : Int) < 0 then -0 else 0) 1 := by unfold Figs; decide
  have H1 := figs_one
  have z1 := fmod_one ((if (0 : Int) < 0 then -0 else 0) * 10 ^ (40 + 3 + (1 : Int) - 1).toNat)
  (try dsimp only)
  k_steps
  all_goals (try w_report)
  · refine' tell_use (t_made0 _ _ _ _ _ _ ?n) ?k1 ?k2 ?k3 ?k4 ?k5 ?kK ?kd ?ku trivial ?_
    case n => simp
    (case k1 => first | k_asm | ktn_no "tell: the frames below")
    (case k2 => first | k_asm | ktn_no "tell: the frame")
    (case k3 => first | k_asm | ktn_no "tell: the written part")
    (case k4 => first | k_asm | ktn_no "tell: the ledger")
    (case k5 => first | k_asm | ktn_no "tell: the top's facts")
    (case kK => first | exact rfl | assumption | ktn_no "tell: the caller is no def")
    (case kd => first | ktr_room | ktn_no "tell: the frames' room")
    (case ku => first | ktr_units | ktn_no "tell: the C units")
    exact fun r own h' tk' hr k O _ _ => Out.pass (by assumption) k O hr
/-- the decimal of a whole number -/
theorem t_decimal' (c : Cx) (w : Value) (A : Int) (v : Tok) (hs : A.natAbs < 1000000) : Tell c 131 4 [w, .int 40 v] (fun h => PairAt h w A 1) (RDec A) := by
  by_cases q : A = 0
  · exact t_decimal0 c w A v q
  · exact t_decimal c w A v q hs
end

/- B3 -/
section
/- A rule of my own for a list comprehension with one clause: any source that KTurns knows (list, range, zip, enumerate), any target, tests, a block that closes over names. -/

/-- all but X stands as it stood -/
noncomputable def HBut (X : List Addr) (h h' : Heap) : Prop := ∀ b o, b ∉ X → h.get? b = some o → h'.get? b = some o
theorem HBut.of {X : List Addr} {h h' : Heap} (k : HLe h h') : HBut X h h' := fun b o _ e => k b o e
theorem HBut.trans {X : List Addr} {h h' h'' : Heap} (a : HBut X h h') (b : HBut X h' h'') : HBut X h h'' := fun x o n e => b x o n (a x o n e)
theorem HBut.le {h h' : Heap} (k : HBut [] h h') : HLe h h' := fun b o e => k b o (nomatch ·) e
noncomputable abbrev lst9 (ys : List Value) : Obj := { cls := .type "list", data := .seq ys.toArray ys.length }
theorem lst9_snoc (ys : List Value) (y : Value) : ({ cls := .type "list", data := .seq (ys.toArray.push y) (ys.length + 1) } : Obj) = lst9 (ys ++ [y]) := by
  show ({ cls := .type "list", data := .seq (ys.toArray.push y) (ys.length + 1) } : Obj) = { cls := .type "list", data := .seq (ys ++ [y]).toArray (ys ++ [y]).length }
  rw [List.length_append, List.length_singleton, List.push_toArray]

structure Src (prog : Program) (w : World) (A : Around) (target : Expr) (I : Addr) (fp wr : List Addr) (n : Nat) (P Md : Nat → Value → Heap → Prop) (St : Nat → Heap → Prop) : Prop where
  turns : KTurns prog w A target I fp wr n P Md St
  self : ∀ (s : Shared) (Q : Value → Shared → Prop) (E : Value → Shared → Prop), St 0 s.heap → Q (.ref I) s → wpAny (model prog w) A (pyIter (.ref I)) Q E s
  there : ∀ i h, St i h → ∀ b ∈ wr, ∃ o, h.get? b = some o

noncomputable abbrev tests9 (ifs : List Expr) (env : Env) : Sem Bool := forIn ifs true fun c r => if r = true then do let ok ← isTrue c env (eval c env); pure (ForInStep.yield ok) else pure (ForInStep.yield r)

section
variable {prog : Program} {w : World} {A : Around} {E : Value → Shared → Prop} {s : Shared}

theorem loop9 {elt target iter : Expr} {ifs : List Expr} {scope : Scope} {pos : Pos} {it acc : Value} {env : Env} {R : Result → Shared → Prop} (I : Nat → Shared → Prop)
    (turn : ∀ n s, I n s → ∀ E' : Value → Shared → Prop, wpAny (model prog w) A (pyNext it) (fun r s₁ => match r with
      | none => R (.ok .next) s₁
      | some v => wpAny (model prog w) A (letOwnedTupleGo target it v) (fun _ s₀ => wpAny (model prog w) A (assign target env v) (fun _ s₂ =>
          wpAny (model prog w) A (tests9 ifs env) (fun ok s₃ => if ok = true then wpAny (model prog w) A (eval elt env) (fun x s₄ =>
            wpAny (model prog w) A (call (.builtin "list.append") [acc, x]) (fun _ s₅ => ∃ m, m < n ∧ I m s₅) E' s₄) E' s₃ else ∃ m, m < n ∧ I m s₃) E' s₂) E' s₀) E' s₁) E' s)
    (n : Nat) (h : I n s) : codeAny (model prog w) A (.compLoop (.ListComp elt [⟨target, iter, ifs, 0⟩] scope pos) 0 it acc env) R s := by
  refine codeAny_loop rfl I (fun n s hI => ?_) n h
  show wpAny _ A ((compTurn (.ListComp elt [⟨target, iter, ifs, 0⟩] scope pos) 0 it acc env).onRaise (fun x => do noteFrame x env; theTreesLotGoes x)) _ _ s
  refine wpAny_noted ?_
  rw [compTurn_list]
  refine wpAny_bind (wpAny_standAt (wpAny_bind (wpAny_mono (turn n s hI _) (fun r s₁ h₁ => ?_) fun _ _ h' => h')))
  cases r with
  | none => exact wpAny_pure h₁
  | some v =>
    refine wpAny_bind (wpAny_mono h₁ (fun _ s₀ h₀' => wpAny_bind (wpAny_mono h₀' (fun _ s₂ h₂ => wpAny_bind (wpAny_mono h₂ (fun ok s₃ h₃ => ?_) fun _ _ h' => h')) fun _ _ h' => h')) fun _ _ h' => h')
    cases ok with
    | false => exact wpAny_pure ⟨rfl, h₃⟩
    | true => exact wpAny_bind (wpAny_bind (wpAny_mono h₃ (fun x s₄ h₄ => wpAny_bind (wpAny_mono h₄ (fun _ s₅ h₅ => wpAny_pure (wpAny_pure ⟨rfl, h₅⟩)) fun _ _ h' => h')) fun _ _ h' => h'))

/-- what a comprehension's element does: own is what the elements ahead made -/
noncomputable def EltOut (s : Shared) (h : Heap) (X : List Addr) (V : Heap → Prop) (J : Led → Value → Prop) (y : Value) (s' : Shared) : Prop :=
  ∃ own' h' tk', s' = { s with heap := h', toks := tk' } ∧ HBut X h h' ∧ V h' ∧ Own h h' own' ∧ J own' y

structure Spec (prog : Program) (w : World) (A : Around) (s : Shared) (elt target : Expr) (ifs : List Expr) (env : Env) (scope : Scope) (cl : List (Str × Addr)) (X : List Addr) (V : Nat → Heap → Prop) (J : Nat → List Value → Led → Prop) (lo : Nat)
    (n : Nat) (P : Nat → Value → Heap → Prop) (B : Nat → (Str → Option Value) → Prop) (p : Nat → Bool) : Prop where
  asg : ∀ i v h tk C m (Q' : Unit → Shared → Prop) (E' : Value → Shared → Prop), i < n → P i v h → h.Ns C m →
    (∀ h' tk' m', h'.Ns C m' → B i m' → (∀ b o, b ≠ C → h.get? b = some o → h'.get? b = some o) → Q' () { s with heap := h', toks := tk' }) →
    wpAny (model prog w) A (assign target (compEnvC scope cl C env) v) Q' E' { s with heap := h, toks := tk }
  tst : ∀ i h tk C m (E' : Value → Shared → Prop), i < n → B i m → h.Ns C m → lo ≤ C → HBut X s.heap h → V i h →
    wpAny (model prog w) A (tests9 ifs (compEnvC scope cl C env)) (fun ok s' => ok = p i ∧ ∃ h' tk', s' = { s with heap := h', toks := tk' } ∧ HLe h h') E' { s with heap := h, toks := tk }
  elt : ∀ i h tk C m ys own (E' : Value → Shared → Prop), i < n → p i = true → B i m → h.Ns C m → lo ≤ C → HBut X s.heap h → V i h → Own s.heap h own → J i ys own →
    wpAny (model prog w) A (eval elt (compEnvC scope cl C env)) (EltOut s h X (V (i + 1)) fun own' y => J (i + 1) (ys ++ [y]) (own' ++ own)) E' { s with heap := h, toks := tk }
  skip : ∀ i h ys own, i < n → p i = false → V i h → J i ys own → V (i + 1) h ∧ J (i + 1) ys own

theorem block9 {elt target iter : Expr} {ifs : List Expr} {env : Env} {scope : Scope} {cl : List (Str × Addr)} {pos : Pos} {X : List Addr} {V : Nat → Heap → Prop} {J : Nat → List Value → Led → Prop} {I : Addr} {fp wr : List Addr} {n : Nat} {P Md : Nat → Value → Heap → Prop} {St : Nat → Heap → Prop} {B : Nat → (Str → Option Value) → Prop} {p : Nat → Bool} {h₂ : Heap} {tk₂ : Nat} {RR : Value → Addr → Result → Shared → Prop}
    (S : Src prog w A target I fp wr n P Md St) (sp : Spec prog w A s elt target ifs env scope cl X V J h₂.objs.size n P B p)
    (hcell : ∀ y ∈ scope.names, y.2 ≠ .cell) (hkind : scope.kind = .function)
    (hVe : ∀ i h, V i h → ∀ b ∈ X, ∃ o, h.get? b = some o) (hVs : ∀ i h h', V i h → (∀ b ∈ X, h'.get? b = h.get? b) → V i h')
    (hk : HLe s.heap h₂) (st : St 0 h₂) (hsz : n ≤ sizeLine) (hfp : ∀ b ∈ fp, b < h₂.objs.size ∧ b ∉ X) (hwr : ∀ b ∈ wr, s.heap.get? b = none) (hXe : ∀ b ∈ X, ∃ o, s.heap.get? b = some o) (V0 : V 0 s.heap) (J0 : J 0 [] [])
    (hRR : ∀ D C h tk m' ys own, h.Ns C m' → s.heap.get? C = none → C ≠ D → HBut X s.heap h → V n h → J n ys own → Own s.heap h ((D, lst9 ys) :: own) → (∀ q ∈ own, q.1 ≠ C ∧ q.1 ≠ D) → C ∉ X → h₂.objs.size ≤ C → RR (.ref D) C (.ok .next) { s with heap := h, toks := tk }) :
    wpAny (model prog w) A (newList []) (fun acc s₃ => wpAny (model prog w) A (newFunctionEnv scope env.globals cl [] env.qual none .none (some env)) (fun cenv s₄ =>
      codeAny (model prog w) A (.compStart (.ListComp elt [⟨target, iter, ifs, 0⟩] scope pos) 0 (.ref I) acc { cenv with scope := relabel scope env }) (RR acc cenv.locals) s₄) E s₃) E { s with heap := h₂, toks := tk₂ } := by
  have W := S.turns
  refine wpAny_newObj_type (wpAny_newFunctionEnv hcell (by intro y hy; simp at hy) (fun h₁ hns₁ hsb₁ => ?_) hkind)
  dsimp only at hns₁ hsb₁ ⊢
  generalize hH2 : h₂.push { cls := .type "list", dict := none, data := .seq ([] : List Value).toArray } = H2 at hns₁ hsb₁ ⊢
  have hC : H2.objs.size = h₂.objs.size + 1 := by rw [← hH2, Heap.size_push]
  have hDC : h₂.objs.size ≠ H2.objs.size := by rw [hC]; exact Nat.ne_of_lt (Nat.lt_succ_self _)
  have hCle : h₂.objs.size ≤ H2.objs.size := by rw [hC]; exact Nat.le_succ _
  generalize hDd : h₂.objs.size = D at hDC hC
  generalize hCc : H2.objs.size = C at *
  have fresh : ∀ a, D ≤ a → s.heap.get? a = none := fun a ha => by
    cases e : s.heap.get? a with
    | none => rfl
    | some o => exact absurd (Heap.lt_size (hk _ _ e)) (by rw [hDd]; exact Nat.not_lt.mpr ha)
  have hDCle : D ≤ C := by rw [hC]; exact Nat.le_succ _
  have hXlt : ∀ b ∈ X, b < D := fun b hb => by obtain ⟨o, e⟩ := hXe b hb; rw [← hDd]; exact Heap.lt_size (hk _ _ e)
  have hCX : C ∉ X := fun h => absurd (hXlt _ h) (Nat.not_lt.mpr hDCle)
  have hDX : D ∉ X := fun h => absurd (hXlt _ h) (Nat.lt_irrefl _)
  have hfD : ∀ b ∈ fp, b ≠ D ∧ b ≠ C := fun b hb => by
    have := (hfp b hb).1
    rw [hDd] at this
    exact ⟨Nat.ne_of_lt this, Nat.ne_of_lt (Nat.lt_of_lt_of_le this hDCle)⟩
  have hwf : ∀ b ∈ wr, b ∈ fp := W.sub
  have old : ∀ b o, h₂.get? b = some o → h₁.get? b = some o := fun b o e => by
    have hb : b < D := hDd ▸ Heap.lt_size e
    exact hsb₁.extBut b o (Nat.ne_of_lt (Nat.lt_of_lt_of_le hb hDCle)) (Heap.get?_push_of_some _ (hH2 ▸ Heap.get?_push_of_some _ e))
  have hacc : h₁.get? D = some (lst9 []) := hsb₁.extBut _ _ hDC (Heap.get?_push_of_some _ (by rw [← hH2, ← hDd]; exact Heap.get?_push_size _ rfl))
  have st₁ : St 0 h₁ := W.frame _ _ _ st fun b _ o e => old b o e
  have loop : ∀ s₃ : Shared, s₃ = { s with heap := h₁, toks := tk₂ + ([] : List (Str × Value)).length } →
      codeAny (model prog w) A (.compLoop (.ListComp elt [⟨target, iter, ifs, 0⟩] scope pos) 0 (.ref I) (.ref D) (compEnvC scope cl C env)) (RR (.ref D) C) s₃ := by
    rintro s₃ rfl
    refine loop9
      (fun k s' => ∃ h' tk i ys own m', s' = { s with heap := h', toks := tk } ∧ i ≤ n ∧ k = n + 1 - i ∧ ys.length ≤ i ∧ St i h' ∧ HBut X s.heap h' ∧ V i h' ∧ h'.Ns C m' ∧ h'.get? D = some (lst9 ys) ∧
        (∀ q ∈ own, h'.get? q.1 = some q.2 ∧ s.heap.get? q.1 = none ∧ q.1 ∉ wr ∧ q.1 ≠ C ∧ q.1 ≠ D) ∧ J i ys own) ?_ (n + 1)
      ⟨h₁, _, 0, [], [], _, rfl, Nat.zero_le _, rfl, Nat.le_refl _, st₁, HBut.of fun b o e => old b o (hk b o e), ?_, hns₁, hacc, (fun _ h => nomatch h), J0⟩
    · rintro k s' ⟨h', tk, i, ys, own, m', rfl, hi, rfl, hyl, st', kk, V', hn', hD', ho', J'⟩ E'
      by_cases hlt : i < n
      · refine W.item i _ _ _ hlt st' fun v h₃ tk₃ hMd hk₃ => ?_
        refine W.go i v _ _ _ hMd fun h₄ hP st₄ hk₄ => ?_
        have keep : ∀ b o, b ∉ wr → h'.get? b = some o → h₄.get? b = some o := fun b o hb e => hk₄ b o hb (hk₃ b o hb e)
        have Cw : C ∉ wr := fun h => (hfD _ (hwf _ h)).2 rfl
        have Dw : D ∉ wr := fun h => (hfD _ (hwf _ h)).1 rfl
        have Xw : ∀ b ∈ X, b ∉ wr := fun b hb h => (hfp _ (hwf _ h)).2 hb
        have V₄ : V i h₄ := hVs _ _ _ V' fun b hb => by
          obtain ⟨o, e⟩ := hVe _ _ V' b hb
          rw [e, keep b o (Xw b hb) e]
        have kk₄ : HBut X s.heap h₄ := fun b o hb e => keep b o (fun h => by rw [hwr b h] at e; cases e) (kk b o hb e)
        have hn₄ : h₄.Ns C m' := hn'.at' fun o e => keep _ o Cw e
        refine sp.asg i v h₄ tk₃ C m' _ _ hlt hP hn₄ fun h₅ tk₅ m₅ hn₅ hB₅ hk₅ => ?_
        have st₅ : St (i + 1) h₅ := W.frame _ _ _ st₄ fun b hb o e => hk₅ b o (hfD b hb).2 e
        have V₅ : V i h₅ := hVs _ _ _ V₄ fun b hb => by
          obtain ⟨o, e⟩ := hVe _ _ V₄ b hb
          rw [e, hk₅ b o (fun q => hCX (q ▸ hb)) e]
        have kk₅ : HBut X s.heap h₅ := fun b o hb e => hk₅ b o (fun q => by rw [q, fresh C hDCle] at e; cases e) (kk₄ b o hb e)
        have hD₅ : h₅.get? D = some (lst9 ys) := hk₅ _ _ hDC (keep _ _ Dw hD')
        have ho₅ : ∀ q ∈ own, h₅.get? q.1 = some q.2 ∧ s.heap.get? q.1 = none ∧ q.1 ∉ wr ∧ q.1 ≠ C ∧ q.1 ≠ D := fun q hq => by
          obtain ⟨a, b, c, d, e⟩ := ho' q hq
          exact ⟨hk₅ _ _ d (keep _ _ c a), b, c, d, e⟩
        refine wpAny_mono (sp.tst i h₅ tk₅ C m₅ E' hlt hB₅ hn₅ (by rw [hDd]; exact hDCle) kk₅ V₅) (fun ok s₆ h₆ => ?_) fun _ _ e => e
        obtain ⟨rfl, h₆, tk₆, rfl, hk₆⟩ := h₆
        have st₆ : St (i + 1) h₆ := W.frame _ _ _ st₅ fun b _ o e => hk₆ b o e
        have V₆ : V i h₆ := hVs _ _ _ V₅ fun b hb => by
          obtain ⟨o, e⟩ := hVe _ _ V₅ b hb
          rw [e, hk₆ b o e]
        have kk₆ : HBut X s.heap h₆ := fun b o hb e => hk₆ b o (kk₅ b o hb e)
        have hn₆ : h₆.Ns C m₅ := hn₅.keeps hk₆
        have hD₆ := hk₆ _ _ hD₅
        have ho₆ : ∀ q ∈ own, h₆.get? q.1 = some q.2 ∧ s.heap.get? q.1 = none ∧ q.1 ∉ wr ∧ q.1 ≠ C ∧ q.1 ≠ D := fun q hq => by
          obtain ⟨a, r⟩ := ho₅ q hq
          exact ⟨hk₆ _ _ a, r⟩
        by_cases hp : p i = true
        · rw [if_pos hp]
          refine wpAny_mono (sp.elt i h₆ tk₆ C m₅ ys own E' hlt hp hB₅ hn₆ (by rw [hDd]; exact hDCle) kk₆ V₆ (fun q hq => ⟨(ho₆ q hq).1, (ho₆ q hq).2.1⟩) J') (fun y s₇ h₇ => ?_) fun _ _ e => e
          obtain ⟨own', h₇, tk₇, rfl, hk₇, V₇, O₇, J₇⟩ := h₇
          obtain ⟨oC, heC, hnC⟩ : ∃ o, h₆.get? C = some o ∧ h₇.get? C = some o := by obtain ⟨o, _, _, e, _⟩ := hn₆; exact ⟨o, e, hk₇ _ _ hCX e⟩
          have st₇ : St (i + 1) h₇ := W.frame _ _ _ st₆ fun b hb o e => hk₇ b o (hfp b hb).2 e
          have hD₇ := hk₇ _ _ hDX hD₆
          refine append_at (hsz := by show ys.toArray.size ≤ sizeLine; rw [List.size_toArray]; exact Nat.le_trans (Nat.le_trans hyl hi) hsz) hD₇ fun h₈ hs₈ hD₈ => ?_
          have new : ∀ q ∈ own', q.1 ∉ wr ∧ q.1 ≠ C ∧ q.1 ≠ D ∧ s.heap.get? q.1 = none := fun q hq => by
            have f := (O₇ q hq).2
            refine ⟨fun h => ?_, fun h => ?_, fun h => ?_, ?_⟩
            · obtain ⟨o, e⟩ := S.there _ _ st₆ _ h; rw [f] at e; cases e
            · rw [h, heC] at f; cases f
            · rw [h, hD₆] at f; cases f
            · cases e : s.heap.get? q.1 with
              | none => rfl
              | some o =>
                by_cases hX : q.1 ∈ X
                · obtain ⟨o', e'⟩ := hVe _ _ V₆ _ hX; rw [f] at e'; cases e'
                · rw [kk₆ _ _ hX e] at f; cases f
          refine ⟨n + 1 - (i + 1), by omega, h₈, tk₇, i + 1, ys ++ [y], own' ++ own, m₅, rfl, hlt, rfl, by rw [List.length_append, List.length_singleton]; omega, W.frame _ _ _ st₇ fun b hb o e => hs₈.extBut b o (hfD b hb).1 e,
            fun b o hb e => hs₈.extBut b o (fun q => by rw [q, fresh D (Nat.le_refl _)] at e; cases e) (hk₇ b o hb (kk₆ b o hb e)), hVs _ _ _ V₇ (fun b hb => hs₈.2 b fun q => hDX (by rw [← q]; exact hb)),
            (hn₆.at' fun o e => hs₈.extBut _ _ (Ne.symm hDC) (hk₇ _ _ hCX e)), hD₈.trans (congrArg some (lst9_snoc ys y)), fun q hq => ?_, J₇⟩
          rcases List.mem_append.mp hq with hq | hq
          · obtain ⟨a, b, c, d⟩ := new q hq
            exact ⟨hs₈.extBut _ _ c (O₇ q hq).1, d, a, b, c⟩
          · obtain ⟨a, b, c, d, e⟩ := ho₆ q hq
            refine ⟨hs₈.extBut _ _ e (hk₇ _ _ (fun hX => ?_) a), b, c, d, e⟩
            obtain ⟨o, e'⟩ := hXe _ hX; rw [b] at e'; cases e'
        · rw [if_neg hp]
          obtain ⟨V₇, J₇⟩ := sp.skip i h₆ ys own hlt (by simpa using hp) V₆ J'
          exact ⟨n + 1 - (i + 1), by omega, h₆, tk₆, i + 1, ys, own, m₅, rfl, hlt, rfl, Nat.le_succ_of_le hyl, st₆, kk₆, V₇, hn₆, hD₆, ho₆, J₇⟩
      · obtain rfl : i = n := Nat.le_antisymm hi (Nat.not_lt.mp hlt)
        refine W.done _ _ _ st' fun h₃ tk₃ hk₃ => ?_
        have Cw : C ∉ wr := fun h => (hfD _ (hwf _ h)).2 rfl
        have Dw : D ∉ wr := fun h => (hfD _ (hwf _ h)).1 rfl
        have Xw : ∀ b ∈ X, b ∉ wr := fun b hb h => (hfp _ (hwf _ h)).2 hb
        refine hRR D C h₃ tk₃ m' ys own (hn'.at' fun o e => hk₃ _ o Cw e) (fresh C hDCle) (Ne.symm hDC) (fun b o hb e => hk₃ b o (fun h => by rw [hwr b h] at e; cases e) (kk b o hb e)) (hVs _ _ _ V' fun b hb => ?_) J' (fun q hq => ?_) (fun q hq => (ho' q hq).2.2.2) hCX (by rw [hDd]; exact hDCle)
        · obtain ⟨o, e⟩ := hVe _ _ V' b hb
          rw [e, hk₃ b o (Xw b hb) e]
        · rcases List.mem_cons.mp hq with rfl | hq
          · exact ⟨hk₃ _ _ Dw hD', fresh D (Nat.le_refl _)⟩
          · obtain ⟨a, b, c, _⟩ := ho' q hq
            exact ⟨hk₃ _ _ c a, b⟩
    · exact hVs _ _ _ V0 fun b hb => by
        obtain ⟨o, e⟩ := hXe b hb
        rw [e, old _ _ (hk _ _ e)]
  exact codeAny_compStart_list (loop _ rfl) (S.self _ _ _ st₁ (loop _ rfl))
end
end

/- B4 -/
section
/-- the iterator stands, the element's rule is known, the end is met -/
noncomputable def CompAt (prog : Program) (w : World) (A : Around) (s : Shared) (elt target : Expr) (ifs : List Expr) (env : Env) (scope : Scope) (cl : List (Str × Addr)) (Y : List Addr) (Fin : Addr → Heap → Nat → Prop) (Ok : List Addr → Prop) (it : Value) (s₂ : Shared) : Prop :=
  ∃ h₂ tk₂ I fp wr n P Md St B p X V J, it = .ref I ∧ s₂ = { s with heap := h₂, toks := tk₂ } ∧ Src prog w A target I fp wr n P Md St ∧ Spec prog w A s elt target ifs env scope cl X V J h₂.objs.size n P B p ∧
    (∀ i h, V i h → ∀ b ∈ X, ∃ o, h.get? b = some o) ∧ (∀ i h h', V i h → (∀ b ∈ X, h'.get? b = h.get? b) → V i h') ∧
    HLe s.heap h₂ ∧ St 0 h₂ ∧ n ≤ sizeLine ∧ (∀ b ∈ fp, b < h₂.objs.size ∧ b ∉ X) ∧ (∀ b ∈ wr, s.heap.get? b = none) ∧ (∀ b ∈ X, ∃ o, s.heap.get? b = some o) ∧ V 0 s.heap ∧ J 0 [] [] ∧ Ok X ∧
    ∀ D h tk ys own, HBut (Y ++ X) s.heap h → V n h → J n ys own → Own s.heap h ((D, lst9 ys) :: own) → Fin D h tk

section
variable {prog : Program} {w : World} {A : Around} {E : Value → Shared → Prop} {s : Shared} {env : Env} {elt target iter : Expr} {ifs : List Expr} {scope : Scope} {cl : List (Str × Addr)} {pos : Pos}

theorem comp9 {Q : Value → Shared → Prop} (hclos : closureFor scope env = pure cl) (hcell : ∀ y ∈ scope.names, y.2 ≠ .cell) (hkind : scope.kind = .function)
    (hnames : ∀ y ∈ scope.names, y.2 = .local → scope.names.lookup y.1 = some .local)
    (h : wpAny (model prog w) A (eval iter env) (fun xv s₁ => wpAny (model prog w) A (pyIter xv) (CompAt prog w A s elt target ifs env scope cl [] (fun D h tk => Q (.ref D) { s with heap := h, toks := tk }) fun _ => True) E s₁) E s)
    (hs : ∀ x, foldedSetIterable iter env x = pure x) :
    wpAny (model prog w) A (eval (.ListComp elt [⟨target, iter, ifs, 0⟩] scope pos) env) Q E s := by
  rw [eval_ListComp]
  refine wpAny_comprehension_free (use := none) rfl hs hclos hkind hnames (wpAny_mono h (fun xv s₁ h₁ => wpAny_mono h₁ (fun it s₂ h₂ => ?_) fun _ _ e => e) fun _ _ e => e)
  obtain ⟨h₂, tk₂, I, fp, wr, n, P, Md, St, B, p, X, V, J, rfl, rfl, S, sp, hVe, hVs, hk, st, hsz, hfp, hwr, hXe, V0, J0, -, fin⟩ := h₂
  refine block9 S sp hcell hkind hVe hVs hk st hsz hfp hwr hXe V0 J0 ?_
  intro D C h tk m' ys own hn hC hCD hb hV hJ hO hq hCX _
  refine ⟨m', hn, fun h' hs' => fin D h' tk ys own (fun b o hb' e => hs'.extBut b o (fun q => by rw [q, hC] at e; cases e) (hb b o hb' e)) (hVs _ _ _ hV fun b hb' => hs'.2 b fun q => hCX (q ▸ hb')) hJ fun q hq' => ?_⟩
  refine ⟨hs'.extBut _ _ ?_ (hO q hq').1, (hO q hq').2⟩
  rcases List.mem_cons.mp hq' with rfl | hq'
  · exact Ne.symm hCD
  · exact (hq q hq').1

theorem comp9A {x : Str} {px : Pos} {spos : Pos} {Q : Flow → Shared → Prop} {h₀ : Heap} {L : Addr} {m : Str → Option Value} (F : Fr h₀ L s.heap m) (hLe : env.locals = L)
    (hsw : swapsWith (.ListComp elt [⟨target, iter, ifs, 0⟩] scope pos) (some (.Name x px)) spos.line env = pure true)
    (hclos : closureFor scope env = pure cl) (hcell : ∀ y ∈ scope.names, y.2 ≠ .cell) (hkind : scope.kind = .function)
    (hnames : ∀ y ∈ scope.names, y.2 = .local → scope.names.lookup y.1 = some .local)
    (hy : env.kindOf x = some .local) (hp : (env.scope.kind == .class || (env.scope.kind == .module && env.locals != env.globals)) = false)
    (h : wpAny (model prog w) A (eval iter env) (fun xv s₁ => wpAny (model prog w) A (pyIter xv) (CompAt prog w A s elt target ifs env scope cl [L]
      (fun D h tk => Fr h₀ L h (fun z => if z = x then some (.ref D) else m z) → Q .next { s with heap := h, toks := tk }) fun X => L ∉ X ∧ ∀ b ∈ X, h₀.get? b = none) E s₁) E s)
    (hs : ∀ x, foldedSetIterable iter env x = pure x) :
    wpAny (model prog w) A (exec (.Assign [.Name x px] (.ListComp elt [⟨target, iter, ifs, 0⟩] scope pos) spos) env) Q E s := by
  subst hLe
  rw [exec_Assign_Name_used _ _ _ _ hsw]
  refine wpAny_bind (wpAny_standAt (wpAny_bind ?_))
  show wpAny _ A (do let _ ← comprehension (.ListComp elt [⟨target, iter, ifs, 0⟩] scope pos) scope env _ (newList []) false (eval iter env) (some (assign (.Name x px) env))) _ _ s
  refine wpAny_bind (wpAny_mono (wpAny_comprehension_free (use := some (assign (.Name x px) env)) (Q := fun _ s' => Q .next s') rfl hs hclos hkind hnames
    (wpAny_mono h (fun xv s₁ h₁ => wpAny_mono h₁ (fun it s₂ h₂ => ?_) fun _ _ e => e) fun _ _ e => e)) (fun _ s' hq => wpAny_pure (wpAny_pure hq)) fun _ _ e => e)
  obtain ⟨h₂, tk₂, I, fp, wr, n, P, Md, St, B, p, X, V, J, rfl, rfl, S, sp, hVe, hVs, hk, st, hsz, hfp, hwr, hXe, V0, J0, ⟨hLX, hX0⟩, fin⟩ := h₂
  refine block9 S sp hcell hkind hVe hVs hk st hsz hfp hwr hXe V0 J0 ?_
  intro D C h tk m' ys own hn hC hCD hb hV hJ hO hq hCX _
  show wpAny _ A (assign (.Name x px) env (.ref D)) _ _ _
  obtain ⟨oL, _, _, eL, _⟩ := id F.ns
  have hCL : C ≠ env.locals := fun q => by rw [← q, hC] at eL; cases eL
  have F' : Fr h₀ env.locals h m := ⟨F.ns.at' fun o e => hb _ o hLX e, fun b o e => hb b o (fun q => by rw [hX0 b q] at e; cases e) (F.keep b o e), F.above⟩
  have hL₀ : h₀.get? env.locals = none := Heap.get?_none_of_le F'.above
  have hC₀ : h₀.get? C = none := by
    cases e : h₀.get? C with
    | none => rfl
    | some o => have := F.keep _ _ e; rw [hC] at this; cases this
  refine wpAny_assign_Name (wpAny_storeName_local hy F'.ns (fun h₃ hn₃ hs₃ => ?_) hp)
  have F₃ : Fr h₀ env.locals h₃ (fun z => if z = x then some (.ref D) else m z) := ⟨hn₃, fun b o e => hs₃.extBut b o (fun q => by rw [q, hL₀] at e; cases e) (F'.keep b o e), F'.above⟩
  refine ⟨m', hn.sameBut hs₃ hCL, fun h₄ hs₄ => fin D h₄ _ ys own (fun b o hb' e => ?_) (hVs _ _ _ hV fun b hb' => ?_) hJ (fun q hq' => ?_) (F₃.change hs₄ hCL hC₀)⟩
  · have h1 : b ≠ env.locals ∧ b ∉ X := by simpa using hb'
    exact hs₄.extBut b o (fun q => by rw [q, hC] at e; cases e) (hs₃.extBut b o h1.1 (hb b o h1.2 e))
  · rw [hs₄.2 b fun q => hCX (q ▸ hb'), hs₃.2 b fun q => hLX (q ▸ hb')]
  · have h0 := hO q hq'
    refine ⟨hs₄.extBut _ _ ?_ (hs₃.extBut _ _ (fun e => by rw [e, eL] at h0; cases h0.2) h0.1), h0.2⟩
    rcases List.mem_cons.mp hq' with rfl | hq'
    · exact Ne.symm hCD
    · exact (hq q hq').1
end
end

/- B5 -/
section
/- Sources of a comprehension (list, range, zip, enumerate), what a target binds, and the rule for an element that only makes new objects. -/

/-- an iterator stands ready at I in h: n items, the ith is v where P i v; it's made of objects that base has not, and of src -/
noncomputable def Ready (prog : Program) (w : World) (A : Around) (target : Expr) (base h : Heap) (I : Addr) (n : Nat) (P : Nat → Value → Heap → Prop) : Prop :=
  ∃ fp wr Md St, Src prog w A target I fp wr n P Md St ∧ St 0 h ∧ (∀ b ∈ fp, b < h.objs.size) ∧ (∀ b ∈ wr, base.get? b = none) ∧ ∀ b ∈ fp, base.get? b = none ∨ ∃ o its k, base.get? b = some o ∧ o.data = .seq its k
section
variable {prog : Program} {w : World} {A : Around} {E : Value → Shared → Prop} {s : Shared} {target : Expr}

theorem none_of_size {h : Heap} {b : Addr} (hb : h.objs.size ≤ b) : h.get? b = none := by
  cases e : h.get? b with
  | none => rfl
  | some o => exact absurd (Heap.lt_size e) (Nat.not_lt.mpr hb)

theorem ready_list {ax : Addr} {items : Array Value} {Q : Value → Shared → Prop} (hh : A.handled = none) (hl : s.heap.IsList ax items)
    (h : ∀ h' I, HLe s.heap h' → (∀ target, Ready prog w A target s.heap h' I items.size (fun i v _ => items[i]? = some v)) → Q (.ref I) { s with heap := h' }) : wpAny (model prog w) A (pyIter (.ref ax)) Q E s := by
  have hlt : ax < s.heap.objs.size := by obtain ⟨_, e, _⟩ := hl; exact Heap.lt_size e
  refine wpAny_pyIter_list hl (h _ _ (fun b o e => Heap.get?_push_of_some _ e) fun target => ?_)
  have W := Walks.list (prog := prog) (w := w) hh s.heap.objs.size ax (Nat.ne_of_lt hlt) items
  refine ⟨_, _, _, _, ⟨KTurns.ofWalks W fun i v s Q E st q => letGo_listiter st.1 q, fun s Q E st q => W.self 0 s Q E st q, fun i h st b hb => ?_⟩, ⟨⟨_, Heap.get?_push_size _ rfl, rfl, rfl⟩, hl.push _⟩, fun b hb => ?_, fun b hb => ?_, fun b hb => ?_⟩
  · rw [List.mem_singleton.mp hb]
    obtain ⟨o, e, _⟩ := st.1
    exact ⟨o, e⟩
  · rw [Heap.size_push]
    rcases List.mem_cons.mp hb with rfl | hb
    · exact Nat.lt_succ_self _
    · rw [List.mem_singleton.mp hb]; exact Nat.lt_succ_of_lt hlt
  · rw [List.mem_singleton.mp hb]; exact none_of_size (Nat.le_refl _)
  · rcases List.mem_cons.mp hb with rfl | hb
    · exact .inl (none_of_size (Nat.le_refl _))
    · rw [List.mem_singleton.mp hb]
      obtain ⟨o, e, _, k, d⟩ := hl
      exact .inr ⟨o, _, k, e, d⟩

theorem ready_range {r : Addr} {a b : Int} {t u v : Tok} {n : Nat} {Q : Value → Shared → Prop} (hh : A.handled = none) (hr : IsRange s.heap r a b 1 t u v) (hsmall : Builtin.Range.small a b 1 = true) (hn : Builtin.Range.rangeSize a b 1 = (n : Int))
    (h : ∀ h' I, HLe s.heap h' → (∀ x px, Ready prog w A (.Name x px) s.heap h' I n (fun i v _ => ∃ t, v = .int (a + (i : Int)) t)) → Q (.ref I) { s with heap := h' }) : wpAny (model prog w) A (pyIter (.ref r)) Q E s := by
  refine wpAny_pyIter_range hr hsmall (h _ _ (fun b o e => Heap.get?_push_of_some _ e) fun x px => ?_)
  have W := LCg.range_walks (prog := prog) (w := w) (I := s.heap.objs.size) hh a n
  refine ⟨_, _, _, _, ⟨KTurns.ofWalks W fun i v s Q E st q => wpAny_of_eq rfl q, fun s Q E st q => W.self 0 s Q E st q, fun i h st b hb => ?_⟩, ?_, fun b hb => ?_, fun b hb => ?_, fun b hb => ?_⟩
  · rw [List.mem_singleton.mp hb]
    exact ⟨_, st⟩
  · show IsRangeIter _ _ _ _ _
    rw [hn]
    simpa using Heap.get?_push_size _ rfl
  · rw [Heap.size_push, List.mem_singleton.mp hb]; exact Nat.lt_succ_self _
  · rw [List.mem_singleton.mp hb]; exact none_of_size (Nat.le_refl _)
  · rw [List.mem_singleton.mp hb]; exact .inl (none_of_size (Nat.le_refl _))

/-- two lists side by side -/
noncomputable abbrev P2zip (xs ys : Array Value) (i : Nat) (x y : Value) : Prop := xs[i]? = some x ∧ ys[i]? = some y
noncomputable abbrev P2enum (xs : Array Value) (i : Nat) (x y : Value) : Prop := (∃ t, x = .int i t) ∧ xs[i]? = some y
noncomputable abbrev PPair (P2 : Nat → Value → Value → Prop) (i : Nat) (v : Value) (h : Heap) : Prop := ∃ T x y, v = .ref T ∧ P2 i x y ∧ h.IsTuple T #[x, y]
/-- the made object z, told to the iterating -/
noncomputable def Made2 (prog : Program) (w : World) (A : Around) (base h : Heap) (z : Addr) (n : Nat) (P2 : Nat → Value → Value → Prop) : Prop :=
  (∀ elts k pos, Ready prog w A (.Tuple elts k pos) base h z n (PPair P2)) ∧ ∀ (s : Shared) (Q : Value → Shared → Prop) (E : Value → Shared → Prop), s.heap = h → Q (.ref z) s → wpAny (model prog w) A (pyIter (.ref z)) Q E s

theorem KTurns.pair {I : Addr} {fp wr : List Addr} {n : Nat} {Pt : Nat → Array Value → Prop} {P2 : Nat → Value → Value → Prop} {Md : Nat → Value → Heap → Prop} {St : Nat → Heap → Prop} (W : KTurns prog w A target I fp wr n (fun i v h => ∃ T vals, v = .ref T ∧ Pt i vals ∧ h.IsTuple T vals) Md St)
    (k : ∀ i vals, Pt i vals → ∃ x y, vals = #[x, y] ∧ P2 i x y) : KTurns prog w A target I fp wr n (PPair P2) Md St where
  sub := W.sub
  frame := W.frame
  item := W.item
  go := fun i v s Q E hm hQ => W.go i v s Q E hm fun h' hP st hk => hQ h' (by
    obtain ⟨T, vals, e, hp, ht⟩ := hP
    obtain ⟨x, y, rfl, q⟩ := k i vals hp
    exact ⟨T, x, y, e, q, ht⟩) st hk
  done := W.done

theorem made_zip {l1 l2 : Addr} {xs ys : Array Value} {Q : Value → Shared → Prop} (hh : A.handled = none) (hl1 : s.heap.IsList l1 xs) (hl2 : s.heap.IsList l2 ys)
    (h : ∀ h' z, HLe s.heap h' → Made2 prog w A s.heap h' z (min xs.size ys.size) (P2zip xs ys) → Q (.ref z) { s with heap := h' }) : wpAny (model prog w) A (call (.type "zip") [.ref l1, .ref l2]) Q E s := by
  have hlt1 : l1 < s.heap.objs.size := by obtain ⟨_, e, _⟩ := hl1; exact Heap.lt_size e
  have hlt2 : l2 < s.heap.objs.size := by obtain ⟨_, e, _⟩ := hl2; exact Heap.lt_size e
  have D : ZipApart (s.heap.objs.size + 4) (s.heap.objs.size + 2) (s.heap.objs.size + 3) s.heap.objs.size (s.heap.objs.size + 1) l1 l2 := ktu_apart _ _ _ hlt1 hlt2
  refine call_zip_2 hl1 hl2 fun h' hz hTI hTO hi1 hi2 hsz hk => h _ _ hk ⟨fun elts k pos => ?_, fun s' Q' E' e q => wpAny_pyIter_zip (f0 := .none) (TI := s.heap.objs.size + 2) (TO := s.heap.objs.size + 3) (e ▸ hz) q⟩
  have W := (WalksT.zip2 (prog := prog) (w := w) hh _ _ _ _ _ _ _ D xs ys).toU
  refine ⟨_, _, _, _, ⟨KTurns.pair (KTurns.ofWalksU W) fun i vals hp => ?_, fun s Q E st q => W.self 0 s Q E st q, fun i h st b hb => ?_⟩, ⟨hz, hTI, ⟨_, _, hTO⟩, hi1, hi2, hl1.at fun o e => hk _ _ e, hl2.at fun o e => hk _ _ e⟩, fun b hb => ?_, fun b hb => ?_, fun b hb => ?_⟩
  · obtain ⟨x, y, h1, h2, rfl⟩ := hp
    exact ⟨x, y, rfl, h1, h2⟩
  · obtain ⟨hz, hTI, ⟨a, b', hTO⟩, ⟨o1, ho1, _⟩, ⟨o2, ho2, _⟩, _⟩ := st
    have hb' : b = s.heap.objs.size + 4 ∨ b = s.heap.objs.size + 3 ∨ b = s.heap.objs.size ∨ b = s.heap.objs.size + 1 := by simpa using hb
    rcases hb' with rfl | rfl | rfl | rfl
    · exact ⟨_, hz⟩
    · exact ⟨_, hTO⟩
    · exact ⟨_, ho1⟩
    · exact ⟨_, ho2⟩
  · have hb' : b = s.heap.objs.size + 4 ∨ b = s.heap.objs.size + 2 ∨ b = s.heap.objs.size + 3 ∨ b = s.heap.objs.size ∨ b = s.heap.objs.size + 1 ∨ b = l1 ∨ b = l2 := by simpa using hb
    rw [hsz]
    have a1 : l1 < s.heap.objs.size + 5 := Nat.lt_of_lt_of_le hlt1 (Nat.le_add_right _ _)
    have a2 : l2 < s.heap.objs.size + 5 := Nat.lt_of_lt_of_le hlt2 (Nat.le_add_right _ _)
    rcases hb' with rfl | rfl | rfl | rfl | rfl | rfl | rfl
    · exact Nat.lt_succ_self _
    · exact Nat.add_lt_add_left (by decide) _
    · exact Nat.add_lt_add_left (by decide) _
    · exact Nat.lt_add_of_pos_right (by decide)
    · exact Nat.add_lt_add_left (by decide) _
    · exact a1
    · exact a2
  · have hb' : b = s.heap.objs.size + 4 ∨ b = s.heap.objs.size + 3 ∨ b = s.heap.objs.size ∨ b = s.heap.objs.size + 1 := by simpa using hb
    refine none_of_size ?_
    rcases hb' with rfl | rfl | rfl | rfl
    · exact Nat.le_add_right _ _
    · exact Nat.le_add_right _ _
    · exact Nat.le_refl _
    · exact Nat.le_add_right _ _
  · have hb' : b = s.heap.objs.size + 4 ∨ b = s.heap.objs.size + 2 ∨ b = s.heap.objs.size + 3 ∨ b = s.heap.objs.size ∨ b = s.heap.objs.size + 1 ∨ b = l1 ∨ b = l2 := by simpa using hb
    rcases hb' with rfl | rfl | rfl | rfl | rfl | rfl | rfl
    · exact .inl (none_of_size (Nat.le_add_right _ _))
    · exact .inl (none_of_size (Nat.le_add_right _ _))
    · exact .inl (none_of_size (Nat.le_add_right _ _))
    · exact .inl (none_of_size (Nat.le_refl _))
    · exact .inl (none_of_size (Nat.le_add_right _ _))
    · obtain ⟨o, e, _, k, d⟩ := hl1
      exact .inr ⟨o, _, k, e, d⟩
    · obtain ⟨o, e, _, k, d⟩ := hl2
      exact .inr ⟨o, _, k, e, d⟩

theorem made_enum {l : Addr} {xs : Array Value} {Q : Value → Shared → Prop} (hh : A.handled = none) (hl : s.heap.IsList l xs)
    (h : ∀ h' z, HLe s.heap h' → Made2 prog w A s.heap h' z xs.size (P2enum xs) → Q (.ref z) { s with heap := h' }) : wpAny (model prog w) A (call (.type "enumerate") [.ref l]) Q E s := by
  have hlt : l < s.heap.objs.size := by obtain ⟨_, e, _⟩ := hl; exact Heap.lt_size e
  refine call_enumerate_list hl fun h' hE hI hsz hk => h _ _ hk ⟨fun elts k pos => ?_, fun s' Q' E' e q => wpAny_pyIter_enum (e ▸ hE) q⟩
  have W := (WalksT.enumerate (prog := prog) (w := w) hh (s.heap.objs.size + 1) s.heap.objs.size l (Nat.succ_ne_self _) (ktu_ne 1 hlt) (Nat.ne_of_lt hlt) xs).toU
  refine ⟨_, _, _, _, ⟨KTurns.pair (KTurns.ofWalksU W) fun i vals hp => ?_, fun s Q E st q => W.self 0 s Q E st q, fun i h st b hb => ?_⟩, ⟨⟨_, hE⟩, hI, hl.at fun o e => hk _ _ e⟩, fun b hb => ?_, fun b hb => ?_, fun b hb => ?_⟩
  · obtain ⟨t, x, h1, rfl⟩ := hp
    exact ⟨_, x, rfl, ⟨t, rfl⟩, h1⟩
  · obtain ⟨⟨old, hE⟩, ⟨o1, ho1, _⟩, _⟩ := st
    have hb' : b = s.heap.objs.size + 1 ∨ b = s.heap.objs.size := by simpa using hb
    rcases hb' with rfl | rfl
    · exact ⟨_, hE⟩
    · exact ⟨_, ho1⟩
  · have hb' : b = s.heap.objs.size + 1 ∨ b = s.heap.objs.size ∨ b = l := by simpa using hb
    rw [hsz]
    have a1 : l < s.heap.objs.size + 2 := Nat.lt_of_lt_of_le hlt (Nat.le_add_right _ _)
    rcases hb' with rfl | rfl | rfl
    · exact Nat.lt_succ_self _
    · exact Nat.lt_add_of_pos_right (by decide)
    · exact a1
  · have hb' : b = s.heap.objs.size + 1 ∨ b = s.heap.objs.size := by simpa using hb
    refine none_of_size ?_
    rcases hb' with rfl | rfl
    · exact Nat.le_add_right _ _
    · exact Nat.le_refl _
  · have hb' : b = s.heap.objs.size + 1 ∨ b = s.heap.objs.size ∨ b = l := by simpa using hb
    rcases hb' with rfl | rfl | rfl
    · exact .inl (none_of_size (Nat.le_add_right _ _))
    · exact .inl (none_of_size (Nat.le_refl _))
    · obtain ⟨o, e, _, k, d⟩ := hl
      exact .inr ⟨o, _, k, e, d⟩

/-- what the target binds -/
noncomputable def Binds (prog : Program) (w : World) (A : Around) (target : Expr) (scope : Scope) (cl : List (Str × Addr)) (env : Env) (n : Nat) (P : Nat → Value → Heap → Prop) (B : Nat → (Str → Option Value) → Prop) : Prop :=
  ∀ i v (s : Shared) C m (Q' : Unit → Shared → Prop) (E' : Value → Shared → Prop), i < n → P i v s.heap → s.heap.Ns C m →
    (∀ h' tk' m', h'.Ns C m' → B i m' → (∀ b o, b ≠ C → s.heap.get? b = some o → h'.get? b = some o) → Q' () { s with heap := h', toks := tk' }) →
    wpAny (model prog w) A (assign target (compEnvC scope cl C env) v) Q' E' s
noncomputable abbrev B1 (P : Nat → Value → Heap → Prop) (x : Str) (i : Nat) (m : Str → Option Value) : Prop := ∃ v, (∃ h, P i v h) ∧ m x = some v
noncomputable abbrev B2 (P2 : Nat → Value → Value → Prop) (a b : Str) (i : Nat) (m : Str → Option Value) : Prop := ∃ x y, P2 i x y ∧ m a = some x ∧ m b = some y

theorem binds_name {scope : Scope} {cl : List (Str × Addr)} {env : Env} {n : Nat} {P : Nat → Value → Heap → Prop} {x : Str} {px : Pos} (hkind : scope.kind = .function) (hx : scope.names.lookup x = some .local) :
    Binds prog w A (.Name x px) scope cl env n P (B1 P x) := by
  intro i v s C m Q' E' _ hP hn h
  refine wpAny_assign_Name (wpAny_storeName_local (lookup_relabel_local hx) hn (fun h₃ hn₃ hs₃ => ?_) (by simp [compEnvC, relabel, hkind]))
  exact h h₃ _ _ hn₃ ⟨v, ⟨_, hP⟩, by simp⟩ fun b o hb e => hs₃.extBut b o hb e
theorem binds_pair {scope : Scope} {cl : List (Str × Addr)} {env : Env} {n : Nat} {P2 : Nat → Value → Value → Prop} {a b : Str} {pa pb tp : Pos} {kk : Nat} (hh : A.handled = none) (hkind : scope.kind = .function) (ha : scope.names.lookup a = some .local) (hb : scope.names.lookup b = some .local) (hab : ¬ a = b) :
    Binds prog w A (.Tuple [.Name a pa, .Name b pb] kk tp) scope cl env n (PPair P2) (B2 P2 a b) := by
  intro i v s C m Q' E' _ hP hn h
  obtain ⟨T, x, y, rfl, hp, ht⟩ := hP
  refine kcp_assign hh ht (lookup_relabel_local ha) (lookup_relabel_local hb) (by simp [compEnvC, relabel, hkind]) hn fun h' tk hn' hk => h h' tk _ hn' ⟨x, y, hp, by simp [hab], by simp⟩ hk

inductive Acc (R : Nat → Led → Value → Prop) (p : Nat → Bool) : Nat → List Value → Led → Prop
  | nil : Acc R p 0 [] []
  | take {i ys own o y} : Acc R p i ys own → p i = true → R i o y → Acc R p (i + 1) (ys ++ [y]) (o ++ own)
  | skip {i ys own} : Acc R p i ys own → p i = false → Acc R p (i + 1) ys own

theorem compAt_pure {elt : Expr} {ifs : List Expr} {env : Env} {scope : Scope} {cl : List (Str × Addr)} {Y : List Addr} {Fin : Addr → Heap → Nat → Prop} {Ok : List Addr → Prop} {h₂ : Heap} {tk₂ : Nat} {I : Addr} {n : Nat} {P : Nat → Value → Heap → Prop} {B : Nat → (Str → Option Value) → Prop} (p : Nat → Bool) (R : Nat → Led → Value → Prop)
    (hOk : Ok []) (Rd : Ready prog w A target s.heap h₂ I n P) (hk : HLe s.heap h₂) (hsz : n ≤ sizeLine) (asg : Binds prog w A target scope cl env n P B)
    (tst : ∀ i h tk C m (E' : Value → Shared → Prop), i < n → B i m → h.Ns C m → h₂.objs.size ≤ C → HLe s.heap h →
      wpAny (model prog w) A (tests9 ifs (compEnvC scope cl C env)) (fun ok s' => ok = p i ∧ ∃ h' tk', s' = { s with heap := h', toks := tk' } ∧ HLe h h') E' { s with heap := h, toks := tk })
    (elt' : ∀ i h tk C m (E' : Value → Shared → Prop), i < n → p i = true → B i m → h.Ns C m → h₂.objs.size ≤ C → HLe s.heap h →
      wpAny (model prog w) A (eval elt (compEnvC scope cl C env)) (Out h (R i) s) E' { s with heap := h, toks := tk })
    (fin : ∀ D h tk ys own, HBut Y s.heap h → Acc R p n ys own → Own s.heap h ((D, lst9 ys) :: own) → Fin D h tk) :
    CompAt prog w A s elt target ifs env scope cl Y Fin Ok (.ref I) { s with heap := h₂, toks := tk₂ } := by
  obtain ⟨fp, wr, Md, St, S, st, hfp, hwr, -⟩ := Rd
  refine ⟨h₂, tk₂, I, fp, wr, n, P, Md, St, B, p, [], fun _ _ => True, Acc R p, rfl, rfl, S, ⟨?_, ?_, ?_, ?_⟩, (fun _ _ _ _ h => nomatch h), (fun _ _ _ _ _ => trivial), hk, st, hsz, (fun b hb => ⟨hfp b hb, (nomatch ·)⟩), hwr, (fun _ h => nomatch h), trivial, .nil, hOk, ?_⟩
  · intro i v h tk C m Q' E' hi hP hn hQ
    exact asg i v { s with heap := h, toks := tk } C m Q' E' hi hP hn hQ
  · intro i h tk C m E' hi hB hn hC hb _
    exact tst i h tk C m E' hi hB hn hC hb.le
  · intro i h tk C m ys own E' hi hp hB hn hC hb _ O J
    refine wpAny_mono (elt' i h tk C m E' hi hp hB hn hC hb.le) (fun y s' ho => ?_) fun _ _ e => e
    obtain ⟨own', h', tk', rfl, r, k, o⟩ := ho
    exact ⟨own', h', tk', rfl, HBut.of k, trivial, o, .take J hp r⟩
  · intro i h ys own _ hp _ J
    exact ⟨trivial, .skip J hp⟩
  · intro D h tk ys own hb _ J O
    exact fin D h tk ys own (by rwa [List.append_nil] at hb) J O

theorem tests_none {env : Env} {s' : Shared} {s : Shared} {h : Heap} {tk : Nat} {E' : Value → Shared → Prop} {C : Prop} (_ : C) (e : s' = { s with heap := h, toks := tk }) :
    wpAny (model prog w) A (tests9 [] env) (fun ok s' => ok = true ∧ ∃ h' tk', s' = { s with heap := h', toks := tk' } ∧ HLe h h') E' s' := by
  subst e
  exact wpAny_tests_nil ⟨rfl, h, tk, rfl, HLe.refl _⟩

/-- the ground on which an element is walked: the outer frame, the ledger with the block's own frame -/
theorem elt_ground {g h h₂ : Heap} {L C : Addr} {m₀ m : Str → Option Value} {news : Led} (F : Fr g L s.heap m₀) (N : News g L s.heap news) (hk : HLe s.heap h₂) (k : HLe s.heap h) (hn : h.Ns C m) (hC : h₂.objs.size ≤ C) :
    ∃ oC, LCg.NsObj oC m ∧ Fr g L h m₀ ∧ News g L h ((C, oC) :: news) := by
  obtain ⟨oC, e, q⟩ := LCg.ns_obj hn
  have f : s.heap.get? C = none := by
    cases e : s.heap.get? C with
    | none => rfl
    | some o => exact absurd (Heap.lt_size (hk _ _ e)) (Nat.not_lt.mpr hC)
  refine ⟨oC, q, F.keeps k, ?_⟩
  have := News.grow F N k (own := [(C, oC)]) (fun p hp => by rw [List.mem_singleton.mp hp]; exact ⟨e, f⟩)
  exact this
end
/-- guards: the walk's lines look at the goal by these -/
theorem at_comp {M : Model} {A A' : Around} {E : Value → Shared → Prop} {s s' : Shared} {a : Addr} {prog : Program} {w : World} {elt target : Expr} {ifs : List Expr} {env : Env} {scope : Scope} {cl : List (Str × Addr)} {Y : List Addr} {Fin : Addr → Heap → Nat → Prop} {Ok : List Addr → Prop}
    (h : wpAny M A (pyIter (.ref a)) (CompAt prog w A' s' elt target ifs env scope cl Y Fin Ok) E s) : wpAny M A (pyIter (.ref a)) (CompAt prog w A' s' elt target ifs env scope cl Y Fin Ok) E s := h
theorem made_it {prog : Program} {w : World} {A : Around} {g h : Heap} {z : Addr} {n : Nat} {P : Nat → Value → Value → Prop} {s : Shared} {Q : Value → Shared → Prop} {E : Value → Shared → Prop} (M : Made2 prog w A g h z n P) (e : s.heap = h) (q : Q (.ref z) s) : wpAny (model prog w) A (pyIter (.ref z)) Q E s := M.2 s Q E e q
end

/- B6 -/
section
/- Data: rows of fractions, grids of ints, in a heap or in a ledger -/

noncomputable def All2 {α β : Type} (R : α → β → Prop) (xs : List α) (ys : List β) : Prop := xs.length = ys.length ∧ ∀ (i : Nat) x y, xs[i]? = some x → ys[i]? = some y → R x y
theorem All2.imp {α β : Type} {R S : α → β → Prop} {xs : List α} {ys : List β} (h : All2 R xs ys) (k : ∀ x y, R x y → S x y) : All2 S xs ys := ⟨h.1, fun i x y a b => k x y (h.2 i x y a b)⟩
theorem All2.get {α β : Type} {R : α → β → Prop} {xs : List α} {ys : List β} (h : All2 R xs ys) {i : Nat} {y : β} (e : ys[i]? = some y) : ∃ x, xs[i]? = some x ∧ R x y := by
  have hi : i < ys.length := (List.getElem?_eq_some_iff.mp e).1
  have : i < xs.length := by rw [h.1]; exact hi
  exact ⟨xs[i], List.getElem?_eq_getElem this, h.2 i _ _ (List.getElem?_eq_getElem this) e⟩
theorem All2.nil {α β : Type} {R : α → β → Prop} : All2 R [] [] := ⟨rfl, fun i x y a _ => by simp at a⟩
theorem All2.cons {α β : Type} {R : α → β → Prop} {x : α} {y : β} {xs : List α} {ys : List β} (h : R x y) (t : All2 R xs ys) : All2 R (x :: xs) (y :: ys) := ⟨by simp [t.1], fun i a b e f => by
  cases i with
  | zero => simp at e f; subst e f; exact h
  | succ i => exact t.2 i a b (by simpa using e) (by simpa using f)⟩
theorem All2.uncons {α β : Type} {R : α → β → Prop} {xs : List α} {y : β} {ys : List β} (h : All2 R xs (y :: ys)) : ∃ x xs', xs = x :: xs' ∧ R x y ∧ All2 R xs' ys := by
  cases xs with
  | nil => have := h.1; simp at this
  | cons x xs' => exact ⟨x, xs', rfl, h.2 0 x y rfl rfl, by have := h.1; simpa using this, fun i a b e f => h.2 (i + 1) a b (by simpa using e) (by simpa using f)⟩
theorem All2.unnil {α β : Type} {R : α → β → Prop} {xs : List α} (h : All2 R xs ([] : List β)) : xs = [] := List.eq_nil_of_length_eq_zero h.1

/-- a row of fractions in a heap -/
noncomputable def RowAt (h : Heap) (v : Value) (qs : List Rat) : Prop := ∃ D vs, v = .ref D ∧ h.IsList D (List.toArray vs) ∧ All2 (RatAt h) vs qs
/-- a new row: its objects are in own -/
noncomputable def PairIn (own : Led) (v : Value) (x y : Int) : Prop := ∃ D t u c, v = .ref D ∧ (D, tup2 x t y u c) ∈ own
noncomputable def RatIn (own : Led) (v : Value) (q : Rat) : Prop := PairIn own v q.num q.den
noncomputable def RowIn (own : Led) (v : Value) (qs : List Rat) : Prop := ∃ D vs c, v = .ref D ∧ (D, lstObj vs c) ∈ own ∧ All2 (RatIn own) vs qs
theorem PairIn.at {own : Led} {v : Value} {x y : Int} {h : Heap} (r : PairIn own v x y) (k : ∀ p ∈ own, h.get? p.1 = some p.2) : PairAt h v x y := by
  obtain ⟨D, t, u, c, rfl, hm⟩ := r
  exact ⟨D, t, u, rfl, _, k _ hm, rfl, c, rfl⟩
theorem RowIn.at {own : Led} {v : Value} {qs : List Rat} {h : Heap} (r : RowIn own v qs) (k : ∀ p ∈ own, h.get? p.1 = some p.2) : RowAt h v qs := by
  obtain ⟨D, vs, c, rfl, hm, a⟩ := r
  exact ⟨D, vs, rfl, ⟨_, k _ hm, rfl, c, rfl⟩, a.imp fun _ _ r => PairIn.at r k⟩
theorem PairIn.mono {own own' : Led} {v : Value} {x y : Int} (r : PairIn own v x y) (k : ∀ p ∈ own, p ∈ own') : PairIn own' v x y := by
  obtain ⟨D, t, u, c, rfl, hm⟩ := r
  exact ⟨D, t, u, c, rfl, k _ hm⟩
theorem RowIn.mono {own own' : Led} {v : Value} {qs : List Rat} (r : RowIn own v qs) (k : ∀ p ∈ own, p ∈ own') : RowIn own' v qs := by
  obtain ⟨D, vs, c, rfl, hm, a⟩ := r
  exact ⟨D, vs, c, rfl, k _ hm, a.imp fun _ _ r => PairIn.mono r k⟩
theorem PairAt.mono {h h' : Heap} {v : Value} {x y : Int} (r : PairAt h v x y) (k : HLe h h') : PairAt h' v x y := by
  obtain ⟨D, t, u, rfl, a⟩ := r
  exact ⟨D, t, u, rfl, a.keeps k⟩
theorem RatAt.mono {h h' : Heap} {v : Value} {q : Rat} (r : RatAt h v q) (k : HLe h h') : RatAt h' v q := PairAt.mono r k
theorem RowAt.mono {h h' : Heap} {v : Value} {qs : List Rat} (r : RowAt h v qs) (k : HLe h h') : RowAt h' v qs := by
  obtain ⟨D, vs, rfl, l, a⟩ := r
  exact ⟨D, vs, rfl, l.at fun o e => k _ _ e, a.imp fun _ _ r => RatAt.mono r k⟩

theorem Out.one {h h1 : Heap} {own : Led} {R : Led → Value → Prop} {s : Shared} {v : Value} {tk : Nat} (k1 : HLe h h1) (O : Own h h1 own) (r : R own v) : Out h R s v { s with heap := h1, toks := tk } := ⟨own, h1, tk, rfl, r, k1, O⟩
theorem Out.two {h h1 h2 : Heap} {own : Led} {R : Led → Value → Prop} {s : Shared} {v : Value} {tk : Nat} (k1 : HLe h h1) (k2 : HLe h1 h2) (O : Own h1 h2 own) (r : R own v) : Out h R s v { s with heap := h2, toks := tk } := ⟨own, h2, tk, rfl, r, HLe.trans k1 k2, Own.old k1 O⟩
theorem zipWith_get {f : Rat → Rat → Rat} {rs bs : List Rat} {i : Nat} {q : Rat} (h : (List.zipWith f rs bs)[i]? = some q) : ∃ r b, rs[i]? = some r ∧ bs[i]? = some b ∧ q = f r b := by
  rw [List.getElem?_zipWith] at h
  cases e1 : rs[i]? with
  | none => rw [e1] at h; cases h
  | some r =>
    cases e2 : bs[i]? with
    | none => rw [e1, e2] at h; cases h
    | some b => rw [e1, e2] at h; exact ⟨r, b, rfl, rfl, (Option.some.inj h).symm⟩
theorem acc_all {R : Nat → Led → Value → Prop} {n : Nat} {ys : List Value} {own : Led} (h : Acc R (fun _ => true) n ys own) : ys.length = n ∧ ∀ (i : Nat) y, ys[i]? = some y → ∃ o, R i o y ∧ ∀ q ∈ o, q ∈ own := by
  induction h with
  | nil => exact ⟨rfl, fun i y e => by simp at e⟩
  | @take i ys own o y _ _ r ih =>
    refine ⟨by simp [ih.1], fun j z e => ?_⟩
    rw [List.getElem?_append] at e
    split at e
    · obtain ⟨o', r', k⟩ := ih.2 j z e
      exact ⟨o', r', fun q hq => List.mem_append_right _ (k q hq)⟩
    · rename_i hj
      have hj' : j = i := by
        have := (List.getElem?_eq_some_iff.mp e).1
        simp at this
        omega
      subst hj'
      have : y = z := by simpa [ih.1] using e
      subst this
      exact ⟨o, r, fun q hq => List.mem_append_left _ hq⟩
  | skip _ h _ => cases h
theorem acc_row {R : Nat → Led → Value → Prop} {n : Nat} {ys : List Value} {own : Led} {qs : List Rat} {D : Addr} {c : Nat} (h : Acc R (fun _ => true) n ys own) (hn : qs.length = n) (k : ∀ (i : Nat) o y q, qs[i]? = some q → R i o y → RRat q o y) :
    RowIn ((D, lstObj ys c) :: own) (.ref D) qs := by
  obtain ⟨h1, h2⟩ := acc_all h
  refine ⟨D, ys, c, rfl, List.mem_cons_self, by rw [h1, hn], fun i y q e f => ?_⟩
  obtain ⟨o, r, s⟩ := h2 i y e
  obtain ⟨D', t, u, c', rfl, rfl⟩ := k i o y q f r
  exact ⟨D', t, u, c', rfl, List.mem_cons_of_mem _ (s _ (List.mem_singleton.mpr rfl))⟩
end

/- B7 -/
section
/- Loops over a range by an invariant; items at an index that is not written -/

section
variable {M : Model} {A A' : Around} {E E' : Value → Shared → Prop} {s s' : Shared} {env env' : Env} {a b : Addr} {v : Value} {x y : Expr} {p q : Pos} {Q : Value → Shared → Prop} {Qf : Flow → Shared → Prop} {prog : Program} {w : World} {h₀ : Heap} {body : List Stmt}
theorem stop_item (h : Stop9 (wpAny M A (subscriptTail x y (.ref a) (.ref b)) Q E s)) : wpAny M A (subscriptTail x y (.ref a) (.ref b)) Q E s := h
theorem at_item {k : Int} {t : Tok} (h : wpAny M A (subscriptTail x y (.ref a) (.int k t)) Q E s) : wpAny M A (subscriptTail x y (.ref a) (.int k t)) Q E s := h
theorem stop_set {k : Int} {t : Tok} {Q : Unit → Shared → Prop} (h : Stop9 (wpAny M A (setItem (.ref a) (.int k t) v) Q E s)) : wpAny M A (setItem (.ref a) (.int k t) v) Q E s := h
theorem stop_name (n : Str) {Q : Unit → Shared → Prop} (h : Stop9 (wpAny M A (storeName env n v) Q E s)) : wpAny M A (storeName env n v) Q E s := h
theorem stop_if (o : CmpOp) {r : List Expr} {ss ts us : List Stmt} (h : Stop9 (wpAny M A (execs (.If (.Compare x [o] r p) ss ts q :: us) env) Qf E s)) : wpAny M A (execs (.If (.Compare x [o] r p) ss ts q :: us) env) Qf E s := h
theorem at_assign {n : Str} {z : Expr} {o : Pos} (h : wpAny M A (exec (.Assign [.Name n p] z o) env) Qf E s) : wpAny M A (exec (.Assign [.Name n p] z o) env) Qf E s := h
theorem at_assignS {z : Expr} {o : Pos} (h : wpAny M A (exec (.Assign [.Subscript x y p] z o) env) Qf E s) : wpAny M A (exec (.Assign [.Subscript x y p] z o) env) Qf E s := h
theorem at_for (n : Str) {ss ts : List Stmt} (h : wpAny M A (exec (.For (.Name n p) x ss ts q) env) Qf E s) : wpAny M A (exec (.For (.Name n p) x ss ts q) env) Qf E s := h
theorem stop_loop {n : Str} (h : Stop9 (wpAny M A (pyIter (.ref a)) (fun it s₂ => LoopAtV prog w A' h₀ env n body Qf E' it s₂) E s)) : wpAny M A (pyIter (.ref a)) (fun it s₂ => LoopAtV prog w A' h₀ env n body Qf E' it s₂) E s := h
theorem stop_turns (h : Stop9 (wpAny M A (pyIter (.ref a)) (fun it s₂ => TurnsAt prog w A' h₀ env x body Qf E' it s₂) E s)) : wpAny M A (pyIter (.ref a)) (fun it s₂ => TurnsAt prog w A' h₀ env x body Qf E' it s₂) E s := h
theorem at_turns (h : wpAny M A (pyIter (.ref a)) (fun it s₂ => TurnsAt prog w A' h₀ env x body Qf E' it s₂) E s) : wpAny M A (pyIter (.ref a)) (fun it s₂ => TurnsAt prog w A' h₀ env x body Qf E' it s₂) E s := h
theorem stop_comp {ifs : List Expr} {scope : Scope} {cl : List (Str × Addr)} {Y : List Addr} {Fin : Addr → Heap → Nat → Prop} {Ok : List Addr → Prop}
    (h : Stop9 (wpAny M A (pyIter (.ref a)) (CompAt prog w A' s' x y ifs env scope cl Y Fin Ok) E s)) : wpAny M A (pyIter (.ref a)) (CompAt prog w A' s' x y ifs env scope cl Y Fin Ok) E s := h
theorem stop_compR {ifs : List Expr} {scope : Scope} {cl : List (Str × Addr)} {Y : List Addr} {Fin : Addr → Heap → Nat → Prop} {Ok : List Addr → Prop} {h' : Heap} {i j k : Int} {t u o : Tok} (_ : IsRange h' a i j k t u o)
    (h : Stop9 (wpAny M A (pyIter (.ref a)) (CompAt prog w A' s' x y ifs env scope cl Y Fin Ok) E s)) : wpAny M A (pyIter (.ref a)) (CompAt prog w A' s' x y ifs env scope cl Y Fin Ok) E s := h
end

section
variable {prog : Program} {w : World} {A : Around} {E : Value → Shared → Prop} {s : Shared} {env : Env} {h₀ : Heap} {x : Str} {body : List Stmt} {Q : Flow → Shared → Prop}

theorem rangeRest_ind {I : Addr} {a : Int} {n : Nat} (J : Nat → (Str → Option Value) → Led → Prop)
    (turn : ∀ i t m news h tk, i < n → J i m news → (∀ p ∈ news, p.1 ≠ I) → Fr h₀ env.locals h (fun y => if y = x then some (.int (a + (i : Int)) t) else m y) →
      News h₀ env.locals h ((I, itR (a + ((i + 1 : Nat) : Int)) ((n : Int) - ((i + 1 : Nat) : Int))) :: news) →
      wpAny (model prog w) A (execs body env) (UnrPost h₀ env.locals { s with heap := h, toks := tk } I (itR (a + ((i + 1 : Nat) : Int)) ((n : Int) - ((i + 1 : Nat) : Int))) (J (i + 1)) Q) E { s with heap := h, toks := tk })
    (done : ∀ m news h tk, J n m news → Fr h₀ env.locals h m → News h₀ env.locals h news → Q .next { s with heap := h, toks := tk }) :
    ∀ k i m news, i + k = n → J i m news → (∀ p ∈ news, p.1 ≠ I) → RangeRest prog w A E h₀ env x body Q s I a n k i m news
  | 0, i, m, news, e, hJ, _ => .zero fun h tk F N => done m news h tk (by rw [show n = i by omega]; exact hJ) F N
  | k + 1, i, m, news, e, hJ, off => .succ fun t h tk F N => by
    refine wpAny_mono (turn i t m news h tk (by omega) hJ off F N) (fun f s₂ p => ?_) fun _ _ e => e
    have fin : UnrEnd h₀ env.locals { s with heap := h, toks := tk } I (itR (a + ((i + 1 : Nat) : Int)) ((n : Int) - ((i + 1 : Nat) : Int))) (J (i + 1)) s₂ →
        UnrEnd h₀ env.locals { s with heap := h, toks := tk } I (itR (a + ((i + 1 : Nat) : Int)) ((n : Int) - ((i + 1 : Nat) : Int))) (RangeRest prog w A E h₀ env x body Q s I a n k (i + 1)) s₂ := by
      rintro ⟨h', tk', m', news', e', F', N', o, j⟩
      exact ⟨h', tk', m', news', e', F', N', o, rangeRest_ind J turn done k (i + 1) m' news' (by omega) j o⟩
    cases f with
    | ret v => exact p
    | brk => exact p
    | next => exact fin p
    | cont => exact fin p

/-- a for over range(a, a + n) by an invariant -/
theorem range9 {r : Addr} {a b : Int} {t₀ u₀ v₀ : Tok} {n : Nat} {m₀ : Str → Option Value} {news : Led} (J : Nat → (Str → Option Value) → Led → Prop)
    (hh : A.handled = none) (hr : IsRange s.heap r a b 1 t₀ u₀ v₀) (hsmall : Builtin.Range.small a b 1 = true) (hn : Builtin.Range.rangeSize a b 1 = (n : Int)) (F : Fr h₀ env.locals s.heap m₀) (N : News h₀ env.locals s.heap news) (hJ : J 0 m₀ news)
    (turn : ∀ I i t m news h tk, i < n → J i m news → (∀ p ∈ news, p.1 ≠ I) → Fr h₀ env.locals h (fun y => if y = x then some (.int (a + (i : Int)) t) else m y) →
      News h₀ env.locals h ((I, itR (a + ((i + 1 : Nat) : Int)) ((n : Int) - ((i + 1 : Nat) : Int))) :: news) →
      wpAny (model prog w) A (execs body env) (UnrPost h₀ env.locals { s with heap := h, toks := tk } I (itR (a + ((i + 1 : Nat) : Int)) ((n : Int) - ((i + 1 : Nat) : Int))) (J (i + 1)) Q) E { s with heap := h, toks := tk })
    (done : ∀ m news h tk, J n m news → Fr h₀ env.locals h m → News h₀ env.locals h news → Q .next { s with heap := h, toks := tk }) :
    wpAny (model prog w) A (pyIter (.ref r)) (fun it s₂ => LoopAtV prog w A h₀ env x body Q E it s₂) E s := by
  refine iter_rangeUnr hh hr hsmall hn F N fun I l => ?_
  exact rangeRest_ind J (turn I) done n 0 m₀ news (by omega) hJ fun p hp => Nat.ne_of_lt (l p hp)

theorem mk_range1 {L : Addr} {m : Str → Option Value} {news : Led} {n : Int} {t : Tok} {Q : Value → Shared → Prop} (F : Fr h₀ L s.heap m) (N : News h₀ L s.heap news)
    (h : ∀ h' r u v tk', HLe s.heap h' → IsRange h' r 0 n 1 u t v → Fr h₀ L h' m → News h₀ L h' news → Q (.ref r) { s with heap := h', toks := tk' }) : wpAny (model prog w) A (call (.type "range") [.int n t]) Q E s :=
  call_range_1 (h _ _ _ _ _ (fun _ _ e => Heap.get?_push_of_some _ e) (Heap.get?_push_size _ rfl) (F.keeps fun _ _ e => Heap.get?_push_of_some _ e) (N.grown fun _ _ e => Heap.get?_push_of_some _ e))
theorem mk_range2 {L : Addr} {m : Str → Option Value} {news : Led} {a b : Int} {t t' : Tok} {Q : Value → Shared → Prop} (F : Fr h₀ L s.heap m) (N : News h₀ L s.heap news)
    (h : ∀ h' r v tk', HLe s.heap h' → IsRange h' r a b 1 t t' v → Fr h₀ L h' m → News h₀ L h' news → Q (.ref r) { s with heap := h', toks := tk' }) : wpAny (model prog w) A (call (.type "range") [.int a t, .int b t']) Q E s :=
  call_range_2 (h _ _ _ _ (fun _ _ e => Heap.get?_push_of_some _ e) (Heap.get?_push_size _ rfl) (F.keeps fun _ _ e => Heap.get?_push_of_some _ e) (N.grown fun _ _ e => Heap.get?_push_of_some _ e))

theorem item9 {value slice : Expr} {l : Addr} {vs : List Value} {k : Int} {u : Tok} {v : Value} {Q : Value → Shared → Prop}
    (hl : s.heap.IsList l vs.toArray) (h0 : 0 ≤ k) (hhi : k < 2 ^ 63) (hx : vs[k.toNat]? = some v) (h : Q v s)
    (hs : subscripted slice false (.ref l) (.int k u) = operate [.ref l, .int k u] (getItem (.ref l) (.int k u))) :
    wpAny (model prog w) A (subscriptTail value slice (.ref l) (.int k u)) Q E s :=
  tail_any hl.typeIs slot_list_getitem.lookup (wpAny_getItem_list hl h0 hhi (by simpa using hx) h) hs
theorem ld9 {M : Model} {name : Str} {scope : Scope} {L a : Addr} {cd : Value} {cells : List (Str × Addr)} {x : Str} {pos : Pos} {v : Value} {m : Str → Option Value} {Q : Value → Shared → Prop} (F : Fr h₀ L s.heap m) (hv : m x = some v) (h : Q v s)
    (hk : scope.kind = .function) (hl : (envX name scope L a cd cells).kindOf x = some .local) (hd : (x == ("__debug__" : Str)) = false) :
    wpAny M A (eval (.Name x pos) (envX name scope L a cd cells)) Q E s := nameX_L F hv h hk hl hd
end

/-- a grid of rows in a heap -/
noncomputable def GridAt (h : Heap) (v : Value) (M : List (List Rat)) : Prop := ∃ D vs, v = .ref D ∧ h.IsList D (List.toArray vs) ∧ All2 (RowAt h) vs M
theorem GridAt.mono {h h' : Heap} {v : Value} {M : List (List Rat)} (r : GridAt h v M) (k : HLe h h') : GridAt h' v M := by
  obtain ⟨D, vs, rfl, l, a⟩ := r
  exact ⟨D, vs, rfl, l.at fun o e => k _ _ e, a.imp fun _ _ r => RowAt.mono r k⟩
theorem RowAt.item {h : Heap} {v : Value} {qs : List Rat} (r : RowAt h v qs) : ∃ D vs, v = .ref D ∧ h.IsList D (List.toArray vs) ∧ ∀ (i : Nat) q, qs[i]? = some q → ∃ D' t u, vs[i]? = some (.ref D') ∧ IsTup h D' [Value.int q.num t, Value.int q.den u].toArray := by
  obtain ⟨D, vs, e, l, a⟩ := r
  refine ⟨D, vs, e, l, fun i q hq => ?_⟩
  obtain ⟨v, hv, D', t, u, rfl, ht⟩ := a.get hq
  exact ⟨D', t, u, hv, ht⟩
theorem rangeSize_up {a b : Int} {n : Nat} (h : b = a + n) : Builtin.Range.rangeSize a b 1 = (n : Int) := by
  rw [rangeSize_nat]
  omega
end

/- B8 -/
section
/- Stores into a list or a cell of the ledger; facts that hold at every later heap; a place where ways meet -/

/-- P holds at every heap that keeps g and has the objects led -/
noncomputable def Ever (g : Heap) (led : Led) (P : Heap → Prop) : Prop := ∀ h, HLe g h → (∀ p ∈ led, h.get? p.1 = some p.2) → P h
theorem Ever.base {g : Heap} {led : Led} {P : Heap → Prop} (k : ∀ h, HLe g h → P h) : Ever g led P := fun h a _ => k h a
theorem Ever.mono {g : Heap} {led led' : Led} {P : Heap → Prop} (e : Ever g led P) (k : ∀ p ∈ led, p ∈ led') : Ever g led' P := fun h a b => e h a fun p hp => b p (k p hp)
theorem Ever.now {g h : Heap} {L : Addr} {m : Str → Option Value} {led news : Led} {P : Heap → Prop} (e : Ever g led P) (F : Fr g L h m) (N : News g L h news) (k : ∀ p ∈ led, p ∈ news) : P h :=
  e h F.keep fun p hp => (N p (k p hp)).1
theorem RowIn.ever {g : Heap} {led : Led} {v : Value} {qs : List Rat} (r : RowIn led v qs) : Ever g led (RowAt · v qs) := fun _ _ b => r.at b

noncomputable def RatE (g : Heap) (led : Led) (v : Value) (q : Rat) : Prop := ∃ D t u, v = .ref D ∧ Ever g led fun h => IsTup h D [Value.int q.num t, Value.int q.den u].toArray
noncomputable def RowE (g : Heap) (led : Led) (v : Value) (qs : List Rat) : Prop := ∃ D vs, v = .ref D ∧ (Ever g led fun h => h.IsList D (List.toArray vs)) ∧ All2 (RatE g led) vs qs
theorem RowAt.everBase {g : Heap} {led : Led} {v : Value} {qs : List Rat} (r : RowAt g v qs) : RowE g led v qs := by
  obtain ⟨D, vs, e, l, a⟩ := r
  refine ⟨D, vs, e, Ever.base fun h k => l.at fun o q => k _ _ q, a.imp fun u q r => ?_⟩
  obtain ⟨D', t, u', e', x⟩ := r
  exact ⟨D', t, u', e', Ever.base fun h k => x.keeps k⟩
theorem RowIn.everIn {g : Heap} {led : Led} {v : Value} {qs : List Rat} (r : RowIn led v qs) : RowE g led v qs := by
  obtain ⟨D, vs, c, e, hm, a⟩ := r
  refine ⟨D, vs, e, fun h _ k => ⟨_, k _ hm, rfl, c, rfl⟩, a.imp fun u q r => ?_⟩
  obtain ⟨D', t, u', c', e', hm'⟩ := r
  exact ⟨D', t, u', e', fun h _ k => ⟨_, k _ hm', rfl, c', rfl⟩⟩
theorem RatE.mono {g : Heap} {led led' : Led} {v : Value} {q : Rat} (r : RatE g led v q) (k : ∀ p ∈ led, p ∈ led') : RatE g led' v q := by
  obtain ⟨D, t, u, e, x⟩ := r
  exact ⟨D, t, u, e, x.mono k⟩
theorem RowE.mono {g : Heap} {led led' : Led} {v : Value} {qs : List Rat} (r : RowE g led v qs) (k : ∀ p ∈ led, p ∈ led') : RowE g led' v qs := by
  obtain ⟨D, vs, e, l, a⟩ := r
  exact ⟨D, vs, e, l.mono k, a.imp fun _ _ r => r.mono k⟩
theorem RatE.now {g h : Heap} {L : Addr} {m : Str → Option Value} {led news : Led} {v : Value} {q : Rat} (r : RatE g led v q) (F : Fr g L h m) (N : News g L h news) (k : ∀ p ∈ led, p ∈ news) : RatAt h v q := by
  obtain ⟨D, t, u, e, x⟩ := r
  exact ⟨D, t, u, e, x.now F N k⟩
theorem RowE.now {g h : Heap} {L : Addr} {m : Str → Option Value} {led news : Led} {v : Value} {qs : List Rat} (r : RowE g led v qs) (F : Fr g L h m) (N : News g L h news) (k : ∀ p ∈ led, p ∈ news) : RowAt h v qs := by
  obtain ⟨D, vs, e, l, a⟩ := r
  exact ⟨D, vs, e, l.now F N k, a.imp fun _ _ r => r.now F N k⟩
/-- a row opened: its list, its items by place -/
theorem RowE.item {g : Heap} {led : Led} {v : Value} {qs : List Rat} (r : RowE g led v qs) : ∃ D vs, v = .ref D ∧ vs.length = qs.length ∧ (Ever g led fun h => h.IsList D (List.toArray vs)) ∧
    ∀ (i : Nat) q, qs[i]? = some q → ∃ D' t u, vs[i]? = some (.ref D') ∧ Ever g led fun h => IsTup h D' [Value.int q.num t, Value.int q.den u].toArray := by
  obtain ⟨D, vs, e, l, a⟩ := r
  refine ⟨D, vs, e, a.1, l, fun i q hq => ?_⟩
  obtain ⟨v, hv, D', t, u, rfl, ht⟩ := a.get hq
  exact ⟨D', t, u, hv, ht⟩

/-- the walk may go on -/
noncomputable def Go9 : Prop := True

theorem Own.off {h h' : Heap} {own : Led} {g : Heap} {L : Addr} {news : Led} (O : Own h h' own) (N : News g L h news) : ∀ p ∈ own, ∀ q ∈ news, p.1 ≠ q.1 := fun p hp q hq e => by
  have a := (O p hp).2
  rw [e, (N q hq).1] at a
  cases a

section
variable {prog : Program} {w : World} {A : Around} {E : Value → Shared → Prop} {s : Shared} {h₀ : Heap} {L : Addr} {m : Str → Option Value} {news : Led}

theorem store9 {R : Addr} {rs : List Value} {n : Nat} {k : Int} {t : Tok} {v : Value} {Q : Unit → Shared → Prop} (keep : Led) (F : Fr h₀ L s.heap m) (N : News h₀ L s.heap news) (hm : (R, lstObj rs n) ∈ news) (h0 : 0 ≤ k) (hfit : k < 2 ^ 63) (hlt : k < rs.length)
    (sub : ∀ p ∈ keep, p ∈ news) (off : ∀ p ∈ keep, p.1 ≠ R)
    (h : ∀ h', Fr h₀ L h' m → News h₀ L h' ((R, lstObj (rs.set k.toNat v) n) :: keep) → Q () { s with heap := h' }) : wpAny (model prog w) A (setItem (.ref R) (.int k t) v) Q E s := by
  have z := N _ hm
  refine ki_setAt (n := n) z.1 h0 hfit (by simpa using hlt) (h _ (F.change (Heap.SameBut.update ..) z.2.1 z.2.2) ?_)
  have N' : News h₀ L s.heap ([] ++ (R, listOf rs.toArray n) :: keep) := fun p hp => by
    rcases List.mem_cons.mp hp with rfl | hp
    · exact z
    · exact N p (sub p hp)
  refine ki_turn (pre := []) _ N' (fun _ h => nomatch h) off ?_ ?_
  · show rs.toArray.setIfInBounds k.toNat v = (rs.set k.toNat v).toArray
    apply Array.toList_inj.mp
    simp
  · simp

theorem storeC9 {M : Model} {cn : Str} {cs : Scope} {a : Addr} {ccd : Value} {cl : List (Str × Addr)} {x : Str} {v : Value} {c : Addr} {o : Obj} {v₀ : Option Value} {Q : Unit → Shared → Prop} (keep : Led) (F : Fr h₀ L s.heap m) (N : News h₀ L s.heap news) (hc : cl.lookup x = some c) (hm : (c, o) ∈ news) (hd : o.data = .cell v₀)
    (sub : ∀ p ∈ keep, p ∈ news) (off : ∀ p ∈ keep, p.1 ≠ c)
    (h : ∀ h' o', Fr h₀ L h' m → News h₀ L h' ((c, o') :: keep) → o'.data = .cell (some v) → Q () { s with heap := h' })
    (hk : cs.kind = .function) (hx : (envX cn cs L a ccd cl).kindOf x = some .cell) : wpAny M A (storeName (envX cn cs L a ccd cl) x v) Q E s := by
  have hmem := N (c, o) hm
  refine wpAny_storeName_cell hk hx hc ⟨o, hmem.1, hd⟩ fun h' hv hs => ?_
  obtain ⟨o', ho', hd'⟩ := hv
  refine h h' o' (F.change hs hmem.2.1 hmem.2.2) (fun p hp => ?_) hd'
  rcases List.mem_cons.mp hp with rfl | hp
  · exact ⟨ho', hmem.2⟩
  · exact ⟨(hs.2 _ (off p hp)).trans (N p (sub p hp)).1, (N p (sub p hp)).2⟩

/-- the one end is the next statement; the one end is a return -/
noncomputable def NextQ (Mid : Shared → Prop) (f : Flow) (s' : Shared) : Prop := match f with | .next => Mid s' | _ => False
noncomputable def RetQ (End : Value → Shared → Prop) (f : Flow) (s' : Shared) : Prop := match f with | .ret v => End v s' | _ => False
/-- ways meet behind a statement -/
theorem mid9 {st : Stmt} {rest : List Stmt} {env : Env} {Q : Flow → Shared → Prop} (Mid : Shared → Prop) (h : wpAny (model prog w) A (exec st env) (NextQ Mid) (fun _ _ => False) s)
    (k : ∀ s', Mid s' → wpAny (model prog w) A (execs rest env) Q E s') : wpAny (model prog w) A (execs (st :: rest) env) Q E s := by
  rw [execs_cons]
  refine wpAny_bind (wpAny_mono h (fun f s' hf => ?_) fun _ _ e => e.elim)
  cases f with
  | next => exact k s' hf
  | brk => exact hf.elim
  | cont => exact hf.elim
  | ret v => exact hf.elim
/-- the ways that return meet -/
theorem end9 {α : Sem Flow} {Q : Flow → Shared → Prop} (End : Value → Shared → Prop) (h : wpAny (model prog w) A α (RetQ End) (fun _ _ => False) s) (r : ∀ v s', End v s' → Q (.ret v) s') : wpAny (model prog w) A α Q E s := by
  refine wpAny_mono h (fun f s' hf => ?_) fun _ _ e => e.elim
  cases f with
  | next => exact hf.elim
  | brk => exact hf.elim
  | cont => exact hf.elim
  | ret v => exact r v s' hf
end
/- short proofs that one ledger lies in another, or off an address -/
theorem sub_nil {l : Led} : ∀ p ∈ ([] : Led), p ∈ l := fun _ h => nomatch h
theorem sub_cons {x : Addr × Obj} {a l : Led} (h : x ∈ l) (r : ∀ p ∈ a, p ∈ l) : ∀ p ∈ x :: a, p ∈ l := List.forall_mem_cons.mpr ⟨h, r⟩
theorem sub_app {a b l : Led} (h : ∀ p ∈ a, p ∈ l) (k : ∀ p ∈ b, p ∈ l) : ∀ p ∈ a ++ b, p ∈ l := fun p hp => (List.mem_append.mp hp).elim (h p) (k p)
theorem sub_self {a : Led} : ∀ p ∈ a, p ∈ a := fun _ h => h
theorem sub_tail {x : Addr × Obj} {a l : Led} (h : ∀ p ∈ a, p ∈ l) : ∀ p ∈ a, p ∈ x :: l := fun p hp => .tail _ (h p hp)
theorem sub_left {a l m : Led} (h : ∀ p ∈ a, p ∈ l) : ∀ p ∈ a, p ∈ l ++ m := fun p hp => List.mem_append_left _ (h p hp)
theorem sub_right {a l m : Led} (h : ∀ p ∈ a, p ∈ m) : ∀ p ∈ a, p ∈ l ++ m := fun p hp => List.mem_append_right _ (h p hp)
theorem off_nil {R : Addr} : ∀ p ∈ ([] : Led), p.1 ≠ R := fun _ h => nomatch h
theorem off_cons {R : Addr} {x : Addr × Obj} {a : Led} (h : x.1 ≠ R) (r : ∀ p ∈ a, p.1 ≠ R) : ∀ p ∈ x :: a, p.1 ≠ R := List.forall_mem_cons.mpr ⟨h, r⟩
theorem off_app {R : Addr} {a b : Led} (h : ∀ p ∈ a, p.1 ≠ R) (k : ∀ p ∈ b, p.1 ≠ R) : ∀ p ∈ a ++ b, p.1 ≠ R := fun p hp => (List.mem_append.mp hp).elim (h p) (k p)
theorem out_cons {R : List Addr} {x : Addr × Obj} {a : Led} (h : x.1 ∉ R) (r : ∀ p ∈ a, p.1 ∉ R) : ∀ p ∈ x :: a, p.1 ∉ R := List.forall_mem_cons.mpr ⟨h, r⟩
theorem out_app {R : List Addr} {a b : Led} (h : ∀ p ∈ a, p.1 ∉ R) (k : ∀ p ∈ b, p.1 ∉ R) : ∀ p ∈ a ++ b, p.1 ∉ R := fun p hp => (List.mem_append.mp hp).elim (h p) (k p)
theorem off_head {R : Addr} {x : Addr × Obj} {a : Led} (h : ∀ p ∈ x :: a, p.1 ≠ R) : x.1 ≠ R := h x (.head _)
theorem off_rest {R : Addr} {x : Addr × Obj} {a : Led} (h : ∀ p ∈ x :: a, p.1 ≠ R) : ∀ p ∈ a, p.1 ≠ R := fun p hp => h p (.tail _ hp)
theorem off_sub {R : Addr} {a l : Led} (h : ∀ p ∈ l, p.1 ≠ R) (k : ∀ p ∈ a, p ∈ l) : ∀ p ∈ a, p.1 ≠ R := fun p hp => h p (k p hp)
theorem nsub {h₀ h : Heap} {L : Addr} {news a : Led} (N : News h₀ L h news) (k : ∀ p ∈ a, p ∈ news) : News h₀ L h a := fun p hp => N p (k p hp)
theorem nat9 {h₀ h : Heap} {L : Addr} {news a : Led} (N : News h₀ L h news) (k : ∀ p ∈ a, p ∈ news) : ∀ p ∈ a, h.get? p.1 = some p.2 := fun p hp => (N p (k p hp)).1
end

/- B9 -/
section
/- Grids of ints and of fractions -/

noncomputable abbrev IntIs (v : Value) (i : Int) : Prop := ∃ t, v = .int i t
/-- a row, a grid of ints in a heap -/
noncomputable def ZRowAt (h : Heap) (v : Value) (is : List Int) : Prop := ∃ D vs, v = .ref D ∧ h.IsList D (List.toArray vs) ∧ All2 IntIs vs is
noncomputable def ZGridAt (h : Heap) (v : Value) (A : List (List Int)) : Prop := ∃ D vs, v = .ref D ∧ h.IsList D (List.toArray vs) ∧ All2 (ZRowAt h) vs A
noncomputable def ZRowIn (own : Led) (v : Value) (is : List Int) : Prop := ∃ D vs c, v = .ref D ∧ (D, lstObj vs c) ∈ own ∧ All2 IntIs vs is
noncomputable def ZGridIn (own : Led) (v : Value) (A : List (List Int)) : Prop := ∃ D vs c, v = .ref D ∧ (D, lstObj vs c) ∈ own ∧ All2 (ZRowIn own) vs A
theorem ZRowAt.mono {h h' : Heap} {v : Value} {is : List Int} (r : ZRowAt h v is) (k : HLe h h') : ZRowAt h' v is := by
  obtain ⟨D, vs, e, l, a⟩ := r
  exact ⟨D, vs, e, l.at fun o q => k _ _ q, a⟩
theorem ZGridAt.mono {h h' : Heap} {v : Value} {A : List (List Int)} (r : ZGridAt h v A) (k : HLe h h') : ZGridAt h' v A := by
  obtain ⟨D, vs, e, l, a⟩ := r
  exact ⟨D, vs, e, l.at fun o q => k _ _ q, a.imp fun _ _ r => r.mono k⟩
theorem ZRowIn.at {own : Led} {v : Value} {is : List Int} {h : Heap} (r : ZRowIn own v is) (k : ∀ p ∈ own, h.get? p.1 = some p.2) : ZRowAt h v is := by
  obtain ⟨D, vs, c, e, hm, a⟩ := r
  exact ⟨D, vs, e, ⟨_, k _ hm, rfl, c, rfl⟩, a⟩
theorem ZGridIn.at {own : Led} {v : Value} {A : List (List Int)} {h : Heap} (r : ZGridIn own v A) (k : ∀ p ∈ own, h.get? p.1 = some p.2) : ZGridAt h v A := by
  obtain ⟨D, vs, c, e, hm, a⟩ := r
  exact ⟨D, vs, e, ⟨_, k _ hm, rfl, c, rfl⟩, a.imp fun _ _ r => r.at k⟩
theorem ZRowIn.mono {own own' : Led} {v : Value} {is : List Int} (r : ZRowIn own v is) (k : ∀ p ∈ own, p ∈ own') : ZRowIn own' v is := by
  obtain ⟨D, vs, c, e, hm, a⟩ := r
  exact ⟨D, vs, c, e, k _ hm, a⟩
theorem ZGridIn.mono {own own' : Led} {v : Value} {A : List (List Int)} (r : ZGridIn own v A) (k : ∀ p ∈ own, p ∈ own') : ZGridIn own' v A := by
  obtain ⟨D, vs, c, e, hm, a⟩ := r
  exact ⟨D, vs, c, e, k _ hm, a.imp fun _ _ r => r.mono k⟩

/-- a grid whose rows and cells are all in own -/
noncomputable def GridIn (own : Led) (v : Value) (M : Mat) : Prop := ∃ D vs c, v = .ref D ∧ (D, lstObj vs c) ∈ own ∧ All2 (RowIn own) vs M
theorem GridIn.at {own : Led} {v : Value} {M : Mat} {h : Heap} (r : GridIn own v M) (k : ∀ p ∈ own, h.get? p.1 = some p.2) : GridAt h v M := by
  obtain ⟨D, vs, c, e, hm, a⟩ := r
  exact ⟨D, vs, e, ⟨_, k _ hm, rfl, c, rfl⟩, a.imp fun _ _ r => r.at k⟩

theorem acc_list {α : Type} {T : Led → Value → α → Prop} (hT : ∀ own own' v x, T own v x → (∀ p ∈ own, p ∈ own') → T own' v x) {R : Nat → Led → Value → Prop} {n : Nat} {ys : List Value} {own : Led} {xs : List α} (h : Acc R (fun _ => true) n ys own) (hn : xs.length = n)
    (k : ∀ (i : Nat) o y x, xs[i]? = some x → R i o y → T o y x) : All2 (T own) ys xs := by
  obtain ⟨h1, h2⟩ := acc_all h
  refine ⟨by rw [h1, hn], fun i y x e f => ?_⟩
  obtain ⟨o, r, s⟩ := h2 i y e
  exact hT o own y x (k i o y x f r) s
theorem acc_grid {R : Nat → Led → Value → Prop} {n : Nat} {ys : List Value} {own : Led} {M : Mat} {D : Addr} {c : Nat} (h : Acc R (fun _ => true) n ys own) (hn : M.length = n) (k : ∀ (i : Nat) o y q, M[i]? = some q → R i o y → RowIn o y q) :
    GridIn ((D, lstObj ys c) :: own) (.ref D) M :=
  ⟨D, ys, c, rfl, List.mem_cons_self, (acc_list (T := RowIn) (fun _ _ _ _ r s => r.mono s) h hn k).imp fun _ _ r => r.mono fun _ hp => .tail _ hp⟩
theorem acc_zrow {R : Nat → Led → Value → Prop} {n : Nat} {ys : List Value} {own : Led} {is : List Int} {D : Addr} {c : Nat} (h : Acc R (fun _ => true) n ys own) (hn : is.length = n) (k : ∀ (i : Nat) o y q, is[i]? = some q → R i o y → IntIs y q) :
    ZRowIn ((D, lstObj ys c) :: own) (.ref D) is :=
  ⟨D, ys, c, rfl, List.mem_cons_self, acc_list (T := fun _ => IntIs) (fun _ _ _ _ r _ => r) h hn k⟩
theorem acc_zgrid {R : Nat → Led → Value → Prop} {n : Nat} {ys : List Value} {own : Led} {A : List (List Int)} {D : Addr} {c : Nat} (h : Acc R (fun _ => true) n ys own) (hn : A.length = n) (k : ∀ (i : Nat) o y q, A[i]? = some q → R i o y → ZRowIn o y q) :
    ZGridIn ((D, lstObj ys c) :: own) (.ref D) A :=
  ⟨D, ys, c, rfl, List.mem_cons_self, (acc_list (T := ZRowIn) (fun _ _ _ _ r s => r.mono s) h hn k).imp fun _ _ r => r.mono fun _ hp => .tail _ hp⟩

noncomputable def ratRow (is : List Int) : List Rat := is.map fun (a : Int) => (a : Rat)
noncomputable def ratGrid (A : List (List Int)) : Mat := A.map ratRow
theorem rat_int {a : Int} {own : Led} {r : Value} (h : RPair a 1 own r) : RRat (a : Rat) own r := by
  unfold RRat
  rw [Rat.num_intCast, Rat.den_intCast]
  exact h
theorem ratRow_get {is : List Int} {j : Nat} {q : Rat} (h : (ratRow is)[j]? = some q) : ∃ x, is[j]? = some x ∧ q = (x : Rat) := by
  unfold ratRow at h
  rw [List.getElem?_map] at h
  cases e : is[j]? with
  | none => rw [e] at h; cases h
  | some x => rw [e] at h; exact ⟨x, rfl, (Option.some.inj h).symm⟩
theorem ratGrid_get {A : List (List Int)} {i : Nat} {q : List Rat} (h : (ratGrid A)[i]? = some q) : ∃ r, A[i]? = some r ∧ q = ratRow r := by
  unfold ratGrid at h
  rw [List.getElem?_map] at h
  cases e : A[i]? with
  | none => rw [e] at h; cases h
  | some x => rw [e] at h; exact ⟨x, rfl, (Option.some.inj h).symm⟩
/-- n rows of n ints -/
structure ZSq (A : List (List Int)) (n : Nat) : Prop where
  len : A.length = n
  row : ∀ r ∈ A, r.length = n
end

local macro_rules | `(tactic| walk_at "my item") => `(tactic| k_dflt (refine item9 (by is_list) (by omega) (by omega) (by assumption) ?_ (by with_unfolding_all rfl)))
local macro_rules | `(tactic| walk_at "my mem") => `(tactic| first
  | assumption
  | exact List.Mem.head _
  | (refine List.Mem.tail _ ?_; walk_at "my mem")
  | (refine List.mem_append_left _ ?_; walk_at "my mem")
  | (refine List.mem_append_right _ ?_; walk_at "my mem"))
local macro_rules | `(tactic| walk_at "my own") => `(tactic| first
  | exact sub_self
  | (refine sub_tail ?_; walk_at "my own")
  | (refine sub_left ?_; walk_at "my own")
  | (refine sub_right ?_; walk_at "my own"))
local macro_rules | `(tactic| walk_at "my sub") => `(tactic| first
  | exact sub_nil
  | (refine sub_cons ?_ ?_ <;> (first | walk_at "my mem" | walk_at "my sub"))
  | (refine sub_app ?_ ?_ <;> walk_at "my sub")
  | walk_at "my own")
local macro_rules | `(tactic| walk_at "eval ListComp") => `(tactic| (k_here; k_dflt (refine comp9 (by with_unfolding_all rfl) (by decide) (by rfl) (by decide) ?_ fun _ => rfl)))
local macro_rules | `(tactic| walk_at "exec Assign cons ListComp") => `(tactic| (k_here; k_dflt (refine comp9A (by k_asm) (by rfl) (by with_unfolding_all rfl) (by with_unfolding_all rfl) (by decide) (by rfl) (by decide) (by rfl) (by rfl) ?_ fun _ => rfl)))
local macro_rules | `(tactic| walk_at "call type:zip") => `(tactic| (k_here; k_dflt (refine made_zip rfl (by is_list) (by is_list) ?_); intros; (try dsimp only)))
local macro_rules | `(tactic| walk_at "call type:enumerate") => `(tactic| (k_here; k_dflt (refine made_enum rfl (by is_list) ?_); intros; (try dsimp only)))
local macro_rules | `(tactic| walk_at "pyIter ref") => `(tactic| (k_here; (with_reducible refine at_comp ?_); k_dflt (refine ready_list rfl (by is_list) ?_); intros))
local macro_rules | `(tactic| walk_at "pyIter ref") => `(tactic| (k_here; (with_reducible refine at_comp ?_); k_dflt (refine made_it (by assumption) rfl ?_)))
local macro_rules | `(tactic| walk_at "exec For Name Call cons nil") => `(tactic| (k_here; (rename Fr _ _ _ _ => lF'); (with_unfolding_all refine' For_invVF lF' (by rfl) (by rfl) ?_); k_whole))
local macro_rules | `(tactic| walk_at "call type:range") => `(tactic| (k_here; (first | k_dflt (refine mk_range1 (by k_asm) (by k_asm) ?_) | k_dflt (refine mk_range2 (by k_asm) (by k_asm) ?_)); walk_at "my behind"))
local macro_rules | `(tactic| walk_at "pyIter ref") => `(tactic| (k_here; with_reducible refine stop_loop ?_))
local macro_rules | `(tactic| walk_at "subscriptTail") => `(tactic| (k_here; (with_reducible refine at_item ?_); walk_at "my item"))
local macro_rules | `(tactic| walk_at "call builtin:len") => `(tactic| (k_here; k_dflt (refine kun_lenL (by is_list) (by assumption) (by omega) ?_)))
local macro_rules | `(tactic| walk_at "eval Name") => `(tactic| (k_here; k_dflt (refine ld9 (by k_asm) (by assumption) ?_ (by rfl) (by rfl) (by decide))))
local macro_rules | `(tactic| walk_at "exec Assign cons Subscript") => `(tactic| (k_here; (with_reducible refine at_assign ?_); k_dflt (refine wpAny_Assign_Name ?_)))
local macro_rules | `(tactic| walk_at "exec Assign cons Call") => `(tactic| (k_here; (with_reducible refine at_assign ?_); k_dflt (refine wpAny_Assign_Name ?_)))
local macro_rules | `(tactic| walk_at "exec Assign cons BinOp") => `(tactic| (k_here; (with_reducible refine at_assign ?_); k_dflt (refine wpAny_Assign_Name ?_)))
local macro_rules | `(tactic| walk_at "exec Assign cons Name") => `(tactic| (k_here; (with_reducible refine at_assign ?_); k_dflt (refine wpAny_Assign_Name ?_)))
local macro_rules | `(tactic| walk_at "exec Assign cons Tuple") => `(tactic| (k_here; (with_reducible refine at_assign ?_); k_dflt (refine wpAny_Assign_Name ?_)))
local macro_rules | `(tactic| walk_at "exec Assign cons IfExp") => `(tactic| (k_here; (with_reducible refine at_assign ?_); k_dflt (refine wpAny_Assign_Name ?_)))
local macro_rules | `(tactic| walk_at "exec Assign cons ListComp") => `(tactic| (k_here; (with_reducible refine at_assignS ?_); with_reducible refine wpAny_Assign_Subscript ?_ (by with_unfolding_all rfl)))
local macro_rules | `(tactic| walk_at "exec Assign cons Call") => `(tactic| (k_here; (with_reducible refine at_assignS ?_); with_reducible refine wpAny_Assign_Subscript ?_ (by with_unfolding_all rfl)))
local macro_rules | `(tactic| walk_at "subscriptTail Name Name ref int") => `(tactic| (k_here; (with_reducible refine at_item ?_); walk_at "my item"))
local macro_rules | `(tactic| walk_at "subscriptTail Subscript Name Name Name ref int") => `(tactic| (k_here; (with_reducible refine at_item ?_); walk_at "my item"))
local macro_rules | `(tactic| walk_at "subscriptTail Name Constant ref int") => `(tactic| (k_here; (with_reducible refine at_item ?_); walk_at "my item"))
local macro_rules | `(tactic| walk_at "eval Call") => `(tactic| (
  k_here
  k_dflt (refine Call_ ?_)))

/- D7 -/
section
theorem fill_D7 : ∀ c f k vs P R, Tell c f k vs P R → True := by
  w_top off
  unfold Tell
  k_fill
  intros
  trivial

local macro_rules | `(tactic| walk_at "call ref") => `(tactic| (k_here; k_dflt (refine' call_rats (by is_tup) (by is_tup) (t_fraction_times _ _ _ _ _ (by assumption) (by assumption)) ?_); walk_at "my behind"))
local macro_rules | `(tactic| walk_at "call ref") => `(tactic| (k_here; k_dflt (refine' call_rats (by is_tup) (by is_tup) (t_fraction_less _ _ _ _ _ (by assumption) (by assumption)) ?_); walk_at "my behind"))
theorem t_cleared (c : Cx) (vr vb vf : Value) (rs bs : List Rat) (f : Rat) (hr : ∀ q ∈ rs, Fit 1300 q) (hb : ∀ q ∈ bs, Fit 1300 q) (hf : Fit 1300 f) (hl : bs.length = rs.length) (hs : rs.length ≤ 8) :
    Tell c 143 5 [vr, vb, vf] (fun h => RowAt h vr rs ∧ RowAt h vb bs ∧ RatAt h vf f) (fun own r => RowIn own r (List.zipWith (fun r b => r - f * b) rs bs)) := by
  refine tell_at ?_
  rintro g₀ ⟨⟨D1, xs, rfl, l1, a1⟩, ⟨D2, ys, rfl, l2, a2⟩, ⟨D3, t1, t2, rfl, h3⟩⟩
  refine' tell_cells (binds := [(Str.ofString "row", .ref D1), (Str.ofString "by", .ref D2), (Str.ofString "factor", .ref D3)]) (mm := fun y => if y = Str.ofString "by" then some (.ref D2) else if y = Str.ofString "row" then some (.ref D1) else none)
    (CC := fun L' cells => ∃ o, cells = [(L' + 1, o)] ∧ o.data = .cell (some (.ref D3))) ?ho ?hcd ?hbind ?hkind ?hnd ?hco ?hgen ?hk ?hmm ?hCC ?_
  (case ho => k_is)
  (case hcd => k_is)
  (case hbind => (intro _; exact BindsTo.of_eq rfl))
  (case hkind => exact rfl)
  (case hnd => decide +kernel)
  (case hco => exact rfl)
  (case hgen => exact rfl)
  (case hk => exact rfl)
  (case hmm => (intro _; exact rfl))
  case hCC => exact fun _ _ Y => CellsAre.one Y
  rintro dp un gd cn cs a' ccd cl outer base g L L' h₁ s tk cells hd hu hke B' F' X' N' ⟨oF, rfl, dF⟩ T' rfl
  k_with_none
  (try dsimp only)
  k_steps
  rename Made2 _ _ _ _ _ _ _ _ => M9
  rename HLe _ _ => k9
  have e1 := a1.1
  have e2 := a2.1
  refine compAt_pure (fun _ => true) (fun i o y => ∀ r b, rs[i]? = some r → bs[i]? = some b → RRat (r - f * b) o y) trivial (M9.1 _ _ _) k9 ?hsz (binds_pair rfl rfl rfl rfl (by decide)) ?tst ?elt ?fin
  case hsz => simp only [List.size_toArray]; exact Nat.le_trans (Nat.min_le_left _ _) (Nat.le_trans (by omega) (by decide : 8 ≤ sizeLine))
  case tst =>
    intro i h tk C m E' _ _ _ _ _
    exact wpAny_tests_nil ⟨rfl, h, tk, rfl, HLe.refl _⟩
  case elt =>
    rintro i h tk C m E' hi - ⟨x, y, ⟨hx, hy⟩, mx, my⟩ hn hC hk
    obtain ⟨oC, nC, F3, N3⟩ := elt_ground F' N' k9 hk hn hC
    simp only [List.getElem?_toArray] at hx hy
    have ir : i < rs.length := by simp only [List.size_toArray] at hi; omega
    have ib : i < bs.length := by omega
    obtain ⟨Dx, s1, s2, rfl, hx'⟩ := a1.2 i _ _ hx (List.getElem?_eq_getElem ir)
    obtain ⟨Dy, s3, s4, rfl, hy'⟩ := a2.2 i _ _ hy (List.getElem?_eq_getElem ib)
    have q1 := hr _ (List.getElem_mem ir)
    have q2 := hb _ (List.getElem_mem ib)
    have f1 := hf.mono (k := 4000) (by decide)
    have f2 := q1.mono (k := 4000) (by decide)
    have f3 := q2.mono (k := 4000) (by decide)
    have f4 := (hf.mul q2).mono (k := 4000) (by decide)
    clear k9 M9 hk F' N'
    k_steps
    refine Out.two (by assumption) (by assumption) (by assumption) ?_
    intro r b er eb
    rw [List.getElem?_eq_getElem ir] at er
    rw [List.getElem?_eq_getElem ib] at eb
    cases er
    cases eb
    exact ⟨_, _, _, _, rfl, rfl⟩
  case fin =>
    intro D h tk zs own hb hA hO
    refine Out.one (HLe.trans F'.keep hb.le) (Own.old F'.keep hO) (acc_row hA ?_ ?_)
    · simp only [List.length_zipWith, List.size_toArray, e1, e2]
    · intro i o y q e r
      obtain ⟨a, b, ea, eb, rfl⟩ := zipWith_get e
      exact r a b ea eb
end

/- D8 -/
section
theorem fill_D8 : ∀ c f k vs P R, Tell c f k vs P R → True := by
  w_top off
  unfold Tell
  k_fill
  intros
  trivial

/-- what pivot_row tells: a row from at on with no nought in the column, or none has -/
noncomputable def RPivot (M : List (List Rat)) (j : Nat) (own : Led) (r : Value) : Prop :=
  own = [] ∧ ((∃ (k : Nat) (t : Tok), r = .int k t ∧ j ≤ k ∧ ∃ row q, M[k]? = some row ∧ row[j]? = some q ∧ q ≠ 0) ∨ (r = .none ∧ ∀ (k : Nat) row q, j ≤ k → M[k]? = some row → row[j]? = some q → q = 0))
noncomputable def NoneYet (M : List (List Rat)) (j i : Nat) : Prop := ∀ (k : Nat) row q, j ≤ k → k < j + i → M[k]? = some row → row[j]? = some q → q = 0
theorem NoneYet.step {M : List (List Rat)} {j i : Nat} (h : NoneYet M j i) (hk : j + i < M.length) (hj : j < M[j + i].length) (e : M[j + i][j].num = 0) : NoneYet M j (i + 1) := by
  intro k row q a b hr hq
  by_cases z : k = j + i
  · subst z
    rw [List.getElem?_eq_getElem hk] at hr
    cases hr
    rw [List.getElem?_eq_getElem hj] at hq
    cases hq
    exact Rat.num_eq_zero.mp e
  · exact h k row q a (by omega) hr hq
theorem t_pivot (c : Cx) (vr : Value) (M : List (List Rat)) (j : Nat) (t : Tok) (hj : j ≤ M.length) (hn : M.length ≤ 8) (hM : ∀ row ∈ M, j < row.length) :
    Tell c 138 2 [vr, .int j t] (fun h => GridAt h vr M) (RPivot M j) := by
  refine tell_at ?_
  rintro g₀ ⟨D1, vs, rfl, l1, a1⟩
  refine' tell_plain (binds := [(Str.ofString "rows", .ref D1), (Str.ofString "at", .int j t)]) ?ho ?hcd ?hbind ?hloc ?hco ?hgen ?hk ?hcell ?_
  (case ho => k_is)
  (case hcd => k_is)
  (case hbind => (intro _; exact BindsTo.of_eq rfl))
  (case hloc => exact locs rfl)
  (case hco => exact rfl)
  (case hgen => exact rfl)
  (case hk => exact rfl)
  (case hcell => decide)
  rintro dp un gd cn cs a' ccd cl outer base g L L' h₁ s tk hd hu hke B' F' X' N' T' rfl
  k_with_none
  have e1 := a1.1
  (try dsimp only)
  have lenF : (vs.toArray.size : Int) = (M.length : Int) := by rw [List.size_toArray, e1]
  k_steps
  rename IsRange _ _ _ _ _ _ _ _ => rg
  refine Stop9.mk ?_
  refine range9 (n := M.length - j) (fun i m news => news = [] ∧ m (Str.ofString "rows") = some (.ref D1) ∧ m (Str.ofString "at") = some (.int j t) ∧ NoneYet M j i)
    rfl rg (small_one (by omega) (by omega) (by omega) (by omega)) (rangeSize_up (by omega)) (by assumption) (by assumption) ⟨rfl, rfl, rfl, fun k row q a b => by omega⟩ ?turn ?done
  case turn =>
    rintro I i t' m news h tk' hi ⟨rfl, m1, m2, hz⟩ - F9 N9
    have hk : j + i < M.length := by omega
    obtain ⟨v, hv, hr⟩ := a1.get (List.getElem?_eq_getElem hk)
    obtain ⟨Dr, ws, rfl, lr, hq⟩ := hr.item
    have hjr := hM _ (List.getElem_mem hk)
    obtain ⟨Dq, t1, t2, hx, ht⟩ := hq j _ (List.getElem?_eq_getElem hjr)
    have f1 : vs[((j : Int) + (i : Int)).toNat]? = some (.ref Dr) := by rw [show ((j : Int) + (i : Int)).toNat = j + i by omega]; exact hv
    have f2 : ws[((j : Int)).toNat]? = some (.ref Dq) := by rw [show ((j : Int)).toNat = j by omega]; exact hx
    k_steps
    · exact Out.intro [] (by assumption) (by assumption) (fun _ h => nomatch h) ⟨rfl, .inl ⟨j + i, t', by rw [Int.natCast_add], by omega, _, _, List.getElem?_eq_getElem hk, List.getElem?_eq_getElem hjr, fun e => (by assumption : ¬ _) (Rat.num_eq_zero.mpr e)⟩⟩
    · exact hz.step hk hjr (by assumption)
  case done =>
    rintro m news h tk' ⟨rfl, m1, m2, hz⟩ F9 N9
    k_steps
    exact Out.intro [] F9 N9 (fun _ h => nomatch h) ⟨rfl, .inr ⟨rfl, fun k row q a b c => hz k row q a (by have := (List.getElem?_eq_some_iff.mp b).1; omega) b c⟩⟩
end

/- D9 -/
section
theorem fill_D9 : ∀ c f k vs P R, Tell c f k vs P R → True := by
  w_top off
  unfold Tell
  k_fill
  intros
  trivial

local macro_rules | `(tactic| walk_at "call ref") => `(tactic| (k_here; with_reducible refine stop_call ?_))
local macro_rules | `(tactic| walk_at "setItem ref int") => `(tactic| (k_here; with_reducible refine stop_set ?_))

local macro_rules | `(tactic| walk_at "execs cons") => `(tactic| (k_here; with_reducible refine stop_if .NotEq ?_))

local macro_rules | `(tactic| walk_at "exec Assign cons ListComp") => `(tactic| (k_here; (fail_if_success (rename Go9 => g9)); (refine Stop9.of ?_)))
local macro_rules | `(tactic| walk_at "storeName") => `(tactic| (k_here; with_reducible refine stop_name (Str.ofString "pivot") ?_))

/-- what solved_rows tells -/
noncomputable def RSolved (M0 : Mat) (n : Nat) (own : Led) (r : Value) : Prop :=
  ∃ D c v1 v2 t, r = .ref D ∧ (D, tupObj [v1, v2] c) ∈ own ∧ RatIn own v2 t ∧
    ((∃ M, Reach M0 n n M t ∧ GridIn own v1 M) ∨ (∃ i M t', i < n ∧ Reach M0 n i M t' ∧ (∀ k, i ≤ k → k < n → at2 M k i = 0) ∧ t = 0))

structure Sv (g : Heap) (R P : Addr) (n i : Nat) (M : Mat) (t : Rat) (m : Str → Option Value) (rs : List Value) (cR : Nat) (T : Addr) (a b : Tok) (cT : Nat) (oP : Obj) (vP : Option Value) (led : Led) (tn : Tok) : Prop where
  cell : oP.data = .cell vP
  offR : ∀ p ∈ (P, oP) :: (T, tup2 t.num a t.den b cT) :: led, p.1 ≠ R
  offP : ∀ p ∈ (R, lstObj rs cR) :: (T, tup2 t.num a t.den b cT) :: led, p.1 ≠ P
  len : rs.length = n
  row : ∀ (k : Nat) v, rs[k]? = some v → RowE g led v (rowAt M k) ∧ (k < i → RowIn led v (rowAt M k))
  mr : m (Str.ofString "rows") = some (.ref R)
  mt : m (Str.ofString "told") = some (.ref T)
  ms : m (Str.ofString "size") = some (.int n tn)
noncomputable abbrev ledOf (R P : Addr) (t : Rat) (rs : List Value) (cR : Nat) (T : Addr) (a b : Tok) (cT : Nat) (oP : Obj) (led : Led) : Led := (R, lstObj rs cR) :: (P, oP) :: (T, tup2 t.num a t.den b cT) :: led
/-- the state at a matrix and a told fraction; between the turns -/
noncomputable def SvM (g : Heap) (R P : Addr) (n i : Nat) (M : Mat) (t : Rat) (m : Str → Option Value) (news : Led) : Prop :=
  ∃ rs cR T a b cT oP vP led tn, news = ledOf R P t rs cR T a b cT oP led ∧ Sv g R P n i M t m rs cR T a b cT oP vP led tn
noncomputable def SvJ (g : Heap) (R P : Addr) (M0 : Mat) (n i : Nat) (m : Str → Option Value) (news : Led) : Prop :=
  ∃ M t, SvM g R P n i M t m news ∧ Reach M0 n i M t
/-- ways meet here -/
noncomputable def MidS (g : Heap) (L R P I : Addr) (it : Obj) (n i : Nat) (M : Mat) (t : Rat) (ti : Tok) (s s' : Shared) : Prop :=
  ∃ h' tk' m' news', s' = { s with heap := h', toks := tk' } ∧ Fr g L h' m' ∧ News g L h' ((I, it) :: news') ∧ (∀ p ∈ news', p.1 ≠ I) ∧ SvM g R P n i M t m' news' ∧ m' (Str.ofString "at") = some (.int i ti)
theorem Sv.grid {g h : Heap} {L R P : Addr} {n i : Nat} {M : Mat} {t : Rat} {m m' : Str → Option Value} {rs : List Value} {cR : Nat} {T : Addr} {a b : Tok} {cT : Nat} {oP : Obj} {vP : Option Value} {led news : Led} {tn : Tok}
    (S : Sv g R P n i M t m rs cR T a b cT oP vP led tn) (hM : M.length = n) (F : Fr g L h m') (N : News g L h news) (hR : (R, lstObj rs cR) ∈ news) (k : ∀ p ∈ led, p ∈ news) : GridAt h (.ref R) M := by
  refine ⟨R, rs, rfl, ⟨_, (N _ hR).1, rfl, _, rfl⟩, by rw [S.len, hM], fun j v q e f => ?_⟩
  have hj : j < M.length := (List.getElem?_eq_some_iff.mp f).1
  have : q = rowAt M j := Option.some.inj (f.symm.trans (rowAt_get hj))
  rw [this]
  exact (S.row j v e).1.now F N k

section
variable {g : Heap} {R P : Addr} {n i : Nat} {M : Mat} {t : Rat} {m m' : Str → Option Value} {rs : List Value} {cR : Nat} {T : Addr} {a b : Tok} {cT : Nat} {oP : Obj} {vP : Option Value} {led : Led} {tn : Tok}
theorem Sv.remap (S : Sv g R P n i M t m rs cR T a b cT oP vP led tn) (h1 : m' (Str.ofString "rows") = some (.ref R)) (h2 : m' (Str.ofString "told") = some (.ref T)) (h3 : m' (Str.ofString "size") = some (.int n tn)) : Sv g R P n i M t m' rs cR T a b cT oP vP led tn :=
  ⟨S.cell, S.offR, S.offP, S.len, S.row, h1, h2, h3⟩
theorem Sv.swap {w k : Nat} {vk vi : Value} {T' : Addr} {a' b' : Tok} {cT' : Nat} {t' : Rat} (S : Sv g R P n i M t m rs cR T a b cT oP vP led tn) (SM : Shape M n w) (hi : i < n) (hk : i ≤ k) (hkn : k < n) (evk : rs[k]? = some vk) (evi : rs[i]? = some vi)
    (oR : T' ≠ R) (oP' : T' ≠ P) (h1 : m' (Str.ofString "rows") = some (.ref R)) (h2 : m' (Str.ofString "told") = some (.ref T')) (h3 : m' (Str.ofString "size") = some (.int n tn)) :
    Sv g R P n i (swapR M i k) t' m' ((rs.set i vk).set k vi) cR T' a' b' cT' oP vP led tn := by
  refine ⟨S.cell, ?_, ?_, by simp [S.len], ?_, h1, h2, h3⟩
  · intro p hp
    rcases List.mem_cons.mp hp with rfl | hp
    · exact S.offR _ (.head _)
    rcases List.mem_cons.mp hp with rfl | hp
    · exact oR
    exact S.offR _ (.tail _ (.tail _ hp))
  · intro p hp
    rcases List.mem_cons.mp hp with rfl | hp
    · exact S.offP (R, lstObj rs cR) (.head _)
    rcases List.mem_cons.mp hp with rfl | hp
    · exact oP'
    exact S.offP _ (.tail _ (.tail _ hp))
  · intro j v hj
    rw [swap_row SM hi hkn]
    rw [List.getElem?_set] at hj
    by_cases q : k = j
    · subst q
      rw [if_pos rfl] at hj ⊢
      split at hj
      · cases hj
        exact ⟨(S.row i vi evi).1, fun h => absurd h (by omega)⟩
      · cases hj
    · rw [if_neg q] at hj
      rw [if_neg (Ne.symm q)]
      rw [List.getElem?_set] at hj
      by_cases q' : i = j
      · subst q'
        rw [if_pos rfl] at hj ⊢
        split at hj
        · cases hj
          exact ⟨(S.row k vk evk).1, fun h => absurd h (by omega)⟩
        · cases hj
      · rw [if_neg q'] at hj
        rw [if_neg (Ne.symm q')]
        exact S.row j v hj
theorem Sv.scale {w : Nat} {D T2 : Addr} {own : Led} {ys : List Value} {p t2 : Rat} {a2 b2 : Tok} {c2 : Nat} {oP2 : Obj} {vP2 : Option Value} (S : Sv g R P n i M t m rs cR T a b cT oP vP led tn) (SM : Shape M n w) (hi : i < n)
    (hrow : RowIn ((D, lst9 ys) :: own) (.ref D) ((rowAt M i).map (· / p))) (hc : oP2.data = .cell vP2) (oR : ∀ q ∈ (P, oP2) :: (T2, tup2 t2.num a2 t2.den b2 c2) :: ((D, lst9 ys) :: own ++ led), q.1 ≠ R) (oP' : ∀ q ∈ (R, lstObj (rs.set i (.ref D)) cR) :: (T2, tup2 t2.num a2 t2.den b2 c2) :: ((D, lst9 ys) :: own ++ led), q.1 ≠ P)
    (h1 : m' (Str.ofString "rows") = some (.ref R)) (h2 : m' (Str.ofString "told") = some (.ref T2)) (h3 : m' (Str.ofString "size") = some (.int n tn)) :
    Sv g R P n (i + 1) (scaleR M i p) t2 m' (rs.set i (.ref D)) cR T2 a2 b2 c2 oP2 vP2 ((D, lst9 ys) :: own ++ led) tn := by
  have r' : RowIn ((D, lst9 ys) :: own ++ led) (.ref D) ((rowAt M i).map (· / p)) := hrow.mono fun q hq => List.mem_append_left _ hq
  refine ⟨hc, oR, oP', by simp [S.len], ?_, h1, h2, h3⟩
  intro j v hj
  unfold scaleR
  rw [rowAt_set (by rw [SM.len]; exact hi)]
  rw [List.getElem?_set] at hj
  by_cases q : i = j
  · subst q
    rw [if_pos rfl] at hj ⊢
    split at hj
    · cases hj
      exact ⟨r'.everIn, fun _ => r'⟩
    · cases hj
  · rw [if_neg q] at hj
    rw [if_neg (Ne.symm q)]
    have := S.row j v hj
    exact ⟨this.1.mono fun q hq => List.mem_append_right _ hq, fun h => (this.2 (by omega)).mono fun q hq => List.mem_append_right _ hq⟩
theorem Sv.clr {w o : Nat} {own : Led} {r : Value} {j : Nat} (S : Sv g R P n j M t m rs cR T a b cT oP vP led tn) (SM : Shape M n w) (ho : o < n) (ne : o ≠ i) (hr : RowIn own r (lessR (rowAt M o) (rowAt M i) (at2 M o i)))
    (oR : ∀ q ∈ own, q.1 ≠ R) (oP' : ∀ q ∈ own, q.1 ≠ P)
    (h1 : m' (Str.ofString "rows") = some (.ref R)) (h2 : m' (Str.ofString "told") = some (.ref T)) (h3 : m' (Str.ofString "size") = some (.int n tn)) :
    Sv g R P n j (clr M i o) t m' (rs.set o r) cR T a b cT oP vP (own ++ led) tn := by
  refine ⟨S.cell, ?_, ?_, by simp [S.len], ?_, h1, h2, h3⟩
  · intro q hq
    rcases List.mem_cons.mp hq with rfl | hq
    · exact S.offR _ (.head _)
    rcases List.mem_cons.mp hq with rfl | hq
    · exact S.offR _ (.tail _ (.head _))
    rcases List.mem_append.mp hq with hq | hq
    · exact oR q hq
    · exact S.offR q (.tail _ (.tail _ hq))
  · intro q hq
    rcases List.mem_cons.mp hq with rfl | hq
    · exact S.offP (R, lstObj rs cR) (.head _)
    rcases List.mem_cons.mp hq with rfl | hq
    · exact S.offP _ (.tail _ (.head _))
    rcases List.mem_append.mp hq with hq | hq
    · exact oP' q hq
    · exact S.offP q (.tail _ (.tail _ hq))
  · intro k v hk
    rw [clr_row (by rw [SM.len]; exact ho)]
    rw [List.getElem?_set] at hk
    by_cases q : o = k
    · subst q
      rw [if_pos ⟨ne, rfl⟩]
      rw [if_pos rfl] at hk
      split at hk
      · cases hk
        have r' : RowIn (own ++ led) r (lessR (rowAt M o) (rowAt M i) (at2 M o i)) := hr.mono fun q hq => List.mem_append_left _ hq
        exact ⟨r'.everIn, fun _ => r'⟩
      · cases hk
    · rw [if_neg fun h => q h.2.symm]
      rw [if_neg q] at hk
      have := S.row k v hk
      exact ⟨this.1.mono fun q hq => List.mem_append_right _ hq, fun h => (this.2 h).mono fun q hq => List.mem_append_right _ hq⟩
theorem MidS.swap {w k : Nat} {vk vi : Value} {T' : Addr} {a' b' : Tok} {L I : Addr} {it : Obj} {h : Heap} {tk : Nat} {s : Shared} {ti : Tok} (S : Sv g R P n i M t m rs cR T a b cT oP vP led tn) (SM : Shape M n w) (hi : i < n) (hk : i ≤ k) (hkn : k < n) (ki : k ≠ i)
    (evk : rs[((k : Nat) : Int).toNat]? = some vk) (evi : rs[((i : Nat) : Int).toNat]? = some vi) (offI : ∀ p ∈ ledOf R P t rs cR T a b cT oP led, p.1 ≠ I) (F : Fr g L h m')
    (N : News g L h ((T', tup2 (-t.num) a' t.den b' 0) :: (R, lstObj ((rs.set ((i : Nat) : Int).toNat vk).set ((k : Nat) : Int).toNat vi) cR) :: (I, it) :: (P, oP) :: (T, tup2 t.num a t.den b cT) :: led))
    (oR : @Ne Nat T' R) (oP' : @Ne Nat T' P) (oI : @Ne Nat T' I)
    (h1 : m' (Str.ofString "rows") = some (.ref R)) (h2 : m' (Str.ofString "told") = some (.ref T')) (h3 : m' (Str.ofString "size") = some (.int n tn)) (h4 : m' (Str.ofString "at") = some (.int i ti)) :
    MidS g L R P I it n i (swapR M i k) (if k = i then t else -t) ti s { s with heap := h, toks := tk } := by
  simp only [Int.toNat_natCast] at evk evi N
  rw [if_neg ki]
  refine ⟨h, tk, m', ledOf R P (-t) ((rs.set i vk).set k vi) cR T' a' b' 0 oP led, rfl, F, fun p hp => ?_, fun p hp => ?_, ⟨_, _, _, _, _, _, _, _, _, _, rfl, S.swap SM hi hk hkn evk evi oR oP' h1 h2 h3⟩, h4⟩
  · refine N p ?_
    rcases List.mem_cons.mp hp with rfl | hp
    · exact .tail _ (.tail _ (.head _))
    rcases List.mem_cons.mp hp with rfl | hp
    · exact .tail _ (.head _)
    rcases List.mem_cons.mp hp with rfl | hp
    · exact .tail _ (.tail _ (.tail _ (.head _)))
    rcases List.mem_cons.mp hp with rfl | hp
    · exact .head _
    · exact .tail _ (.tail _ (.tail _ (.tail _ (.tail _ hp))))
  · rcases List.mem_cons.mp hp with rfl | hp
    · exact offI (R, lstObj rs cR) (.head _)
    rcases List.mem_cons.mp hp with rfl | hp
    · exact offI (P, oP) (.tail _ (.head _))
    rcases List.mem_cons.mp hp with rfl | hp
    · exact oI
    · exact offI p (.tail _ (.tail _ (.tail _ hp)))
end
theorem end_none {g h : Heap} {L D Z : Addr} {v1 : Value} {m : Str → Option Value} {rest : Led} {s : Shared} {tk : Nat} {M0 M : Mat} {n i w c cz : Nat} {t : Rat} {a b : Tok} (F : Fr g L h m) (N : News g L h ((D, tupObj [v1, .ref Z] c) :: (Z, tup2 0 a 1 b cz) :: rest))
    (hi : i < n) (hnw : n ≤ w) (SM : Shape M n w) (R : Reach M0 n i M t) (hz : ∀ (k : Nat) row q, i ≤ k → M[k]? = some row → row[i]? = some q → q = 0) : Out g (RSolved M0 n) s (.ref D) { s with heap := h, toks := tk } := by
  refine Out.intro [(D, tupObj [v1, .ref Z] c), (Z, tup2 0 a 1 b cz)] F N (fun p hp => ?_) ⟨D, c, v1, .ref Z, 0, rfl, List.mem_cons_self, ⟨Z, a, b, cz, rfl, .tail _ List.mem_cons_self⟩, .inr ⟨i, M, t, hi, R, fun k x y => ?_, rfl⟩⟩
  · rcases List.mem_cons.mp hp with rfl | hp
    · exact .head _
    · rw [List.mem_singleton.mp hp]; exact .tail _ (.head _)
  · exact hz k _ _ x (rowAt_get (by rw [SM.len]; exact y)) (at2_get (by rw [SM.rowLen y]; omega))
theorem end_done {g h : Heap} {L D R P T : Addr} {m m' : Str → Option Value} {s : Shared} {tk : Nat} {M0 M : Mat} {n w c cR cT : Nat} {t : Rat} {a b : Tok} {rs : List Value} {oP : Obj} {vP : Option Value} {led : Led} {tn : Tok} (F : Fr g L h m') (N : News g L h ((D, tupObj [.ref R, .ref T] c) :: ledOf R P t rs cR T a b cT oP led))
    (S : Sv g R P n n M t m rs cR T a b cT oP vP led tn) (SM : Shape M n w) (Rch : Reach M0 n n M t) : Out g (RSolved M0 n) s (.ref D) { s with heap := h, toks := tk } := by
  refine Out.intro ((D, tupObj [.ref R, .ref T] c) :: (R, lstObj rs cR) :: (T, tup2 t.num a t.den b cT) :: led) F N (fun p hp => ?_) ⟨D, c, .ref R, .ref T, t, rfl, List.mem_cons_self, ⟨T, a, b, cT, rfl, .tail _ (.tail _ List.mem_cons_self)⟩, .inl ⟨M, Rch, R, rs, cR, rfl, .tail _ List.mem_cons_self, by rw [S.len, SM.len], fun k v q e f => ?_⟩⟩
  · rcases List.mem_cons.mp hp with rfl | hp
    · exact .head _
    rcases List.mem_cons.mp hp with rfl | hp
    · exact .tail _ (.head _)
    · exact .tail _ (.tail _ (.tail _ hp))
  · have hk : k < M.length := (List.getElem?_eq_some_iff.mp f).1
    have : q = rowAt M k := Option.some.inj (f.symm.trans (rowAt_get hk))
    rw [this]
    exact ((S.row k v e).2 (by rw [← SM.len]; exact hk)).mono fun x hx => .tail _ (.tail _ (.tail _ hx))
theorem start_led {g h : Heap} {L R T D : Addr} {m : Str → Option Value} {vs : List Value} {c cT : Nat} {X : Obj} {a b tn : Tok} {oF : Obj} {n w : Nat} {M0 : Mat} (N : News g L h [(R, listOf vs.toArray c), (D, X), (T, tup2 1 a 1 b cT), (L + 1, oF)]) (_F : Fr g L h m) (S0 : Shape M0 n w) (dF : oF.data = .cell none) (a1 : All2 (RowAt g) vs M0)
    (h1 : m (Str.ofString "rows") = some (.ref R)) (h2 : m (Str.ofString "told") = some (.ref T)) (h3 : m (Str.ofString "size") = some (.int n tn)) (o1 : @Ne Nat T R) (o2 : @Ne Nat (L + 1) R) (o3 : @Ne Nat (L + 1) T) :
    ∃ R news, News g L h news ∧ SvJ g R (L + 1) M0 n 0 m news := by
  refine ⟨R, ledOf R (L + 1) 1 vs c T a b cT oF [], ?_, M0, 1, ⟨vs, c, T, a, b, cT, oF, none, [], tn, rfl, ⟨dF, ?_, ?_, ?_, ?_, h1, h2, h3⟩⟩, .start⟩
  · intro p hp
    refine N p ?_
    rcases List.mem_cons.mp hp with rfl | hp
    · exact .head _
    rcases List.mem_cons.mp hp with rfl | hp
    · exact .tail _ (.tail _ (.tail _ (.head _)))
    rcases List.mem_cons.mp hp with rfl | hp
    · exact .tail _ (.tail _ (.head _))
    cases hp
  · intro p hp
    rcases List.mem_cons.mp hp with rfl | hp
    · exact o2
    rcases List.mem_cons.mp hp with rfl | hp
    · exact o1
    cases hp
  · intro p hp
    rcases List.mem_cons.mp hp with rfl | hp
    · exact Ne.symm o2
    rcases List.mem_cons.mp hp with rfl | hp
    · exact Ne.symm o3
    cases hp
  · rw [a1.1, S0.len]
  · intro k v hv
    have hk : k < M0.length := by rw [← a1.1]; exact (List.getElem?_eq_some_iff.mp hv).1
    exact ⟨(a1.2 k v _ hv (rowAt_get hk)).everBase, fun h => absurd h (Nat.not_lt_zero _)⟩

theorem t_solved (c : Cx) (vr : Value) (M0 : Mat) (n w : Nat) (hn : n ≤ 3) (hw : w ≤ 8) (hnw : n ≤ w) (S0 : Shape M0 n w) (F0 : MatFit 8 M0) :
    Tell c 148 8 [vr] (fun h => GridAt h vr M0) (RSolved M0 n) := by
  refine tell_at ?_
  rintro g₀ ⟨D1, vs, rfl, l1, a1⟩
  refine' tell_cells (binds := [(Str.ofString "rows", .ref D1)]) (mm := fun y => if y = Str.ofString "rows" then some (.ref D1) else none)
    (CC := fun L' cells => ∃ o, cells = [(L' + 1, o)] ∧ o.data = .cell none) ?ho ?hcd ?hbind ?hkind ?hnd ?hco ?hgen ?hk ?hmm ?hCC ?_
  (case ho => k_is)
  (case hcd => k_is)
  (case hbind => (intro _; exact BindsTo.of_eq rfl))
  (case hkind => exact rfl)
  (case hnd => decide +kernel)
  (case hco => exact rfl)
  (case hgen => exact rfl)
  (case hk => exact rfl)
  (case hmm => (intro _; exact rfl))
  case hCC => exact fun _ _ Y => CellsAre.one Y
  rintro dp un gd cn cs a' ccd cl outer base g L L' h₁ s tk cells hd hu hke B' F' X' N' ⟨oF, rfl, dF⟩ T' rfl
  k_with_none
  have e1 : vs.length = n := by rw [a1.1, S0.len]
  have lenF : (vs.toArray.size : Int) = (n : Int) := by rw [List.size_toArray, e1]
  (try dsimp only)
  k_steps
  rename IsRange _ _ _ _ _ _ _ _ => rg
  rename Fr _ _ _ _ => F1
  rename News _ _ _ _ => N1
  obtain ⟨R, news0, N2, J0⟩ := start_led N1 F1 S0 dF a1 rfl rfl rfl (by omega) (by omega) (by omega)
  refine Stop9.mk ?_
  refine range9 (n := n) (SvJ g R (L' + 1) M0 n) rfl rg (small_one (by omega) (by omega) (by omega) (by omega)) (rangeSize_up (by omega)) F1 N2 J0 ?turn ?done
  case turn =>
    rintro I i t' m news h tk' hi ⟨M, t, ⟨rs, cR, T, a, b, cT, oP, vP, led, tn, rfl, S⟩, Rch⟩ offI F9 N9
    simp only [Int.zero_add] at F9
    replace F9 : Fr g L' h _ := F9
    replace N9 : News g L' h _ := N9
    generalize itR _ _ = it at N9 ⊢
    have mr := S.mr
    have mt := S.mt
    have ms := S.ms
    obtain ⟨SM, FM, Ft⟩ := reach_fit hnw S0 F0 Rch
    clear N1 F1 N2 J0 rg
    k_steps
    refine Stop9.mk ?_
    refine' tell_use (t_pivot _ (.ref R) M i _ ?a1 ?a2 ?a3) ?k1 ?k2 ?k3 ?k4 ?k5 ?kK ?kd ?ku ?kP ?_
    case a1 => rw [SM.len]; omega
    case a2 => rw [SM.len]; omega
    case a3 => intro row hr; rw [SM.row _ hr]; omega
    case kP => exact S.grid SM.len F9 N9 (by simp) (fun p hp => by simp [hp])
    (case k1 => first | k_asm | ktn_no "tell: the frames below")
    (case k2 => first | k_asm | ktn_no "tell: the frame")
    (case k3 => first | k_asm | ktn_no "tell: the written part")
    (case k4 => first | k_asm | ktn_no "tell: the ledger")
    (case k5 => first | k_asm | ktn_no "tell: the top's facts")
    (case kK => first | exact rfl | assumption | ktn_no "tell: the caller is no def")
    (case kd => first | ktr_room | ktn_no "tell: the frames' room")
    (case ku => first | ktr_units | ktn_no "tell: the C units")
    rintro r own h1 tk1 ⟨rfl, hr⟩ k1 O1 F10 N10
    rw [List.nil_append] at N10
    rcases hr with ⟨k, tk9, rfl, hk, row, q, e5, e6, q0⟩ | ⟨rfl, hz⟩
    · have hkn : k < n := by rw [← SM.len]; exact (List.getElem?_eq_some_iff.mp e5).1
      have hrow : row = rowAt M k := Option.some.inj (e5.symm.trans (rowAt_get (by rw [SM.len]; exact hkn)))
      have hq : q = at2 M k i := by subst hrow; exact Option.some.inj (e6.symm.trans (at2_get (by rw [SM.rowLen hkn]; omega)))
      subst hrow hq
      k_steps
      rename Fr _ _ _ _ => F11
      rename News _ _ _ _ => N11
      refine Stop9.mk ?_
      refine mid9 (MidS g L' R (L' + 1) I it n i (swapR M i k) (if k = i then t else -t) t' s) ?sw ?rest
      case sw =>
        obtain ⟨vk, hvk⟩ : ∃ v, rs[((k : Nat) : Int).toNat]? = some v := ⟨_, List.getElem?_eq_getElem (by rw [S.len]; omega)⟩
        obtain ⟨vi, hvi⟩ : ∃ v, rs[((i : Nat) : Int).toNat]? = some v := ⟨_, List.getElem?_eq_getElem (by rw [S.len]; omega)⟩
        k_steps
        · -- rows change places
          rename Fr _ _ _ _ => F12
          rename News _ _ _ _ => N12
          have ki : k ≠ i := fun e => (by assumption : ¬ _) (congrArg Int.ofNat e)
          have lR : ∀ p ∈ (I, it) :: (L' + 1, oP) :: (T, tup2 t.num a t.den b cT) :: led, p.1 ≠ R := fun p hp => by
            rcases List.mem_cons.mp hp with rfl | hp
            · exact Ne.symm (offI _ (.head _))
            · exact S.offR p hp
          refine Stop9.mk ?_
          refine store9 ((I, it) :: (L' + 1, oP) :: (T, tup2 t.num a t.den b cT) :: led) F12 N12 (.tail _ (.tail _ (.head _))) (by omega) (by omega) (by rw [S.len]; omega) ?sub1 lR ?_
          case sub1 =>
            intro p hp
            rcases List.mem_cons.mp hp with rfl | hp
            · exact .tail _ (.head _)
            · exact .tail _ (.tail _ (.tail _ hp))
          intro h2 F13 N13
          (try clear F12); (try clear N12); (try clear F11); (try clear N11); (try clear F9); (try clear N9); (try clear F10); (try clear N10)
          k_steps
          refine Stop9.mk ?_
          rename Fr _ _ _ _ => F14
          rename News _ _ _ _ => N14
          refine store9 ((I, it) :: (L' + 1, oP) :: (T, tup2 t.num a t.den b cT) :: led) F14 N14 (.head _) (by omega) (by omega) (by rw [List.length_set, S.len]; omega) (fun p hp => .tail _ hp) lR ?_
          intro h3 F15 N15
          (try clear F14); (try clear N14); (try clear F13); (try clear N13)
          k_steps
          rename Fr _ _ _ _ => F16
          rename News _ _ _ _ => N16
          exact MidS.swap (s := s) S SM hi hk hkn ki hvk hvi offI F16 N16 (by omega) (by omega) (by omega) mr rfl ms rfl
        · -- the row stands
          have ki : k = i := by omega
          subst ki
          rename Fr _ _ _ _ => F12
          rename News _ _ _ _ => N12
          show MidS _ _ _ _ _ _ _ _ _ _ _ _ _
          rw [swap_self (by rw [SM.len]; exact hi), if_pos rfl]
          exact ⟨_, _, _, _, rfl, F12, N12, offI, ⟨_, _, _, _, _, _, _, _, _, _, rfl, S.remap mr mt ms⟩, rfl⟩
      case rest =>
        clear hi S offI mr mt ms FM Ft k1 O1 F11 N11
        have hi : i < n := by omega
        rintro s' ⟨h2, tk2, m2, news2, rfl, F20, N20, offI, ⟨rs, cR, T, a, b, cT, oP, vP, led, tn, rfl, S⟩, ma⟩
        obtain ⟨SM, FM, Ft⟩ := reach_fit hnw S0 F0 Rch
        have mr := S.mr
        have mt := S.mt
        have ms := S.ms
        have S1 := SM.swap hi hkn
        have FM1 := swap_fit SM hi hkn FM
        have p0 : at2 (swapR M i k) i i ≠ 0 := by rw [swap_pivot SM hi hkn]; exact q0
        have Fp : Fit (fitB i) (at2 (swapR M i k) i i) := FM1.at S1 hi (by omega)
        have Ft1 : Fit (fitT i) (if k = i then t else -t) := by split; exact Ft; exact fit_neg Ft
        have hb : fitB i ≤ 133 := by have : i = 0 ∨ i = 1 ∨ i = 2 := by omega
                                     rcases this with rfl | rfl | rfl <;> decide
        have hb' : fitT i ≤ 4000 := by have : i = 0 ∨ i = 1 ∨ i = 2 := by omega
                                       rcases this with rfl | rfl | rfl <;> decide
        have FC := step_fit SM hi hkn hnw FM q0
        have RC := Reach.step Rch hk hkn hi q0
        have Sl := S1.rowLen hi
        generalize (if k = i then t else -t) = t1 at *
        generalize swapR M i k = M1 at *
        generalize hp9 : at2 M1 i i = p at *
        have S2 := S1.scale (p := p) hi
        obtain ⟨vi, hvi⟩ : ∃ v, rs[i]? = some v := ⟨_, List.getElem?_eq_getElem (by rw [S.len]; omega)⟩
        obtain ⟨Dr, ws, rfl, hwl, lr, hit⟩ := (S.row i vi hvi).1.item
        obtain ⟨Dq, tq, uq, hx, xq⟩ := hit i _ (at2_get (by omega))
        rw [hp9] at xq
        have f1 : rs[((i : Nat) : Int).toNat]? = some (.ref Dr) := hvi
        have f2 : ws[((i : Nat) : Int).toNat]? = some (.ref Dq) := hx
        have sub20 : ∀ p ∈ led, p ∈ (I, it) :: ledOf R (L' + 1) t1 rs cR T a b cT oP led := by walk_at "my sub"
        have lr20 := lr.now F20 N20 sub20
        k_steps
        refine Stop9.mk ?_
        rename Fr _ _ _ _ => F21
        rename News _ _ _ _ => N21
        refine storeC9 ((I, it) :: (R, lstObj rs cR) :: (T, tup2 t1.num a t1.den b cT) :: led) F21 N21 (c := L' + 1) (o := oP) rfl (.tail _ (.tail _ (.head _))) S.cell ?sub2 ?off2 ?_ rfl rfl
        case sub2 =>
          intro p hp
          rcases List.mem_cons.mp hp with rfl | hp
          · exact .head _
          rcases List.mem_cons.mp hp with rfl | hp
          · exact .tail _ (.head _)
          · exact .tail _ (.tail _ (.tail _ hp))
        case off2 =>
          intro p hp
          rcases List.mem_cons.mp hp with rfl | hp
          · exact Ne.symm (offI (L' + 1, oP) (.tail _ (.head _)))
          · exact S.offP p hp
        intro h3 oP' F22 N22 dP
        (try clear F20); (try clear N20); (try clear F21); (try clear N21); (try clear lr20)
        k_steps
        rename Fr _ _ _ _ => F23
        rename News _ _ _ _ => N23
        have sub23 : ∀ p ∈ led, p ∈ (L' + 1, oP') :: (I, it) :: (R, lstObj rs cR) :: (T, tup2 t1.num a t1.den b cT) :: led := fun p hp => by simp [hp]
        refine Stop9.mk ?_
        refine' tell_use (t_fraction_times _ (.ref T) (.ref Dq) t1 (p) ?b1 ?b2) ?k1 ?k2 ?k3 ?k4 ?k5 ?kK ?kd ?ku ?kP ?_
        case b1 => exact Ft1.mono hb'
        case b2 => exact Fp.mono (by omega)
        case kP => exact ⟨⟨T, _, _, rfl, _, (N23 _ (.tail _ (.tail _ (.tail _ (.head _))))).1, rfl, _, rfl⟩, ⟨Dq, _, _, rfl, xq.now F23 N23 sub23⟩⟩
        (case k1 => first | k_asm | ktn_no "tell: the frames below")
        (case k2 => first | k_asm | ktn_no "tell: the frame")
        (case k3 => first | k_asm | ktn_no "tell: the written part")
        (case k4 => first | k_asm | ktn_no "tell: the ledger")
        (case k5 => first | k_asm | ktn_no "tell: the top's facts")
        (case kK => first | exact rfl | assumption | ktn_no "tell: the caller is no def")
        (case kd => first | ktr_room | ktn_no "tell: the frames' room")
        (case ku => first | ktr_units | ktn_no "tell: the C units")
        rintro r' own' h4 tk4 ⟨T2, ta, tb, cT2, rfl, rfl⟩ k4 O4 F24 N24
        rw [List.singleton_append] at N24
        have offT2 := O4.off N23
        (try clear F22); (try clear N22); (try clear F23); (try clear N23)
        k_steps
        refine Stop9.mk ?_
        rename Fr _ _ _ _ => F25
        rename News _ _ _ _ => N25
        have lr25 := lr.now F25 N25 fun p hp => .tail _ (sub23 p hp)
        have go : Go9 := trivial
        have sub25 : ∀ q ∈ led, q ∈ (T2, tup2 (t1 * p).num ta (t1 * p).den tb cT2) :: (L' + 1, oP') :: (I, it) :: (R, lstObj rs cR) :: (T, tup2 t1.num a t1.den b cT) :: led := fun p hp => .tail _ (sub23 p hp)
        k_steps
        clear go
        rename_i _ _ k9 M9
        refine compAt_pure (fun _ => true) (fun j o y => ∀ x, (rowAt (M1) i)[j]? = some x → RRat (x / p) o y) trivial (M9 _) k9 ?hsz (binds_name rfl rfl) ?tst ?elt ?fin
        case hsz => rw [List.size_toArray]; exact Nat.le_trans (by omega) (by decide : 8 ≤ sizeLine)
        case tst =>
          intro i h tk C m E' _ _ _ _ _
          exact wpAny_tests_nil ⟨rfl, h, tk, rfl, HLe.refl _⟩
        case elt =>
          rintro j h5 tk5 C mC E' hj - ⟨v, ⟨_, hv⟩, mx⟩ hn' hC hk'
          obtain ⟨oC, nC, F3, N3⟩ := elt_ground F25 N25 k9 hk' hn' hC
          rw [List.getElem?_toArray] at hv
          have jl : j < (rowAt (M1) i).length := by rw [List.size_toArray] at hj; omega
          obtain ⟨Dx, tx, ux, hx', xx⟩ := hit j _ (List.getElem?_eq_getElem jl)
          have ev : v = .ref Dx := Option.some.inj (hv.symm.trans hx')
          subst ev
          have sub3 : ∀ q ∈ led, q ∈ (C, oC) :: (T2, tup2 (t1 * p).num ta (t1 * p).den tb cT2) :: (L' + 1, oP') :: (I, it) :: (R, lstObj rs cR) :: (T, tup2 t1.num a t1.den b cT) :: led := fun p hp => .tail _ (sub25 p hp)
          have Fx : Fit (fitB i) ((rowAt (M1) i)[j]) := FM1.row (by rw [S1.len]; exact hi) _ (List.getElem_mem jl)
          (try clear F24); (try clear N24); clear F25 N25 k9 M9 lr25
          k_steps
          refine Stop9.mk ?_
          refine' tell_use (t_fraction_by _ (.ref Dx) (.ref Dq) ((rowAt (M1) i)[j]) (p) ?b1 ?b2 p0) ?k1 ?k2 ?k3 ?k4 ?k5 ?kK ?kd ?ku ?kP ?_
          case b1 => exact Fx.mono (by omega)
          case b2 => exact Fp.mono (by omega)
          case kP => exact ⟨⟨Dx, _, _, rfl, xx.now F3 N3 sub3⟩, ⟨Dq, _, _, rfl, xq.now F3 N3 sub3⟩⟩
          (case k1 => first | k_asm | ktn_no "tell: the frames below")
          (case k2 => first | k_asm | ktn_no "tell: the frame")
          (case k3 => first | k_asm | ktn_no "tell: the written part")
          (case k4 => first | k_asm | ktn_no "tell: the ledger")
          (case k5 => first | k_asm | ktn_no "tell: the top's facts")
          (case kK => first | exact rfl | assumption | ktn_no "tell: the caller is no def")
          (case kd => first | ktr_room | ktn_no "tell: the frames' room")
          (case ku => first | ktr_units | ktn_no "tell: the C units")
          rintro r' own' h6 tk6 hR k6 O6 F6 N6
          refine Out.one k6 O6 ?_
          intro x hx9
          rw [List.getElem?_eq_getElem jl] at hx9
          cases hx9
          exact hR
        case fin =>
          intro D h5 tk5 ys own hb5 hA hO
          have F26 := Fr.grow F25 hb5.le
          have N26 := News.grow F25 N25 hb5.le hO
          have hrow : RowIn ((D, lst9 ys) :: own) (.ref D) ((rowAt (M1) i).map (· / p)) := acc_row hA (by rw [List.length_map, List.size_toArray, hwl]) (fun j o y q e r => by
            rw [List.getElem?_map] at e
            cases e1 : (rowAt (M1) i)[j]? with
            | none => rw [e1] at e; cases e
            | some x => rw [e1] at e; cases e; exact r x e1)
          have offD := hO.off N25
          (try clear F24); (try clear N24); clear F25 N25 k9 M9 lr25
          k_steps
          rename Fr _ _ _ _ => F27
          rename News _ _ _ _ => N27
          refine Stop9.mk ?_
          have oT2 : ∀ q ∈ (L' + 1, oP') :: (I, it) :: (R, lstObj rs cR) :: (T, tup2 t1.num a t1.den b cT) :: led, T2 ≠ q.1 := fun q hq => offT2 _ (.head _) q hq
          have offDR : ∀ q ∈ (D, lst9 ys) :: own ++ led, q.1 ≠ R := fun q hq => by
            rcases List.mem_append.mp hq with hq | hq
            · exact offD q hq _ (.tail _ (.tail _ (.tail _ (.head _))))
            · exact S.offR q (.tail _ (.tail _ hq))
          have offDP : ∀ q ∈ (D, lst9 ys) :: own ++ led, q.1 ≠ L' + 1 := fun q hq => by
            rcases List.mem_append.mp hq with hq | hq
            · exact offD q hq _ (.tail _ (.head _))
            · exact S.offP q (.tail _ (.tail _ hq))
          have offDI : ∀ q ∈ (D, lst9 ys) :: own ++ led, q.1 ≠ I := fun q hq => by
            rcases List.mem_append.mp hq with hq | hq
            · exact offD q hq _ (.tail _ (.tail _ (.head _)))
            · exact offI q (.tail _ (.tail _ (.tail _ hq)))
          have RI : R ≠ I := offI (R, lstObj rs cR) (.head _)
          have PI : L' + 1 ≠ I := offI (L' + 1, oP) (.tail _ (.head _))
          have PR : L' + 1 ≠ R := S.offR (L' + 1, oP) (.head _)
          have TR : T2 ≠ R := oT2 _ (.tail _ (.tail _ (.head _)))
          have TP : T2 ≠ L' + 1 := oT2 _ (.head _)
          have TI : T2 ≠ I := oT2 _ (.tail _ (.head _))
          refine store9 ((T2, tup2 (t1 * p).num ta (t1 * p).den tb cT2) :: (L' + 1, oP') :: (I, it) :: ((D, lst9 ys) :: own ++ led)) F27 N27 (List.mem_append_right _ (.tail _ (.tail _ (.tail _ (.head _))))) (by omega) (by omega) (by rw [S.len]; omega) ?sub3 ?off3 ?_
          case sub3 =>
            intro q hq
            rcases List.mem_cons.mp hq with rfl | hq
            · exact List.mem_append_right _ (.head _)
            rcases List.mem_cons.mp hq with rfl | hq
            · exact List.mem_append_right _ (.tail _ (.head _))
            rcases List.mem_cons.mp hq with rfl | hq
            · exact List.mem_append_right _ (.tail _ (.tail _ (.head _)))
            rcases List.mem_append.mp hq with hq | hq
            · exact List.mem_append_left _ hq
            · exact List.mem_append_right _ (.tail _ (.tail _ (.tail _ (.tail _ (.tail _ hq)))))
          case off3 =>
            intro q hq
            rcases List.mem_cons.mp hq with rfl | hq
            · exact TR
            rcases List.mem_cons.mp hq with rfl | hq
            · exact PR
            rcases List.mem_cons.mp hq with rfl | hq
            · exact Ne.symm RI
            · exact offDR q hq
          intro h6 F28 N28
          (try clear F26); (try clear N26); (try clear F27); (try clear N27)
          have S3 : Sv g R (L' + 1) n (i + 1) (scaleR M1 i p) (t1 * p) _ (rs.set i (.ref D)) cR T2 ta tb cT2 oP' _ ((D, lst9 ys) :: own ++ led) tn := S.scale (m' := fun y => if y = Str.ofString "told" then some (.ref T2) else m2 y) S1 hi hrow dP (fun q hq => by
            rcases List.mem_cons.mp hq with rfl | hq
            · exact PR
            rcases List.mem_cons.mp hq with rfl | hq
            · exact TR
            · exact offDR q hq) (fun q hq => by
            rcases List.mem_cons.mp hq with rfl | hq
            · exact Ne.symm PR
            rcases List.mem_cons.mp hq with rfl | hq
            · exact TP
            · exact offDP q hq) mr rfl ms
          have offS3 : ∀ q ∈ ledOf R (L' + 1) (t1 * p) (rs.set i (.ref D)) cR T2 ta tb cT2 oP' ((D, lst9 ys) :: own ++ led), q.1 ≠ I := fun q hq => by
            rcases List.mem_cons.mp hq with rfl | hq
            · exact RI
            rcases List.mem_cons.mp hq with rfl | hq
            · exact PI
            rcases List.mem_cons.mp hq with rfl | hq
            · exact TI
            · exact offDI q hq
          k_steps
          rename IsRange _ _ _ _ _ _ _ _ => rg2
          rename Fr _ _ _ _ => F29
          rename News _ _ _ _ => N29
          refine Stop9.mk ?_
          have N29' := cb_drop (news := (I, it) :: ledOf R (L' + 1) (t1 * p) (rs.set i (.ref D)) cR T2 ta tb cT2 oP' ((D, lst9 ys) :: own ++ led)) N29 (fun q hq => by
            rcases List.mem_cons.mp hq with rfl | hq
            · exact .tail _ (.tail _ (.tail _ (.head _)))
            rcases List.mem_cons.mp hq with rfl | hq
            · exact .head _
            rcases List.mem_cons.mp hq with rfl | hq
            · exact .tail _ (.tail _ (.head _))
            rcases List.mem_cons.mp hq with rfl | hq
            · exact .tail _ (.head _)
            · exact .tail _ (.tail _ (.tail _ (.tail _ hq))))
          refine range9 (n := n) (fun o m news => ∃ news', news = (I, it) :: news' ∧ (∀ q ∈ news', q.1 ≠ I) ∧ SvM g R (L' + 1) n (i + 1) (clearTo (scaleR M1 i p) i o) (t1 * p) m news' ∧ m (Str.ofString "at") = some (.int i t'))
            rfl rg2 (small_one (by omega) (by omega) (by omega) (by omega)) (rangeSize_up (by omega)) F29 N29' ⟨_, rfl, offS3, ⟨_, _, _, _, _, _, _, _, _, _, rfl, S3.remap mr rfl ms⟩, ma⟩ ?turn2 ?done2
          case turn2 =>
            rintro I2 o t9 m3 news3 h7 tk7 ho ⟨news', rfl, offI', ⟨rs, cR, T, a, b, cT, oP, vP, led, tn, rfl, S'⟩, ma'⟩ offI2 F30 N30
            simp only [Int.zero_add] at F30
            replace F30 : Fr g L' h7 _ := F30
            replace N30 : News g L' h7 _ := N30
            generalize itR _ _ = it2 at N30 ⊢
            have mr' := S'.mr
            have ms' := S'.ms
            have SC := S2.clearTo hi o (by omega)
            have FCo := FC o (by omega)
            have Eo := clearTo_row S2 hi o (by omega) o (.inr (Nat.le_refl _))
            have Ei := clearTo_row S2 hi o (by omega) i (.inl rfl)
            generalize hMk : clearTo (scaleR M1 i p) i o = Mk at *
            obtain ⟨vo, hvo⟩ : ∃ v, rs[o]? = some v := ⟨_, List.getElem?_eq_getElem (by rw [S'.len]; omega)⟩
            obtain ⟨vi2, hvi2⟩ : ∃ v, rs[i]? = some v := ⟨_, List.getElem?_eq_getElem (by rw [S'.len]; omega)⟩
            have ro := (S'.row o vo hvo).1
            have ri := (S'.row i vi2 hvi2).1
            obtain ⟨Do, wso, rfl, hwo, lro, hito⟩ := ro.item
            have oi : i < (rowAt Mk o).length := by rw [SC.rowLen ho]; omega
            obtain ⟨Dqo, tqo, uqo, hxo, xqo⟩ := hito i _ (at2_get oi)
            have f1 : rs[((o : Nat) : Int).toNat]? = some (.ref Do) := hvo
            have f2 : wso[((i : Nat) : Int).toNat]? = some (.ref Dqo) := hxo
            have f3 : rs[((i : Nat) : Int).toNat]? = some vi2 := hvi2
            have sub30 : ∀ q ∈ led, q ∈ (I2, it2) :: (I, it) :: ledOf R (L' + 1) (t1 * p) rs cR T a b cT oP led := fun q hq => by simp [hq]
            have lr30 := lro.now F30 N30 sub30
            have x30 := xqo.now F30 N30 sub30
            (try clear F28); (try clear N28); (try clear F29); (try clear N29); (try clear N29')
            have eJ : clearTo (scaleR M1 i p) i (o + 1) = clr Mk i o := by rw [← hMk]; rfl
            k_steps
            · -- a row is cleared
              rename Fr _ _ _ _ => F31
              rename News _ _ _ _ => N31
              have ne : o ≠ i := by omega
              refine Stop9.mk ?_
              refine' tell_use (t_cleared _ (.ref Do) vi2 (.ref Dqo) (rowAt Mk o) (rowAt Mk i) (at2 Mk o i) ?fr ?fb ?ff ?fl ?fs) ?k1 ?k2 ?k3 ?k4 ?k5 ?kK ?kd ?ku ?kP ?_
              case fr => exact fun q hq => (FCo.row (by rw [SC.len]; exact ho) q hq).mono (by omega)
              case fb => exact fun q hq => (FCo.row (by rw [SC.len]; exact hi) q hq).mono (by omega)
              case ff => exact (FCo.at SC ho (by omega)).mono (by omega)
              case fl => rw [SC.rowLen ho, SC.rowLen hi]
              case fs => rw [SC.rowLen ho]; exact hw
              case kP => exact ⟨ro.now F31 N31 sub30, ri.now F31 N31 sub30, ⟨Dqo, _, _, rfl, xqo.now F31 N31 sub30⟩⟩
              (case k1 => first | k_asm | ktn_no "tell: the frames below")
              (case k2 => first | k_asm | ktn_no "tell: the frame")
              (case k3 => first | k_asm | ktn_no "tell: the written part")
              (case k4 => first | k_asm | ktn_no "tell: the ledger")
              (case k5 => first | k_asm | ktn_no "tell: the top's facts")
              (case kK => first | exact rfl | assumption | ktn_no "tell: the caller is no def")
              (case kd => first | ktr_room | ktn_no "tell: the frames' room")
              (case ku => first | ktr_units | ktn_no "tell: the C units")
              rintro r' own' h8 tk8 hR k8 O8 F32 N32
              have off8 := O8.off N31
              (try clear F30); (try clear N30); (try clear F31); (try clear N31); (try clear lr30); (try clear x30)
              k_steps
              rename Fr _ _ _ _ => F33
              rename News _ _ _ _ => N33
              refine Stop9.mk ?_
              refine store9 (own' ++ (I2, it2) :: (I, it) :: (L' + 1, oP) :: (T, tup2 (t1 * p).num a (t1 * p).den b cT) :: led) F33 N33 (List.mem_append_right _ (.tail _ (.tail _ (.head _)))) (by omega) (by omega) (by rw [S'.len]; omega) ?sub4 ?off4 ?_
              case sub4 =>
                intro q hq
                rcases List.mem_append.mp hq with hq | hq
                · exact List.mem_append_left _ hq
                rcases List.mem_cons.mp hq with rfl | hq
                · exact List.mem_append_right _ (.head _)
                rcases List.mem_cons.mp hq with rfl | hq
                · exact List.mem_append_right _ (.tail _ (.head _))
                · exact List.mem_append_right _ (.tail _ (.tail _ (.tail _ hq)))
              case off4 =>
                intro q hq
                rcases List.mem_append.mp hq with hq | hq
                · exact off8 q hq _ (.tail _ (.tail _ (.head _)))
                rcases List.mem_cons.mp hq with rfl | hq
                · exact Ne.symm (offI2 _ (.tail _ (.head _)))
                rcases List.mem_cons.mp hq with rfl | hq
                · exact Ne.symm (offI' _ (.head _))
                · exact S'.offR q hq
              intro h9 F34 N34
              (try clear F33); (try clear N33)
              k_steps
              rename Fr _ _ _ _ => F35
              rename News _ _ _ _ => N35
              refine ⟨_, _, _, (I, it) :: ledOf R (L' + 1) (t1 * p) (rs.set o r') cR T a b cT oP (own' ++ led), rfl, F35, cb_drop N35 ?sub5, ?off5, ⟨_, rfl, ?off6, ?sv, ma'⟩⟩
              case sub5 =>
                intro q hq
                rcases List.mem_cons.mp hq with rfl | hq
                · exact .tail _ (List.mem_append_right _ (.head _))
                rcases List.mem_cons.mp hq with rfl | hq
                · exact .tail _ (List.mem_append_right _ (.tail _ (.head _)))
                rcases List.mem_cons.mp hq with rfl | hq
                · exact .head _
                rcases List.mem_cons.mp hq with rfl | hq
                · exact .tail _ (List.mem_append_right _ (.tail _ (.tail _ (.head _))))
                rcases List.mem_cons.mp hq with rfl | hq
                · exact .tail _ (List.mem_append_right _ (.tail _ (.tail _ (.tail _ (.head _)))))
                rcases List.mem_append.mp hq with hq | hq
                · exact .tail _ (List.mem_append_left _ hq)
                · exact .tail _ (List.mem_append_right _ (.tail _ (.tail _ (.tail _ (.tail _ hq)))))
              case off5 =>
                intro q hq
                rcases List.mem_cons.mp hq with rfl | hq
                · exact offI2 _ (.head _)
                rcases List.mem_cons.mp hq with rfl | hq
                · exact offI2 (R, lstObj rs cR) (.tail _ (.head _))
                rcases List.mem_cons.mp hq with rfl | hq
                · exact offI2 _ (.tail _ (.tail _ (.head _)))
                rcases List.mem_cons.mp hq with rfl | hq
                · exact offI2 _ (.tail _ (.tail _ (.tail _ (.head _))))
                rcases List.mem_append.mp hq with hq | hq
                · exact off8 q hq _ (.head _)
                · exact offI2 q (.tail _ (.tail _ (.tail _ (.tail _ hq))))
              case off6 =>
                intro q hq
                rcases List.mem_cons.mp hq with rfl | hq
                · exact offI' (R, lstObj rs cR) (.head _)
                rcases List.mem_cons.mp hq with rfl | hq
                · exact offI' _ (.tail _ (.head _))
                rcases List.mem_cons.mp hq with rfl | hq
                · exact offI' _ (.tail _ (.tail _ (.head _)))
                rcases List.mem_append.mp hq with hq | hq
                · exact off8 q hq _ (.tail _ (.head _))
                · exact offI' q (.tail _ (.tail _ (.tail _ hq)))
              case sv =>
                rw [eJ]
                exact ⟨_, _, _, _, _, _, _, _, _, _, rfl, S'.clr SC ho ne hR (fun q hq => off8 q hq _ (.tail _ (.tail _ (.head _)))) (fun q hq => off8 q hq _ (.tail _ (.tail _ (.tail _ (.head _))))) mr' S'.mt ms'⟩
            · -- a nought stands there
              rename Fr _ _ _ _ => F31
              rename News _ _ _ _ => N31
              refine ⟨_, _, _, _, rfl, F31, N31, offI2, ⟨_, rfl, offI', ?_, ma'⟩⟩
              rw [eJ, clr_zero SC hi ho (Rat.num_eq_zero.mp (by assumption))]
              exact ⟨_, _, _, _, _, _, _, _, _, _, rfl, S'.remap mr' S'.mt ms'⟩
            · -- the pivot's own row
              rename Fr _ _ _ _ => F31
              rename News _ _ _ _ => N31
              refine ⟨_, _, _, _, rfl, F31, N31, offI2, ⟨_, rfl, offI', ?_, ma'⟩⟩
              have e : o = i := by omega
              rw [eJ, show clr Mk i o = Mk from by unfold clr; rw [if_pos e]]
              exact ⟨_, _, _, _, _, _, _, _, _, _, rfl, S'.remap mr' S'.mt ms'⟩
          case done2 =>
            rintro m4 news4 h9 tk9 ⟨news', rfl, offI', ⟨rs, cR, T, a, b, cT, oP, vP, led, tn, rfl, S'⟩, ma'⟩ F40 N40
            k_steps
            rename Fr _ _ _ _ => F41
            rename News _ _ _ _ => N41
            exact ⟨_, _, _, _, rfl, F41, N41, offI', ⟨_, _, ⟨_, _, _, _, _, _, _, _, _, _, rfl, S'⟩, RC⟩⟩
    · k_steps
      rename Fr _ _ _ _ => F50
      rename News _ _ _ _ => N50
      exact end_none F50 N50 hi hnw SM Rch hz
  case done =>
    rintro m news h tk' ⟨M, t, ⟨rs, cR, T, a, b, cT, oP, vP, led, tn, rfl, S⟩, Rch⟩ F9 N9
    replace F9 : Fr g L' h _ := F9
    replace N9 : News g L' h _ := N9
    have mr := S.mr
    have mt := S.mt
    have ms := S.ms
    obtain ⟨SM, FM, Ft⟩ := reach_fit hnw S0 F0 Rch
    k_steps
    rename Fr _ _ _ _ => F50
    rename News _ _ _ _ => N50
    exact end_done F50 N50 S SM Rch
end

/- D10 -/
section
theorem fill_D10 : ∀ c f k vs P R, Tell c f k vs P R → True := by
  w_top off
  unfold Tell
  k_fill
  intros
  trivial

theorem t_fraction_of (c : Cx) (a : Int) (t : Tok) : Tell c 103 1 [.int a t] (fun _ => True) (RPair a 1) := by
  refine' tell_plain (binds := [(Str.ofString "value", .int a t)]) ?ho ?hcd ?hbind ?hloc ?hco ?hgen ?hk ?hcell ?_
  (case ho => k_is)
  (case hcd => k_is)
  (case hbind => (intro _; exact BindsTo.of_eq rfl))
  (case hloc => exact locs rfl)
  (case hco => exact rfl)
  (case hgen => exact rfl)
  (case hk => exact rfl)
  (case hcell => decide)
  intro dp un gd cn cs a' ccd cl outer base g L L' h₁ s tk hd hu hke B' F' X' N' T' P'
  k_with_none
  (try dsimp only)
  k_steps
  exact Out.intro [_] (by assumption) (by assumption) (fun _ h => by rw [List.mem_singleton.mp h]; exact List.mem_cons_self) ⟨_, _, _, _, rfl, rfl⟩
theorem t_grid_shape (c : Cx) (v : Value) (A : List (List Int)) (r : List Int) (n k : Nat) (hA : A.length = n) (h0 : A[0]? = some r) (hr : r.length = k) (hn : n ≤ 8) (hk' : k ≤ 8) : Tell c 65 1 [v] (fun h => ZGridAt h v A) (RPair n k) := by
  refine tell_at ?_
  rintro g₀ ⟨D, vs, rfl, l, a⟩
  obtain ⟨v0, hv0, D0, ws, rfl, l0, a0⟩ := a.get h0
  refine' tell_plain (binds := [(Str.ofString "grid", .ref D)]) ?ho ?hcd ?hbind ?hloc ?hco ?hgen ?hk ?hcell ?_
  (case ho => k_is)
  (case hcd => k_is)
  (case hbind => (intro _; exact BindsTo.of_eq rfl))
  (case hloc => exact locs rfl)
  (case hco => exact rfl)
  (case hgen => exact rfl)
  (case hk => exact rfl)
  (case hcell => decide)
  rintro dp un gd cn cs a' ccd cl outer base g L L' h₁ s tk hd hu hke B' F' X' N' T' rfl
  k_with_none
  have e1 : (vs.toArray.size : Int) = (n : Int) := by rw [List.size_toArray, a.1, hA]
  have e2 : (ws.toArray.size : Int) = (k : Int) := by rw [List.size_toArray, a0.1, hr]
  have e3 : 0 < n := by rw [← hA]; exact (List.getElem?_eq_some_iff.mp h0).1
  have f1 : vs[((0 : Int)).toNat]? = some (.ref D0) := hv0
  (try dsimp only)
  k_steps
  exact Out.intro [_] (by assumption) (by assumption) (fun _ h => by rw [List.mem_singleton.mp h]; exact List.mem_cons_self) ⟨_, _, _, _, rfl, rfl⟩

local macro_rules | `(tactic| walk_at "call ref") => `(tactic| (k_here; with_reducible refine stop_call ?_))

theorem t_square (c : Cx) (v : Value) (A : List (List Int)) (n : Nat) (SA : ZSq A n) (h0 : 0 < n) (hn : n ≤ 3) : Tell c 153 3 [v] (fun h => ZGridAt h v A) (fun own r => GridIn own r (ratGrid A)) := by
  refine tell_at ?_
  rintro g₀ ⟨D, vs, rfl, l, a⟩
  refine' tell_plain (binds := [(Str.ofString "grid", .ref D)]) ?ho ?hcd ?hbind ?hloc ?hco ?hgen ?hk ?hcell ?_
  (case ho => k_is)
  (case hcd => k_is)
  (case hbind => (intro _; exact BindsTo.of_eq rfl))
  (case hloc => exact locs rfl)
  (case hco => exact rfl)
  (case hgen => exact rfl)
  (case hk => exact rfl)
  (case hcell => decide)
  rintro dp un gd cn cs a' ccd cl outer base g L L' h₁ s tk hd hu hke B' F' X' N' T' rfl
  k_with_none
  have e1 := a.1
  obtain ⟨r0, z0⟩ : ∃ r0, A[0]? = some r0 := ⟨_, List.getElem?_eq_getElem (by rw [SA.len]; exact h0)⟩
  have z1 : r0.length = n := SA.row _ (List.mem_of_getElem? z0)
  (try dsimp only)
  k_steps
  refine Stop9.mk ?_
  rename Fr _ _ _ _ => F1
  rename News _ _ _ _ => N1
  refine' tell_use (t_grid_shape _ (.ref D) A r0 n n SA.len z0 z1 (by omega) (by omega)) ?k1 ?k2 ?k3 ?k4 ?k5 ?kK ?kd ?ku ?kP ?_
  case kP => exact (show ZGridAt g (.ref D) A from ⟨D, vs, rfl, l, a⟩).mono F1.keep
  (case k1 => first | k_asm | ktn_no "tell: the frames below")
  (case k2 => first | k_asm | ktn_no "tell: the frame")
  (case k3 => first | k_asm | ktn_no "tell: the written part")
  (case k4 => first | k_asm | ktn_no "tell: the ledger")
  (case k5 => first | k_asm | ktn_no "tell: the top's facts")
  (case kK => first | exact rfl | assumption | ktn_no "tell: the caller is no def")
  (case kd => first | ktr_room | ktn_no "tell: the frames' room")
  (case ku => first | ktr_units | ktn_no "tell: the C units")
  rintro r' own' h2 tk2 ⟨D', t1', t2', c', rfl, rfl⟩ k2 O2 F2 N2
  rw [List.singleton_append] at N2
  (try clear F1); (try clear N1)
  k_steps
  all_goals (try (first | contradiction | (exfalso; omega)))
  rename Fr _ _ _ _ => F3
  rename News _ _ _ _ => N3
  rename_i _ _ k9 M9
  refine compAt_pure (fun _ => true) (fun i o y => ∀ is, A[i]? = some is → RowIn o y (ratRow is)) trivial (M9 _) k9 ?hsz (binds_name rfl rfl) ?tst ?elt ?fin
  case hsz => rw [List.size_toArray, e1, SA.len]; exact Nat.le_trans (by omega) (by decide : 8 ≤ sizeLine)
  case tst =>
    intro i h tk C m E' _ _ _ _ _
    exact wpAny_tests_nil ⟨rfl, h, tk, rfl, HLe.refl _⟩
  case elt =>
    rintro i h3 tk3 C mC E' hi - ⟨v, ⟨_, hv⟩, mx⟩ hn' hC hk
    obtain ⟨oC, nC, F4, N4⟩ := elt_ground F3 N3 k9 hk hn' hC
    rw [List.getElem?_toArray] at hv
    have il : i < A.length := by rw [List.size_toArray, e1] at hi; exact hi
    obtain ⟨Dr, ws, rfl, lr, ar⟩ := a.2 i v _ hv (List.getElem?_eq_getElem il)
    have el : (A[i]).length = n := SA.row _ (List.getElem_mem il)
    clear F3 N3 k9 M9 hk
    k_steps
    rename Fr _ _ _ _ => F5
    rename News _ _ _ _ => N5
    rename_i _ _ k10 M10
    refine compAt_pure (fun _ => true) (fun j o y => ∀ x, (A[i])[j]? = some x → RRat (x : Rat) o y) trivial (M10 _) k10 ?hsz2 (binds_name rfl rfl) ?tst2 ?elt2 ?fin2
    case hsz2 => rw [List.size_toArray, ar.1, el]; exact Nat.le_trans (by omega) (by decide : 8 ≤ sizeLine)
    case tst2 =>
      intro i h tk C m E' _ _ _ _ _
      exact wpAny_tests_nil ⟨rfl, h, tk, rfl, HLe.refl _⟩
    case elt2 =>
      rintro j h5 tk5 C2 mC2 E2 hj - ⟨v2, ⟨_, hv2⟩, mx2⟩ hn2 hC2 hk2
      obtain ⟨oC2, nC2, F6, N6⟩ := elt_ground F5 N5 k10 hk2 hn2 hC2
      rw [List.getElem?_toArray] at hv2
      have jl : j < (A[i]).length := by rw [List.size_toArray, ar.1] at hj; exact hj
      obtain ⟨t2, rfl⟩ := ar.2 j v2 _ hv2 (List.getElem?_eq_getElem jl)
      clear F5 N5 k10 M10 hk2
      k_steps
      refine Stop9.mk ?_
      refine' tell_use (t_fraction_of _ _ _) ?k1 ?k2 ?k3 ?k4 ?k5 ?kK ?kd ?ku trivial ?_
      (case k1 => first | k_asm | ktn_no "tell: the frames below")
      (case k2 => first | k_asm | ktn_no "tell: the frame")
      (case k3 => first | k_asm | ktn_no "tell: the written part")
      (case k4 => first | k_asm | ktn_no "tell: the ledger")
      (case k5 => first | k_asm | ktn_no "tell: the top's facts")
      (case kK => first | exact rfl | assumption | ktn_no "tell: the caller is no def")
      (case kd => first | ktr_room | ktn_no "tell: the frames' room")
      (case ku => first | ktr_units | ktn_no "tell: the C units")
      rintro r' own' h7 tk7 hR k7 O7 F7 N7
      refine Out.one k7 O7 ?_
      intro x hx
      rw [List.getElem?_eq_getElem jl] at hx
      cases hx
      exact rat_int hR
    case fin2 =>
      intro D5 h5 tk5 ys own hb hA hO
      refine Out.one hb.le hO ?_
      intro is e
      rw [List.getElem?_eq_getElem il] at e
      cases e
      refine acc_row hA (by rw [List.size_toArray, ar.1]; unfold ratRow; rw [List.length_map]) ?_
      intro j o y q eq hR
      obtain ⟨x, ex, rfl⟩ := ratRow_get eq
      exact hR x ex
  case fin =>
    intro D5 h5 tk5 ys own hb hA hO
    refine Out.one (HLe.trans F3.keep hb.le) (Own.old F3.keep hO) (acc_grid hA (by rw [List.size_toArray, e1]; unfold ratGrid; rw [List.length_map]) ?_)
    intro i o y q eq hR
    obtain ⟨r, er, rfl⟩ := ratGrid_get eq
    exact hR r er
end

/- M5 -/
section
/- What the elimination tells: determinants of chosen columns -/

noncomputable def det3 : Nat → (Nat → Nat → Rat) → Rat
  | 1, f => f 0 0
  | 2, f => f 0 0 * f 1 1 - f 0 1 * f 1 0
  | 3, f => f 0 0 * (f 1 1 * f 2 2 - f 1 2 * f 2 1) - f 1 0 * (f 0 1 * f 2 2 - f 0 2 * f 2 1) + f 2 0 * (f 0 1 * f 1 2 - f 0 2 * f 1 1)
  | _, _ => 1

theorem at2_swap {M : Mat} {n c i k r j : Nat} (S : Shape M n c) (hi : i < n) (hk : k < n) : at2 (swapR M i k) r j = if r = k then at2 M i j else if r = i then at2 M k j else at2 M r j := by
  unfold at2
  rw [swap_row S hi hk]
  split
  · rfl
  · split <;> rfl
theorem at2_scale {M : Mat} {n c i r j : Nat} {p : Rat} (S : Shape M n c) (hi : i < n) : at2 (scaleR M i p) r j = if r = i then at2 M i j / p else at2 M r j := by
  unfold at2 scaleR
  rw [rowAt_set (by rw [S.len]; exact hi)]
  split
  · rename_i e
    rw [List.getD_eq_getElem?_getD, List.getElem?_map, List.getD_eq_getElem?_getD]
    cases (rowAt M i)[j]? with
    | none => show (0 : Rat) = 0 / p; rw [Rat.div_def, Rat.zero_mul]
    | some x => rfl
  · rfl
theorem at2_clr {M : Mat} {n c i o r j : Nat} (S : Shape M n c) (hi : i < n) (ho : o < n) (hj : j < c) : at2 (clr M i o) r j = if o ≠ i ∧ r = o then at2 M o j - at2 M o i * at2 M i j else at2 M r j := by
  have e : at2 (clr M i o) r j = (rowAt (clr M i o) r).getD j 0 := rfl
  rw [e, clr_row (by rw [S.len]; exact ho)]
  split
  · unfold lessR
    rw [List.getD_eq_getElem?_getD, List.getElem?_zipWith, at2_get (by rw [S.rowLen ho]; exact hj), at2_get (by rw [S.rowLen hi]; exact hj)]
    rfl
  · rfl
theorem at2_clearTo {M : Mat} {n c i j : Nat} (S : Shape M n c) (hi : i < n) (hj : j < c) (hic : i < c) : ∀ k, k ≤ n → ∀ r, at2 (clearTo M i k) r j = if r < k ∧ r ≠ i then at2 M r j - at2 M r i * at2 M i j else at2 M r j
  | 0, _, r => by rw [if_neg (by omega)]; rfl
  | k + 1, h, r => by
    have S' := Shape.clearTo S hi k (by omega)
    show at2 (clr (clearTo M i k) i k) r j = _
    rw [at2_clr S' hi (by omega) hj]
    have ih := at2_clearTo S hi hj hic k (by omega)
    have ih2 := at2_clearTo S hi hic hic k (by omega)
    rw [ih, ih, ih2, ih]
    by_cases e : k = i
    · subst e
      by_cases q : r = k
      · subst q; simp
      · simp [q]; have : (r < k ∧ r ≠ k) ↔ (r < k + 1 ∧ r ≠ k) := by omega
        split <;> split <;> first | rfl | (exfalso; omega)
    · by_cases q : r = k
      · subst q; simp [e]
      · have h1 : ¬ (k ≠ i ∧ r = k) := by omega
        rw [if_neg h1]
        split <;> split <;> first | rfl | (exfalso; omega)
/-- one step of the elimination, cell by cell -/
theorem at2_step {M : Mat} {n c i k r j : Nat} (S : Shape M n c) (hi : i < n) (hk : k < n) (hr : r < n) (hj : j < c) (hic : i < c) :
    at2 (clearTo (scaleR (swapR M i k) i (at2 (swapR M i k) i i)) i n) r j = if r = i then at2 (swapR M i k) i j / at2 (swapR M i k) i i else at2 (swapR M i k) r j - at2 (swapR M i k) r i * (at2 (swapR M i k) i j / at2 (swapR M i k) i i) := by
  have S1 := S.swap hi hk
  rw [at2_clearTo (S1.scale hi) hi hj hic n (Nat.le_refl _), at2_scale S1 hi, at2_scale S1 hi, at2_scale S1 hi]
  by_cases e : r = i
  · subst e; simp
  · simp [e, hr]
theorem one3 {n : Nat} (h0 : 0 < n) (hn : n ≤ 3) : n = 1 ∨ n = 2 ∨ n = 3 := by
  cases Nat.le_iff_lt_or_eq.mp hn with
  | inr e => exact .inr (.inr e)
  | inl h => cases Nat.lt_succ_iff_lt_or_eq.mp h with
    | inr e => exact .inr (.inl e)
    | inl h => exact .inl (Nat.le_antisymm (Nat.le_of_lt_succ h) h0)
theorem lt1 {i : Nat} (h : i < 1) : i = 0 := Nat.lt_one_iff.mp h
theorem lt2 {i : Nat} (h : i < 2) : i = 0 ∨ i = 1 := (Nat.lt_succ_iff_lt_or_eq.mp h).imp lt1 id
theorem lt3 {i : Nat} (h : i < 3) : i = 0 ∨ i = 1 ∨ i = 2 := (Nat.lt_succ_iff_lt_or_eq.mp h).elim (fun h => (lt2 h).imp id .inl) fun e => .inr (.inr e)
theorem det_congr {n : Nat} {f g : Nat → Nat → Rat} (h : ∀ r j, r < n → j < n → f r j = g r j) : det3 n f = det3 n g := by
  match n with
  | 0 => rfl
  | 1 => simp [det3, h]
  | 2 => simp [det3, h]
  | 3 => simp [det3, h]
  | _ + 4 => rfl
theorem det_elim {n i : Nat} {s : Nat → Nat → Rat} {p : Nat → Rat} (hn : n ≤ 3) (hi : i < n) (h0 : p i ≠ 0) :
    det3 n (fun r j => if r = i then s i j / p i else s r j - p r * (s i j / p i)) * p i = det3 n s := by
  rcases one3 (Nat.lt_of_le_of_lt (Nat.zero_le _) hi) hn with rfl | rfl | rfl
  · cases lt1 hi; (simp [det3] <;> grind)
  · rcases lt2 hi with rfl | rfl <;> (simp [det3] <;> grind)
  · rcases lt3 hi with rfl | rfl | rfl <;> (simp [det3] <;> grind)
theorem det_swap {n i k : Nat} {s : Nat → Nat → Rat} (hn : n ≤ 3) (hi : i < n) (hk : k < n) :
    det3 n (fun r j => if r = k then s i j else if r = i then s k j else s r j) = (if k = i then 1 else -1) * det3 n s := by
  rcases one3 (Nat.lt_of_le_of_lt (Nat.zero_le _) hi) hn with rfl | rfl | rfl
  · cases lt1 hi; cases lt1 hk; simp [det3] <;> grind
  · rcases lt2 hi with rfl | rfl <;> rcases lt2 hk with rfl | rfl <;> (simp [det3] <;> grind)
  · rcases lt3 hi with rfl | rfl | rfl <;> rcases lt3 hk with rfl | rfl | rfl <;> (simp [det3] <;> grind)
/-- the determinant of the columns c 0, c 1, .. of M -/
noncomputable def detC (n : Nat) (M : Mat) (c : Nat → Nat) : Rat := det3 n fun r j => at2 M r (c j)
theorem step_det {M : Mat} {n w i k : Nat} {t : Rat} {c : Nat → Nat} (hn : n ≤ 3) (S : Shape M n w) (hi : i < n) (hk : k < n) (hw : n ≤ w) (hc : ∀ j, j < n → c j < w) (h0 : at2 M k i ≠ 0) :
    ((if k = i then t else -t) * at2 (swapR M i k) i i) * detC n (clearTo (scaleR (swapR M i k) i (at2 (swapR M i k) i i)) i n) c = t * detC n M c := by
  have hp : at2 (swapR M i k) i i ≠ 0 := by rw [swap_pivot S hi hk]; exact h0
  have e1 : detC n (clearTo (scaleR (swapR M i k) i (at2 (swapR M i k) i i)) i n) c * at2 (swapR M i k) i i = detC n (swapR M i k) c := by
    unfold detC
    rw [← det_elim (s := fun r j => at2 (swapR M i k) r (c j)) (p := fun r => at2 (swapR M i k) r i) hn hi hp]
    rw [det_congr fun r j hr hj => at2_step S hi hk hr (hc j hj) (by omega)]
  have e2 : detC n (swapR M i k) c = (if k = i then 1 else -1) * detC n M c := by
    unfold detC
    rw [← det_swap (s := fun r j => at2 M r (c j)) hn hi hk]
    rw [det_congr fun r j hr hj => at2_swap S hi hk]
  rw [e2] at e1
  split <;> rename_i e <;> simp only [e, if_true, if_false] at e1 <;> grind
theorem reach_shape {M0 M : Mat} {n c i : Nat} {t : Rat} (S : Shape M0 n c) (R : Reach M0 n i M t) : Shape M n c := by
  induction R with
  | start => exact S
  | @step i M t k _ _ hk hi h0 ih => exact ((ih.swap hi hk).scale hi).clearTo hi n (Nat.le_refl _)
theorem reach_det {M0 M : Mat} {n w i : Nat} {t : Rat} {c : Nat → Nat} (hn : n ≤ 3) (S : Shape M0 n w) (hw : n ≤ w) (hc : ∀ j, j < n → c j < w) (R : Reach M0 n i M t) : t * detC n M c = detC n M0 c := by
  induction R with
  | start => rw [Rat.one_mul]
  | @step i M t k R' _ hk hi h0 ih =>
    rw [step_det hn (reach_shape S R') hi hk hw hc h0]
    exact ih
theorem reach_unit {M0 M : Mat} {n w i : Nat} {t : Rat} (S : Shape M0 n w) (hw : n ≤ w) (R : Reach M0 n i M t) : ∀ r j, r < n → j < i → j < n → at2 M r j = if r = j then 1 else 0 := by
  induction R with
  | start => intro r j _ h; omega
  | @step i M t k R' hik hk hi h0 ih =>
    intro r j hr hj hjn
    have SM := reach_shape S R'
    have hp : at2 (swapR M i k) i i ≠ 0 := by rw [swap_pivot SM hi hk]; exact h0
    rw [at2_step SM hi hk hr (by omega) (by omega)]
    by_cases e : j = i
    · subst e
      by_cases q : r = j
      · subst q; simp; grind
      · simp [q]; grind
    · have z : ∀ r', r' < n → at2 (swapR M i k) r' j = if r' = j then 1 else 0 := by
        intro r' hr'
        rw [at2_swap SM hi hk]
        have a := ih i j hi (by omega) hjn
        have b := ih k j hk (by omega) hjn
        rw [if_neg (by omega)] at a b
        split
        · rw [a, if_neg (by omega)]
        · split
          · rw [b, if_neg (by omega)]
          · exact ih r' j hr' (by omega) hjn
      rw [z i hi, if_neg (show ¬ i = j by omega), z r hr]
      by_cases q : r = i
      · subst q; simp [Ne.symm e]; grind
      · simp [q]; grind
theorem det_early {M : Mat} {n i : Nat} (hn : n ≤ 3) (hi : i < n) (h1 : ∀ r j, r < n → j < i → j < n → at2 M r j = if r = j then 1 else 0) (h2 : ∀ k, i ≤ k → k < n → at2 M k i = 0) : detC n M id = 0 := by
  rcases one3 (Nat.lt_of_le_of_lt (Nat.zero_le _) hi) hn with rfl | rfl | rfl
  · cases lt1 hi; (simp [detC, det3, h2] <;> grind)
  · rcases lt2 hi with rfl | rfl <;> (simp [detC, det3, h2, h1] <;> grind)
  · rcases lt3 hi with rfl | rfl | rfl <;> (simp [detC, det3, h2, h1] <;> grind)
theorem det_full {M : Mat} {n : Nat} (hn : n ≤ 3) (h1 : ∀ r j, r < n → j < n → j < n → at2 M r j = if r = j then 1 else 0) : detC n M id = 1 := by
  cases Nat.eq_zero_or_pos n with
  | inl e => subst e; rfl
  | inr h0 => rcases one3 h0 hn with rfl | rfl | rfl <;> (simp [detC, det3, h1] <;> grind)
/-- what the elimination tells of a matrix -/
noncomputable def Told (M0 : Mat) (n : Nat) (t : Rat) : Prop := (∃ M, Reach M0 n n M t) ∨ (∃ i M t', i < n ∧ Reach M0 n i M t' ∧ (∀ k, i ≤ k → k < n → at2 M k i = 0) ∧ t = 0)
theorem told_det {M0 : Mat} {n w : Nat} {t : Rat} (hn : n ≤ 3) (S : Shape M0 n w) (hw : n ≤ w) (T : Told M0 n t) : t = detC n M0 id := by
  rcases T with ⟨M, R⟩ | ⟨i, M, t', hi, R, hz, rfl⟩
  · have := reach_det (c := id) hn S hw (fun j hj => by show j < w; omega) R
    rw [det_full hn (reach_unit S hw R)] at this
    grind
  · have := reach_det (c := id) hn S hw (fun j hj => by show j < w; omega) R
    rw [det_early hn hi (reach_unit S hw R) hz] at this
    grind
/-- Cramer: the columns 0 .. with the ith exchanged for column n -/
noncomputable def colTo (i n j : Nat) : Nat := if j = i then n else j
theorem det_cramer {M : Mat} {n i : Nat} (hn : n ≤ 3) (hi : i < n) (h1 : ∀ r j, r < n → j < n → j < n → at2 M r j = if r = j then 1 else 0) : detC n M (colTo i n) = at2 M i n := by
  rcases one3 (Nat.lt_of_le_of_lt (Nat.zero_le _) hi) hn with rfl | rfl | rfl
  · cases lt1 hi; (simp [detC, det3, colTo] <;> grind)
  · rcases lt2 hi with rfl | rfl <;> (simp [detC, det3, h1, colTo] <;> grind)
  · rcases lt3 hi with rfl | rfl | rfl <;> (simp [detC, det3, h1, colTo] <;> grind)
theorem cramer {M0 M : Mat} {n w i : Nat} {t : Rat} (hn : n ≤ 3) (hi : i < n) (S : Shape M0 n w) (hw : n < w) (R : Reach M0 n n M t) : at2 M i n * detC n M0 id = detC n M0 (colTo i n) := by
  have e1 := reach_det (c := colTo i n) hn S (by omega) (fun j hj => by unfold colTo; split <;> omega) R
  have e2 := told_det hn S (by omega) (.inl ⟨M, R⟩)
  rw [det_cramer hn hi (reach_unit S (by omega) R)] at e1
  grind
end

/- D11 -/
section
local macro_rules | `(tactic| walk_at "my none") => `(tactic| skip)
theorem fill_D11 : ∀ c f k vs P R, Tell c f k vs P R → True := by
  w_top off
  unfold Tell
  k_fill
  intros
  trivial

local macro_rules | `(tactic| walk_at "call ref") => `(tactic| (k_here; with_reducible refine stop_call ?_))
theorem ratGrid_shape {A : List (List Int)} {n : Nat} (S : ZSq A n) : Shape (ratGrid A) n n := ⟨by unfold ratGrid; rw [List.length_map]; exact S.len, fun r hr => by
  unfold ratGrid at hr
  obtain ⟨x, hx, rfl⟩ := List.mem_map.mp hr
  unfold ratRow
  rw [List.length_map]
  exact S.row x hx⟩
noncomputable def ZFit (A : List (List Int)) : Prop := ∀ r ∈ A, ∀ a ∈ r, a.natAbs < 128
theorem ratGrid_fit {A : List (List Int)} (h : ZFit A) : MatFit 8 (ratGrid A) := fun r hr q hq => by
  unfold ratGrid at hr
  obtain ⟨x, hx, rfl⟩ := List.mem_map.mp hr
  unfold ratRow at hq
  obtain ⟨a, ha, rfl⟩ := List.mem_map.mp hq
  refine fit_int (by decide) ?_
  have := h x hx a ha
  exact bits_of_natAbs_le (a := a) (b := 127) (by show a.natAbs ≤ 127; omega) (by decide)

theorem t_det (c : Cx) (v : Value) (A : List (List Int)) (n : Nat) (d : Int) (t : Tok) (SA : ZSq A n) (h0 : 0 < n) (hn : n ≤ 3) (hf : ZFit A) (H : ∀ t, Told (ratGrid A) n t → t = (d : Rat)) (hd9 : d.natAbs < 1000000) :
    Tell c 160 10 [v, .int 40 t] (fun h => ZGridAt h v A) (RDec d) := by
  refine tell_at ?_
  rintro g₀ ⟨D, vs, rfl, l, a⟩
  refine' tell_plain (binds := [(Str.ofString "grid", .ref D), (Str.ofString "digits", .int 40 t)]) ?ho ?hcd ?hbind ?hloc ?hco ?hgen ?hk ?hcell ?_
  (case ho => k_is)
  (case hcd => k_is)
  (case hbind => (intro _; exact BindsTo.of_eq rfl))
  (case hloc => exact locs rfl)
  (case hco => exact rfl)
  (case hgen => exact rfl)
  (case hk => exact rfl)
  (case hcell => decide)
  rintro dp un gd cn cs a' ccd cl outer base g L L' h₁ s tk hd hu hke B' F' X' N' T' rfl
  k_with_none
  have gA : ZGridAt g (.ref D) A := ⟨D, vs, rfl, l, a⟩
  (try dsimp only)
  k_steps
  refine Stop9.mk ?_
  rename Fr _ _ _ _ => F1
  rename News _ _ _ _ => N1
  refine' tell_use (t_square _ (.ref D) A n SA h0 hn) ?k1 ?k2 ?k3 ?k4 ?k5 ?kK ?kd ?ku ?kP ?_
  case kP => exact gA.mono F1.keep
  (case k1 => first | k_asm | ktn_no "tell: the frames below")
  (case k2 => first | k_asm | ktn_no "tell: the frame")
  (case k3 => first | k_asm | ktn_no "tell: the written part")
  (case k4 => first | k_asm | ktn_no "tell: the ledger")
  (case k5 => first | k_asm | ktn_no "tell: the top's facts")
  (case kK => first | exact rfl | assumption | ktn_no "tell: the caller is no def")
  (case kd => first | ktr_room | ktn_no "tell: the frames' room")
  (case ku => first | ktr_units | ktn_no "tell: the C units")
  rintro r1 own1 h2 tk2 g1 k2 O2 F2 N2
  (try clear F1); (try clear N1)
  k_steps
  refine Stop9.mk ?_
  rename Fr _ _ _ _ => F3
  rename News _ _ _ _ => N3
  refine' tell_use (t_solved _ r1 (ratGrid A) n n hn (by omega) (Nat.le_refl _) (ratGrid_shape SA) (ratGrid_fit hf)) ?k1 ?k2 ?k3 ?k4 ?k5 ?kK ?kd ?ku ?kP ?_
  case kP => exact g1.at fun p hp => (N3 p (List.mem_append_left _ hp)).1
  (case k1 => first | k_asm | ktn_no "tell: the frames below")
  (case k2 => first | k_asm | ktn_no "tell: the frame")
  (case k3 => first | k_asm | ktn_no "tell: the written part")
  (case k4 => first | k_asm | ktn_no "tell: the ledger")
  (case k5 => first | k_asm | ktn_no "tell: the top's facts")
  (case kK => first | exact rfl | assumption | ktn_no "tell: the caller is no def")
  (case kd => first | ktr_room | ktn_no "tell: the frames' room")
  (case ku => first | ktr_units | ktn_no "tell: the C units")
  rintro r2 own2 h4 tk4 ⟨D2, c2, v1, v2, q, rfl, m2, m3, hT⟩ k4 O4 F4 N4
  have eq : q = (d : Rat) := H q (by
    rcases hT with ⟨M, R, -⟩ | h
    · exact .inl ⟨M, R⟩
    · exact .inr h)
  subst eq
  have p2 : PairIn own2 v2 d 1 := by
    unfold RatIn at m3
    rwa [Rat.num_intCast, Rat.den_intCast] at m3
  have x2 : IsTup h4 D2 [v1, v2].toArray := ⟨_, (N4 _ (List.mem_append_left _ m2)).1, rfl, c2, rfl⟩
  (try clear F3); (try clear N3)
  k_steps
  refine Stop9.mk ?_
  rename Fr _ _ _ _ => F5
  rename News _ _ _ _ => N5
  refine' tell_use (t_decimal' _ v2 d _ hd9) ?k1 ?k2 ?k3 ?k4 ?k5 ?kK ?kd ?ku ?kP ?_
  case kP => exact p2.at fun p hp => (N5 p (List.mem_append_left _ hp)).1
  (case k1 => first | k_asm | ktn_no "tell: the frames below")
  (case k2 => first | k_asm | ktn_no "tell: the frame")
  (case k3 => first | k_asm | ktn_no "tell: the written part")
  (case k4 => first | k_asm | ktn_no "tell: the ledger")
  (case k5 => first | k_asm | ktn_no "tell: the top's facts")
  (case kK => first | exact rfl | assumption | ktn_no "tell: the caller is no def")
  (case kd => first | ktr_room | ktn_no "tell: the frames' room")
  (case ku => first | ktr_units | ktn_no "tell: the C units")
  exact fun r own h' tk' hr k O _ _ => Out.pass F5 k O hr

theorem t_told (c : Cx) (v : Value) (A : List (List Int)) (n : Nat) (d : Int) (SA : ZSq A n) (h0 : 0 < n) (hn : n ≤ 3) (hf : ZFit A) (H : ∀ t, Told (ratGrid A) n t → t = (d : Rat)) (hd9 : d.natAbs < 1000000) :
    Tell c 179 11 [v] (fun h => ZGridAt h v A) (RInt d) := by
  refine tell_at ?_
  rintro g₀ ⟨D, vs, rfl, l, a⟩
  refine' tell_plain (binds := [(Str.ofString "grid", .ref D)]) ?ho ?hcd ?hbind ?hloc ?hco ?hgen ?hk ?hcell ?_
  (case ho => k_is)
  (case hcd => k_is)
  (case hbind => (intro _; exact BindsTo.of_eq rfl))
  (case hloc => exact locs rfl)
  (case hco => exact rfl)
  (case hgen => exact rfl)
  (case hk => exact rfl)
  (case hcell => decide)
  rintro dp un gd cn cs a' ccd cl outer base g L L' h₁ s tk hd hu hke B' F' X' N' T' rfl
  k_with_none
  have gA : ZGridAt g (.ref D) A := ⟨D, vs, rfl, l, a⟩
  (try dsimp only)
  k_steps
  refine Stop9.mk ?_
  rename Fr _ _ _ _ => F1
  rename News _ _ _ _ => N1
  refine' tell_use (t_det _ (.ref D) A n d _ SA h0 hn hf H hd9) ?k1 ?k2 ?k3 ?k4 ?k5 ?kK ?kd ?ku ?kP ?_
  case kP => exact gA.mono F1.keep
  (case k1 => first | k_asm | ktn_no "tell: the frames below")
  (case k2 => first | k_asm | ktn_no "tell: the frame")
  (case k3 => first | k_asm | ktn_no "tell: the written part")
  (case k4 => first | k_asm | ktn_no "tell: the ledger")
  (case k5 => first | k_asm | ktn_no "tell: the top's facts")
  (case kK => first | exact rfl | assumption | ktn_no "tell: the caller is no def")
  (case kd => first | ktr_room | ktn_no "tell: the frames' room")
  (case ku => first | ktr_units | ktn_no "tell: the C units")
  rintro r1 own1 h2 tk2 ⟨x, e, he0, he6, hx, D2, t2, u2, c2, rfl, rfl⟩ k2 O2 F2 N2
  rw [List.singleton_append] at N2
  have hm : IntMulOk x (10 ^ e.toNat) := IntMulOk.of_right (by
    have : e = 0 ∨ e = 1 ∨ e = 2 ∨ e = 3 ∨ e = 4 ∨ e = 5 := by omega
    rcases this with rfl | rfl | rfl | rfl | rfl | rfl <;> decide)
  (try clear F1); (try clear N1)
  k_steps
  exact Out.intro [] (by assumption) (by assumption) (fun _ h => nomatch h) ⟨rfl, _, congrArg (Value.int · _) hx⟩
end

/- B10 -/
section
/- A for over any source by an invariant -/

noncomputable def TurnE (h₀ : Heap) (L : Addr) (own : Led) (wr : List Addr) (J : (Str → Option Value) → Led → Prop) (s s₂ : Shared) : Prop :=
  ∃ h' tk m₂ news₂, s₂ = { s with heap := h', toks := tk } ∧ Fr h₀ L h' m₂ ∧ News h₀ L h' (own ++ news₂) ∧ (∀ p ∈ news₂, p.1 ∉ wr) ∧ J m₂ news₂
noncomputable def TurnP (h₀ : Heap) (L : Addr) (own : Led) (wr : List Addr) (J : (Str → Option Value) → Led → Prop) (Q : Flow → Shared → Prop) (s : Shared) (f : Flow) (s₂ : Shared) : Prop :=
  match f with
  | .ret v => Q (.ret v) s₂
  | .brk => Q .next s₂
  | _ => TurnE h₀ L own wr J s s₂

theorem stop_turn {M : Model} {A : Around} {E : Value → Shared → Prop} {s s' : Shared} {env : Env} {h₀ : Heap} {L : Addr} {own : Led} {wr : List Addr} {J : (Str → Option Value) → Led → Prop} {Q : Flow → Shared → Prop}
    (h : Stop9 (wpAny M A (execs [] env) (TurnP h₀ L own wr J Q s') E s)) : wpAny M A (execs [] env) (TurnP h₀ L own wr J Q s') E s := h
section
variable {prog : Program} {w : World} {A : Around} {E : Value → Shared → Prop} {s : Shared} {env : Env} {h₀ : Heap} {target : Expr} {body : List Stmt} {Q : Flow → Shared → Prop}
theorem turns9 {h₂ : Heap} {tk₂ : Nat} {I : Addr} {n : Nat} {P : Nat → Value → Heap → Prop} {m₀ : Str → Option Value} {news : Led} (Rd : Ready prog w A target s.heap h₂ I n P) (hk : HLe s.heap h₂) (F : Fr h₀ env.locals s.heap m₀) (N : News h₀ env.locals s.heap news)
    (J : Nat → (Str → Option Value) → Led → Prop) (J0 : J 0 m₀ news)
    (turn : ∀ i v m₁ news₁ h₁ tk₁ own wr, i < n → P i v h₁ → J i m₁ news₁ → (∀ p ∈ news₁, p.1 ∉ wr) → (∀ b ∈ wr, ∃ o, (b, o) ∈ own) → (∀ p ∈ own, s.heap.get? p.1 = none ∨ ∃ o its k, s.heap.get? p.1 = some o ∧ o.data = .seq its k) → Fr h₀ env.locals h₁ m₁ → News h₀ env.locals h₁ (own ++ news₁) →
      wpAny (model prog w) A (assign target env v) (fun _ s₃ => wpAny (model prog w) A (execs body env) (TurnP h₀ env.locals own wr (J (i + 1)) Q { s with heap := h₁, toks := tk₁ }) E s₃) E { s with heap := h₁, toks := tk₁ })
    (done : ∀ m news h tk, J n m news → Fr h₀ env.locals h m → News h₀ env.locals h news → Q .next { s with heap := h, toks := tk }) :
    TurnsAt prog w A h₀ env target body Q E (.ref I) { s with heap := h₂, toks := tk₂ } := by
  obtain ⟨fp, wr, Md, St, S, st, hfp, hwr, hsrc⟩ := Rd
  have base : ∀ b, s.heap.get? b = none → h₀.get? b = none := fun b e => by
    cases q : h₀.get? b with
    | none => rfl
    | some o => rw [F.keep _ _ q] at e; cases e
  refine ⟨I, fp, wr, n, P, Md, St, m₀, news, J, rfl, S.turns, fun hL => ?_, fun b hb => base b (hwr b hb), fun p hp hw => ?_, st, F.keeps hk, N.grown hk, J0, ?_, ?_⟩
  · obtain ⟨o, es, ep, e, d, _⟩ := F.ns
    rcases hsrc _ hL with q | ⟨o', its, k, q, d'⟩
    · rw [q] at e; cases e
    · rw [q] at e; cases e; rw [d'] at d; cases d
  · have := (N p hp).1
    rw [hwr _ hw] at this
    cases this
  · intro i v m₁ news₁ h₁ tk₁ own hi hP hJ hoff hown _ hall hst F₁ N₁
    refine wpAny_mono (turn i v m₁ news₁ h₁ tk₁ own wr hi hP hJ hoff (fun b hb => ?_) (fun p hp => hsrc _ (hown p hp)) F₁ N₁) (fun _ s₃ h₃ => wpAny_mono h₃ (fun f s₄ h₄ => ?_) fun _ _ e => e) fun _ _ e => e
    · obtain ⟨o, e⟩ := S.there _ _ hst b hb
      exact ⟨o, hall b (S.turns.sub b hb) (base b (hwr b hb)) o e⟩
    · have fin : TurnE h₀ env.locals own wr (J (i + 1)) { s with heap := h₁, toks := tk₁ } s₄ → LoopStepU h₀ env.locals wr own (J (i + 1)) { s with heap := h₁, toks := tk₁ } .next s₄ := by
        rintro ⟨h', tk, m₂, news₂, e, F', N', o, j⟩
        exact ⟨rfl, h', tk, m₂, news₂, e, F', N', o, j⟩
      cases f with
      | ret v => exact .ret h₄
      | brk => exact .brk h₄
      | next => exact .next (fin h₄)
      | cont => exact .cont (fin h₄)
  · intro h' tk m' news' F' N' _ hJ
    exact done m' news' h' tk hJ F' N'
end
end

/- B11 -/
section
/- New lists and tuples, slices: what is kept is told -/

section
variable {prog : Program} {w : World} {A : Around} {E : Value → Shared → Prop} {s : Shared} {h₀ : Heap} {L : Addr} {m : Str → Option Value} {news : Led} {Q : Value → Shared → Prop}

theorem own_push {h : Heap} {o : Obj} (f : o.isFreed = false) : Own h (h.push o) [(h.objs.size, o)] := fun p hp => by
  rw [List.mem_singleton.mp hp]
  exact ⟨Heap.get?_push_size _ f, none_of_size (Nat.le_refl _)⟩
theorem tup9 {vs : List Value} (F : Fr h₀ L s.heap m) (N : News h₀ L s.heap news)
    (h : ∀ D h', HLe s.heap h' → Own s.heap h' [(D, tupObj vs 0)] → Fr h₀ L h' m → News h₀ L h' ((D, tupObj vs 0) :: news) → Q (.ref D) { s with heap := h' }) (hsz : vs.length ≤ sizeLine) : wpAny (model prog w) A (newTuple vs) Q E s :=
  wpAny_newObj_type (h _ _ (fun _ _ e => Heap.get?_push_of_some _ e) (own_push rfl) (F.push _) (N.push F _)) (by show vs.toArray.size ≤ sizeLine; rw [List.size_toArray]; exact hsz)
theorem lst9n {vs : List Value} (F : Fr h₀ L s.heap m) (N : News h₀ L s.heap news)
    (h : ∀ D h', HLe s.heap h' → Own s.heap h' [(D, lstObj vs 0)] → Fr h₀ L h' m → News h₀ L h' ((D, lstObj vs 0) :: news) → Q (.ref D) { s with heap := h' }) (hsz : vs.length ≤ sizeLine) : wpAny (model prog w) A (newList vs) Q E s :=
  wpAny_newObj_type (h _ _ (fun _ _ e => Heap.get?_push_of_some _ e) (own_push rfl) (F.push _) (N.push F _)) (by show vs.toArray.size ≤ sizeLine; rw [List.size_toArray]; exact hsz)
theorem slice9 {value slice : Expr} {l : Addr} {vs zs : List Value} {vl vu : Value} {lo hi : Option Int} (F : Fr h₀ L s.heap m) (N : News h₀ L s.heap news) (hl : s.heap.IsList l vs.toArray) (pl : IsPart vl lo) (pu : IsPart vu hi) (e : kms_pick vs lo hi = zs)
    (h : ∀ D h', HLe s.heap h' → Own s.heap h' [(D, lstObj zs 0)] → Fr h₀ L h' m → News h₀ L h' ((D, lstObj zs 0) :: news) → Q (.ref D) { s with heap := h' })
    (hs : subscripted slice false (.ref l) (.ref s.heap.objs.size) = operate [.ref s.heap.objs.size, .ref l] (getItem (.ref l) (.ref s.heap.objs.size))) (ht : ∀ r, letTemporaryGo value (.ref l) r = pure ()) (hz : vs.length ≤ sizeLine) :
    wpAny (model prog w) A (subscriptTail value slice (.ref l) (.ref s.heap.objs.size)) Q E { s with heap := s.heap.push { cls := .type "slice", data := .fields #[vl, vu, .none] } } := by
  refine slice_listK hl pl pu ?_ hs ht (by rw [List.size_toArray]; exact hz)
  have e' : slicePick vs.toArray lo hi none = zs.toArray := by rw [kms_pick_eq, ← e]
  rw [e']
  have k : HLe s.heap ((s.heap.push { cls := .type "slice", data := .fields #[vl, vu, .none] }).push { cls := .type "list", data := .seq zs.toArray }) := fun b o x => Heap.get?_push_of_some _ (Heap.get?_push_of_some _ x)
  have O : Own s.heap ((s.heap.push { cls := .type "slice", data := .fields #[vl, vu, .none] }).push { cls := .type "list", data := .seq zs.toArray }) [(s.heap.objs.size + 1, lstObj zs 0)] := fun p hp => by
    rw [List.mem_singleton.mp hp]
    refine ⟨?_, none_of_size (Nat.le_succ _)⟩
    have := Heap.get?_push_size (s.heap.push { cls := .type "slice", data := .fields #[vl, vu, .none] }) (o := { cls := .type "list", data := .seq zs.toArray }) rfl
    rw [Heap.size_push] at this
    exact this
  exact h _ _ k O (Fr.grow F k) (News.grow F N k O)
end
theorem pick_from (vs : List Value) (x : Nat) : kms_pick vs (some (x : Int)) none = vs.drop x := by
  unfold kms_pick kms_lo kms_hi
  simp only [Int.toNat_natCast, if_neg (show ¬ ((x : Int) < 0) by omega)]
  by_cases h : x ≤ vs.length
  · rw [Nat.min_eq_left h]
    exact List.take_of_length_le (by rw [List.length_drop]; exact Nat.le_refl _)
  · rw [Nat.min_eq_right (by omega), Nat.sub_self, List.take_zero, List.drop_eq_nil_of_le (by omega)]
theorem pick_upto (vs : List Value) (y : Nat) : kms_pick vs none (some (y : Int)) = vs.take y := by
  unfold kms_pick kms_lo kms_hi
  simp only [Int.toNat_natCast, if_neg (show ¬ ((y : Int) < 0) by omega), List.drop_zero, Nat.sub_zero]
  by_cases h : y ≤ vs.length
  · rw [Nat.min_eq_left h]
  · rw [Nat.min_eq_right (by omega), List.take_of_length_le (Nat.le_refl _), List.take_of_length_le (by omega)]
end

/- D12 -/
section
theorem fill_D12 : ∀ c f k vs P R, Tell c f k vs P R → True := by
  w_top off
  unfold Tell
  k_fill
  intros
  trivial

local macro_rules | `(tactic| walk_at "call ref") => `(tactic| (k_here; with_reducible refine stop_call ?_))
local macro_rules | `(tactic| walk_at "storeName") => `(tactic| (k_here; with_reducible refine stop_name (Str.ofString "at") ?_))
local macro_rules | `(tactic| walk_at "exec For Tuple Call cons nil") => `(tactic| (k_here; (rename Fr _ _ _ _ => lF'); (with_unfolding_all refine' For_turns lF' ?_); k_whole))
local macro_rules | `(tactic| walk_at "pyIter ref") => `(tactic| (k_here; (with_reducible refine at_turns ?_); k_dflt (refine made_it (by assumption) rfl ?_)))

local macro_rules | `(tactic| walk_at "compareOp Eq ref ref") => `(tactic| (k_here; (refine Stop9.of ?_)))

theorem News.growBut {h₀ h h' : Heap} {L : Addr} {m : Str → Option Value} {news own : Led} (F : Fr h₀ L h m) (N : News h₀ L h news) (k : HBut [L] h h') (O : Own h h' own) : News h₀ L h' (own ++ news) := by
  intro p hp
  rcases List.mem_append.mp hp with hp | hp
  · have := O p hp
    refine ⟨this.1, fun e => ?_, ?_⟩
    · obtain ⟨oL, _, _, hL, _⟩ := F.ns
      rw [e, hL] at this; cases this.2
    · cases q : h₀.get? p.1 with
      | none => rfl
      | some o => rw [F.keep _ _ q] at this; cases this.2
  · exact ⟨k _ _ (by simpa using (N p hp).2.1) (N p hp).1, (N p hp).2⟩
theorem All2.snoc {α β : Type} {T : α → β → Prop} {xs : List α} {ys : List β} {x : α} {y : β} (h : All2 T xs ys) (t : T x y) : All2 T (xs ++ [x]) (ys ++ [y]) := by
  refine ⟨by rw [List.length_append, List.length_append, h.1]; rfl, fun i a b e f => ?_⟩
  rw [List.getElem?_append] at e f
  rw [h.1] at e
  split at e
  · rename_i hi
    rw [if_pos hi] at f
    exact h.2 i a b e f
  · rename_i hi
    rw [if_neg hi] at f
    have : i - ys.length = 0 := by
      have := (List.getElem?_eq_some_iff.mp e).1
      simp at this
      omega
    rw [this] at e f
    cases e
    cases f
    exact t
theorem acc_filter {R : Nat → Led → Value → Prop} {p : Nat → Bool} {n : Nat} {ys : List Value} {own : Led} (h : Acc R p n ys own) : All2 (fun y j => ∃ o, R j o y ∧ ∀ q ∈ o, q ∈ own) ys ((List.range n).filter p) := by
  induction h with
  | nil => exact ⟨rfl, fun i y j e => by simp at e⟩
  | @take i ys own o y _ hp r ih =>
    rw [List.range_succ, List.filter_append, show [i].filter p = [i] by simp [hp]]
    refine All2.snoc (ih.imp fun y j h => ?_) ⟨o, r, fun q hq => List.mem_append_left _ hq⟩
    obtain ⟨o', r', k⟩ := h
    exact ⟨o', r', fun q hq => List.mem_append_right _ (k q hq)⟩
  | @skip i ys own _ hp ih =>
    rw [List.range_succ, List.filter_append, show [i].filter p = [] by simp [hp], List.append_nil]
    exact ih
theorem cof_eq {A : List (List Int)} {n i : Nat} (hA : A.length = n) (hi : i < n) (hn : n ≤ 3) : cof A i = ((List.range n).filter fun j => decide (j ≠ i)).map fun j => (A.getD j []).drop 1 := by
  match A, n, hA, hn with
  | [], _, rfl, _ => exact absurd hi (Nat.not_lt_zero _)
  | [a], _, rfl, _ => match i, hi with | 0, _ => rfl
  | [a, b], _, rfl, _ => match i, hi with | 0, _ => rfl | 1, _ => rfl
  | [a, b, c], _, rfl, _ => match i, hi with | 0, _ => rfl | 1, _ => rfl | 2, _ => rfl
  | a :: b :: c :: d :: r, _, rfl, h => simp at h
theorem acc_cof {R : Nat → Led → Value → Prop} {A : List (List Int)} {n i : Nat} {ys : List Value} {own : Led} {D : Addr} {c : Nat} (h : Acc R (fun j => decide (j ≠ i)) n ys own) (hA : A.length = n) (hi : i < n) (hn : n ≤ 3)
    (k : ∀ (j : Nat) o y r, A[j]? = some r → R j o y → ZRowIn o y (r.drop 1)) : ZGridIn ((D, lstObj ys c) :: own) (.ref D) (cof A i) := by
  have a := acc_filter h
  refine ⟨D, ys, c, rfl, .head _, by rw [cof_eq hA hi hn, List.length_map]; exact a.1, fun x y r e f => ?_⟩
  rw [cof_eq hA hi hn, List.getElem?_map] at f
  cases q : ((List.range n).filter fun j => decide (j ≠ i))[x]? with
  | none => rw [q] at f; cases f
  | some j =>
    rw [q] at f
    cases f
    obtain ⟨o, ho, s⟩ := a.2 x y j e q
    have hj : j < A.length := by
      have := List.mem_of_getElem? q
      simp at this
      omega
    show ZRowIn _ y (List.drop 1 (A.getD j []))
    rw [List.getD_eq_getElem?_getD, List.getElem?_eq_getElem hj]
    exact (k j o y _ (List.getElem?_eq_getElem hj) ho).mono fun p hp => .tail _ (s p hp)
theorem cof_sq {A : List (List Int)} {n i : Nat} (S : ZSq A (n + 1)) (hi : i < n + 1) : ZSq (cof A i) n := by
  refine ⟨?_, fun r hr => ?_⟩
  · unfold cof
    rw [List.length_map, List.length_eraseIdx_of_lt (by rw [S.len]; exact hi), S.len]
    rfl
  · unfold cof at hr
    obtain ⟨x, hx, rfl⟩ := List.mem_map.mp hr
    rw [List.length_drop, S.row x (List.mem_of_mem_eraseIdx hx)]
    rfl
theorem cof_small {A : List (List Int)} {i b : Nat} (h : ∀ r ∈ A, ∀ a ∈ r, a.natAbs < b) : ∀ r ∈ cof A i, ∀ a ∈ r, a.natAbs < b := by
  intro r hr a ha
  unfold cof at hr
  obtain ⟨x, hx, rfl⟩ := List.mem_map.mp hr
  exact h x (List.mem_of_mem_eraseIdx hx) a (List.mem_of_mem_drop ha)
theorem All2.drop {α β : Type} {T : α → β → Prop} {xs : List α} {ys : List β} (k : Nat) (h : All2 T xs ys) : All2 T (xs.drop k) (ys.drop k) :=
  ⟨by rw [List.length_drop, List.length_drop, h.1], fun i a b e f => by rw [List.getElem?_drop] at e f; exact h.2 _ a b e f⟩

local macro_rules | `(tactic| walk_at "subscriptTail") => `(tactic| (k_here; with_reducible refine stop_item ?_))
local macro_rules | `(tactic| walk_at "subscriptTail Name Slice ref ref") => `(tactic| (k_here; with_reducible refine stop_item ?_))

local macro_rules | `(tactic| walk_at "execs nil") => `(tactic| (k_here; with_reducible refine stop_turn ?_))

theorem t_lawsum (c : Cx) (n : Nat) : ∀ (A : List (List Int)) (v : Value), ZSq A n → (∀ r ∈ A, ∀ a ∈ r, a.natAbs < 10000) → n ≤ 3 → Tell c 172 (2 * n + 1) [v] (fun h => ZGridAt h v A) (RInt (lawSum n A)) := by
  induction n with
  | zero =>
    intro A v SA hA hn
    refine tell_at ?_
    rintro g₀ ⟨D, vs, rfl, l, a⟩
    have e0 : vs = [] := List.eq_nil_of_length_eq_zero (by rw [a.1, SA.len])
    subst e0
    refine' tell_cells (binds := [(Str.ofString "rows", .ref D)]) (mm := fun y => if y = Str.ofString "rows" then some (.ref D) else none)
      (CC := fun L' cells => ∃ o, cells = [(L' + 1, o)] ∧ o.data = .cell none) ?ho ?hcd ?hbind ?hkind ?hnd ?hco ?hgen ?hk ?hmm ?hCC ?_
    (case ho => k_is)
    (case hcd => k_is)
    (case hbind => (intro _; exact BindsTo.of_eq rfl))
    (case hkind => exact rfl)
    (case hnd => decide +kernel)
    (case hco => exact rfl)
    (case hgen => exact rfl)
    (case hk => exact rfl)
    (case hmm => (intro _; exact rfl))
    case hCC => exact fun _ _ Y => CellsAre.one Y
    rintro dp un gd cn cs a' ccd cl outer base g L L' h₁ s tk cells hd hu hke B' F' X' N' ⟨oF, rfl, dF⟩ T' rfl
    k_with_none
    (try dsimp only)
    k_steps
    refine Stop9.mk ?_
    rename Fr _ _ _ _ => F1
    rename News _ _ _ _ => N1
    refine SeqAt.eq_listAt (e := fun _ => true) (items := #[]) (items2 := #[]) (by is_list) (by is_list) rfl (by ktr_units) (fun j h => nomatch h) ?_
    k_steps
    exact Out.intro [] (by assumption) (by assumption) (fun _ h => nomatch h) ⟨rfl, _, rfl⟩
  | succ n ih =>
    intro A v SA hA hn
    refine tell_at ?_
    rintro g₀ ⟨D, vs, rfl, l, a⟩
    refine' tell_cells (binds := [(Str.ofString "rows", .ref D)]) (mm := fun y => if y = Str.ofString "rows" then some (.ref D) else none)
      (CC := fun L' cells => ∃ o, cells = [(L' + 1, o)] ∧ o.data = .cell none) ?ho ?hcd ?hbind ?hkind ?hnd ?hco ?hgen ?hk ?hmm ?hCC ?_
    (case ho => k_is)
    (case hcd => k_is)
    (case hbind => (intro _; exact BindsTo.of_eq rfl))
    (case hkind => exact rfl)
    (case hnd => decide +kernel)
    (case hco => exact rfl)
    (case hgen => exact rfl)
    (case hk => exact rfl)
    (case hmm => (intro _; exact rfl))
    case hCC => exact fun _ _ Y => CellsAre.one Y
    rintro dp un gd cn cs a' ccd cl outer base g L L' h₁ s tk cells hd hu hke B' F' X' N' ⟨oF, rfl, dF⟩ T' rfl
    k_with_none
    have gA : ZGridAt g (.ref D) A := ⟨D, vs, rfl, l, a⟩
    (try dsimp only)
    k_steps
    refine Stop9.mk ?_
    rename Fr _ _ _ _ => F1
    rename News _ _ _ _ => N1
    refine SeqAt.eq_list_lengthsAt (items := vs.toArray) (items2 := #[]) (by is_list) (by is_list) (by rw [List.size_toArray, a.1, SA.len]; rfl) (by ktr_units) ?_
    k_steps
    rename Fr _ _ _ _ => F2
    rename News _ _ _ _ => N2
    rename_i _ _ k9 M9
    have N2' : News g L' _ [(L' + 1, oF)] := nsub N2 (by walk_at "my sub")
    refine turns9 (s := ⟨_, s.gens, s.drawn, tk, s.os⟩) (M9.1 _ _ _) k9 F2 N2' (fun i m news => ∃ oP vP t, news = [(L' + 1, oP)] ∧ oP.data = .cell vP ∧ m (Str.ofString "rows") = some (.ref D) ∧ m (Str.ofString "total") = some (.int (lawTo (lawSum n) A i) t)) ?J0 ?turn ?done
    case J0 => exact ⟨_, _, _, rfl, dF, by with_unfolding_all rfl, by with_unfolding_all rfl⟩
    case done =>
      rintro m news h tk ⟨oP, vP, t, rfl, dP, m1, m2⟩ F3 N3
      clear F2 N2 N2' M9
      k_steps
      refine Out.intro [] F3 N3 (fun _ h => nomatch h) ⟨rfl, t, ?_⟩
      rw [List.size_toArray, a.1, SA.len]
      rfl
    case turn =>
      rintro i v m news h tk own wr hi ⟨T, x, y, rfl, ⟨⟨tx, rfl⟩, hy⟩, hT⟩ ⟨oP, vP, t, rfl, dP, m1, m2⟩ hoff hwr hown F3 N3
      have il : i < A.length := by rw [List.size_toArray, a.1] at hi; exact hi
      rw [List.getElem?_toArray] at hy
      obtain ⟨Dy, ws, rfl, ly, ay⟩ := a.2 i _ _ hy (List.getElem?_eq_getElem il)
      have lA : (A[i]).length = n + 1 := SA.row _ (List.getElem_mem il)
      have q0 : (A[i])[0]? = some (head0 A i) := by
        unfold head0
        simp only [List.getD_eq_getElem?_getD, List.getElem?_eq_getElem il, Option.getD_some]
        rw [List.getElem?_eq_getElem (by omega), Option.getD_some]
      obtain ⟨x0, hx0, tx0, rfl⟩ := ay.get q0
      have hx1 : ws[((0 : Int)).toNat]? = some (.int (head0 A i) tx0) := hx0
      have hx2 : (head0 A i).natAbs < 10000 := hA _ (List.getElem_mem il) _ (List.mem_of_getElem? q0)
      have hx3 : Builtin.Int.intBits (head0 A i) ≤ 64 := bits_of_natAbs_le (b := 9999) (by show _ ≤ 9999; omega) (by decide)
      have hx4 : ∀ b, IntMulOk (head0 A i) b := fun b => IntMulOk.of_left hx3
      have oB := (N2' (L' + 1, oF) (.head _)).1
      have offA : ∀ p ∈ own, p.1 ≠ L' + 1 := fun p hp e => by
        rcases hown p hp with q | ⟨o, its, k, q, d⟩
        · rw [e] at q
          exact absurd (q.symm.trans oB) (by simp)
        · rw [e] at q
          have := q.symm.trans oB
          cases this
          rw [dF] at d
          cases d
      clear F2 N2 N2' k9 M9 hown oB
      k_steps
      refine Stop9.mk ?_
      rename Fr _ _ _ _ => F4
      rename News _ _ _ _ => N4
      (try clear F3); (try clear N3)
      refine storeC9 own F4 N4 (c := L' + 1) (o := oP) rfl (List.mem_append_right _ (.head _)) dP (fun p hp => List.mem_append_left _ hp) offA ?_ rfl rfl
      intro h5 oP' F5 N5 dP'
      (try clear F4); (try clear N4)
      k_steps
      rename Fr _ _ _ _ => F6
      rename News _ _ _ _ => N6
      rename_i _ _ k10 M10
      refine compAt_pure (fun j => decide (j ≠ i)) (fun j o y => ∀ r, A[j]? = some r → ZRowIn o y (r.drop 1)) ⟨(fun h => nomatch h), (fun _ h => nomatch h)⟩ (M10.1 _ _ _) k10 ?hsz (binds_pair rfl rfl rfl rfl (by decide)) ?tst ?elt ?fin
      case hsz => rw [List.size_toArray, a.1, SA.len]; exact Nat.le_trans (by omega) (by decide : 8 ≤ sizeLine)
      case tst =>
        rintro j h tk C mC E' hj ⟨x, y, ⟨⟨tj, rfl⟩, hy'⟩, mx, my⟩ hn' hC hk
        obtain ⟨oC, nC, F7, N7⟩ := elt_ground F6 N6 k10 hk hn' hC
        clear F6 N6 k10 M10
        refine wpAny_tests_one ?_
        k_steps
        · rw [Bool.eq_iff_iff]; simp [Int.natCast_inj]
        · exact HLe.refl _
      case elt =>
        rintro j h tk C mC E' hj hp ⟨x, y, ⟨⟨tj, rfl⟩, hy'⟩, mx, my⟩ hn' hC hk
        obtain ⟨oC, nC, F7, N7⟩ := elt_ground F6 N6 k10 hk hn' hC
        rw [List.getElem?_toArray] at hy'
        have jl : j < A.length := by rw [List.size_toArray, a.1] at hj; exact hj
        obtain ⟨Dr, us, rfl, lr, ar⟩ := a.2 j _ _ hy' (List.getElem?_eq_getElem jl)
        have lB : us.length = n + 1 := by rw [ar.1]; exact SA.row _ (List.getElem_mem jl)
        clear F6 N6 k10 M10
        k_steps
        refine Stop9.mk ?_
        refine slice9 (s := ⟨h, s.gens, s.drawn, _, s.os⟩) F7 N7 (lr.at fun o e => F7.keep _ _ e) (.int 1 _) .none (pick_from us 1) ?_ rfl (fun _ => rfl) (Nat.le_trans (by omega) (by decide : 8 ≤ sizeLine))
        intro D9 h9 k9 O9 _ _
        refine Out.one k9 O9 ?_
        intro r er
        rw [List.getElem?_eq_getElem jl] at er
        cases er
        exact ⟨D9, _, _, rfl, .head _, ar.drop 1⟩
      case fin =>
        intro D5 h7 tk7 ys own2 hb hA2 hO F7
        have N7 := News.growBut F6 N6 hb hO
        have gI : ZGridIn ((D5, lst9 ys) :: own2) (.ref D5) (cof A i) := acc_cof hA2 (by rw [List.size_toArray, a.1]) (by rw [List.size_toArray, a.1]; exact il) (by rw [List.size_toArray, a.1, SA.len]; exact hn) fun j o y r er hR => hR r er
        have gI' := gI.at fun p hp => (N7 p (List.mem_append_left _ hp)).1
        clear F6 N6 hb hO
        k_steps
        refine Stop9.mk ?_
        rename Fr _ _ _ _ => F8
        rename News _ _ _ _ => N8
        refine' tell_use (ih (cof A i) (.ref D5) (cof_sq SA (by rw [← SA.len]; exact il)) (cof_small hA) (by omega)) ?k1 ?k2 ?k3 ?k4 ?k5 ?kK ?kd ?ku ?kP ?_
        case kP => exact gI'
        (case k1 => first | k_asm | ktn_no "tell: the frames below")
        (case k2 => first | k_asm | ktn_no "tell: the frame")
        (case k3 => first | k_asm | ktn_no "tell: the written part")
        (case k4 => first | k_asm | ktn_no "tell: the ledger")
        (case k5 => first | k_asm | ktn_no "tell: the top's facts")
        (case kK => first | exact rfl | assumption | ktn_no "tell: the caller is no def")
        (case kd => first | ktr_room | ktn_no "tell: the frames' room")
        (case ku => first | ktr_units | ktn_no "tell: the C units")
        rintro r own h8 tk8 ⟨rfl, tr, rfl⟩ k8 O8 F9 N9
        clear F8 N8
        have hm1 := IntMulOk.of_right (a := head0 A i * lawSum n (cof A i)) (b := 1) (by decide)
        have hm2 := IntMulOk.of_right (a := head0 A i * lawSum n (cof A i)) (b := -1) (by decide)
        k_steps
        all_goals (refine Stop9.mk (wpAny_execs_nil ?_))
        all_goals (rename Fr _ _ _ _ => F10)
        all_goals (rename News _ _ _ _ => N10)
        all_goals (have hP : ∀ p ∈ [(L' + 1, oP')], p.1 ∉ wr := fun p hp => by rw [List.mem_singleton.mp hp]; exact hoff (L' + 1, oP) (.head _))
        · have e : lawTo (lawSum n) A (i + 1) = lawTo (lawSum n) A i + head0 A i * lawSum n (cof A i) * 1 := by
            have : i % 2 = 0 := by rename (_ : Int) = 0 => z; rw [Int.fmod_eq_emod_of_nonneg _ (by decide)] at z; omega
            show _ + _ * sgn i = _
            unfold sgn
            rw [if_pos this]
          refine' ⟨_, _, _, [(L' + 1, oP')], rfl, F10, (fun p hp => N10 p ((List.mem_append.mp hp).elim (fun q => List.mem_append_right _ (List.mem_append_right _ (.tail _ q))) (fun q => List.mem_append_right _ (List.mem_append_right _ (by rw [List.mem_singleton.mp q]; exact .head _))))), hP, ⟨oP', _, _, rfl, dP', by with_unfolding_all exact m1, ?_⟩⟩
          rotate_left
          · rw [e]; with_unfolding_all rfl
        · have e : lawTo (lawSum n) A (i + 1) = lawTo (lawSum n) A i + head0 A i * lawSum n (cof A i) * -1 := by
            have : ¬ i % 2 = 0 := by rename ¬ (_ : Int) = 0 => z; rw [Int.fmod_eq_emod_of_nonneg _ (by decide)] at z; omega
            show _ + _ * sgn i = _
            unfold sgn
            rw [if_neg this]
          refine' ⟨_, _, _, [(L' + 1, oP')], rfl, F10, (fun p hp => N10 p ((List.mem_append.mp hp).elim (fun q => List.mem_append_right _ (List.mem_append_right _ (.tail _ q))) (fun q => List.mem_append_right _ (List.mem_append_right _ (by rw [List.mem_singleton.mp q]; exact .head _))))), hP, ⟨oP', _, _, rfl, dP', by with_unfolding_all exact m1, ?_⟩⟩
          rotate_left
          · rw [e]; with_unfolding_all rfl
end

/- B12 -/
section
/- A contract of a def that writes into one object R of the caller's -/

noncomputable def OutW (g : Heap) (R : Addr) (Ret : Obj → Value → Prop) (s : Shared) (v : Value) (s' : Shared) : Prop :=
  ∃ oR h' tk', s' = { s with heap := h', toks := tk' } ∧ HLe g h' ∧ h'.get? R = some oR ∧ Ret oR v
noncomputable def TellW (c : Cx) (f : Addr) (k : Nat) (vs : List Value) (R : Addr) (oR : Obj) (Pre : Heap → Prop) (Ret : Obj → Value → Prop) : Prop :=
  ∀ (dp un : Nat) (gd : Option (List Code)) (cn : Str) (cs : Scope) (a : Addr) (ccd : Value) (cl : List (Str × Addr)) (outer : List Env) (A₀ : Around) (base h₀ : Heap) (L : Addr) (m : Str → Option Value) (s : Shared)
    (Q E : Value → Shared → Prop),
    Below A₀ base outer h₀ → Fr h₀ L s.heap m → (Mine.hd.heap_39 c.w.params).In h₀ → News h₀ L s.heap [(R, oR)] →
    Top c.p c.loose c.mean c.mg c.mb h₀ → cs.kind = .function → dp + k < recursionLimit → un + 8 * k < cLine →
    (∀ g, (∀ b o, b ≠ R → s.heap.get? b = some o → g.get? b = some o) → Pre g) →
    (∀ v oR' h' tk', HBut [R] s.heap h' → h'.get? R = some oR' → Ret oR' v → Q v { s with heap := h', toks := tk' }) →
    wpAny (model PySem.Challenge.rw_pq0170_01.row.prog c.w) (ktrTop dp un gd cn cs L a ccd cl outer) (call (.ref f) vs) Q E s

section
variable {c : Cx} {name qual : Str} {params : Arguments} {body : List Stmt} {scope : Scope} {dV kV doc pm cdv ct oc : Value} {an od : Option Addr} {osl : Array (Option Value)} {f : Addr} {k : Nat} {vs : List Value} {binds : List (Str × Value)} {R : Addr} {oR : Obj} {Pre : Heap → Prop} {Ret : Obj → Value → Prop}
theorem tell_plainW
    (ho : (Mine.hd.heap_39 c.w.params).lookup f = some ⟨oc, od, .func (fnOf name qual params body scope dV kV doc pm an cdv ct), osl⟩) (hcd : codeIn (Mine.hd.heap_39 c.w.params) cdv qual = true)
    (hbind : ∀ s, BindsTo s (fnOf name qual params body scope dV kV doc pm an cdv ct) ⟨vs, []⟩ binds) (hloc : ∀ y ∈ binds, scope.names.lookup y.1 = some .local)
    (hco : scope.isCoroutine = false) (hgen : scope.isGenerator = false) (hk : scope.kind = .function) (hcell : ∀ x ∈ scope.names, x.2 ≠ .cell)
    (h : ∀ (dp un : Nat) (gd : Option (List Code)) (cn : Str) (cs : Scope) (a : Addr) (ccd : Value) (cl : List (Str × Addr)) (outer : List Env) (base g : Heap) (L L' : Addr) (h₁ : Heap) (s : Shared) (tk : Nat),
      dp + k < recursionLimit → un + 8 * k < cLine → cs.kind = .function →
      Below (ktrTop dp un gd cn cs L a ccd cl outer) base (envX cn cs L a ccd cl :: outer) g → Fr g L' h₁ (fun y => binds.reverse.lookup y) → (Mine.hd.heap_39 c.w.params).In g → News g L' h₁ [(R, oR)] →
      Top c.p c.loose c.mean c.mg c.mb g → Pre g →
      wpAny (model PySem.Challenge.rw_pq0170_01.row.prog c.w) ((ktrTop dp un gd cn cs L a ccd cl outer).deeper (envOf qual scope L' f cdv)) (execs body (envOf qual scope L' f cdv)) (fun fl s' => OutW g R Ret s (match fl with | .ret v => v | _ => .none) s') (fun _ _ => False) { s with heap := h₁, toks := tk }) :
    TellW c f k vs R oR Pre Ret := by
  intro dp un gd cn cs a ccd cl outer A₀ base h₀ L m s Q E B F X N T hke hd hu P hret
  obtain ⟨FG, BG, st, -⟩ := groundX (R := fun _ _ => True) (A := ktrTop dp un gd cn cs L a ccd cl outer) B F N (env := envX cn cs L a ccd cl) rfl rfl hke
  refine wpAny_call ?_
  refine codeAny_call_def (fd := fnOf name qual params body scope dV kV doc pm an cdv ct) (body := body) (args := ⟨vs, []⟩) (binds := binds) (Nat.lt_of_le_of_lt (Nat.le_add_right _ _) hd) ((X.keeps F.keep) _ _ ho) rfl (T.nolimit.keeps F.keep) (codeRec_of (X.keeps F.keep) hcd) rfl (hbind s) hcell hloc (fun h₁ hns hk₁ => ?_) hco hgen hk
  refine wpAny_mono (h dp un gd cn cs a ccd cl outer base (hideAll s.heap [R]) L s.heap.objs.size h₁ s _ hd hu hke ⟨rfl, BG.stays, BG.frames⟩ ⟨hns, fun b o e => hk₁ b o (of_hideAll _ e), Nat.le_of_eq (hideAll_size _ _)⟩ (X.keeps st)
    (fun p hp => ?_) (T.keeps st) (P _ fun b o hb e => hideAll_get _ e (by simpa using hb))) (fun fl s' hl => ?_) fun _ _ x => x.elim
  · rw [List.mem_singleton.mp hp]
    have := (N (R, oR) (.head _)).1
    exact ⟨hk₁ _ _ this, Nat.ne_of_lt (Heap.lt_size this), hideAll_none _ (.head _)⟩
  · obtain ⟨oR', h', tk', rfl, hk', hR, hr⟩ := hl
    exact hret _ oR' h' tk' (fun b o hb e => hk' b o (hideAll_get _ e hb)) hR hr
end
end

/- B13 -/
section
/- The use of a contract that writes one object R; a comprehension whose elements write it -/

theorem HBut.fr {h₀ h h' : Heap} {L : Addr} {m : Str → Option Value} {X : List Addr} (F : Fr h₀ L h m) (k : HBut X h h') (hL : L ∉ X) (hX : ∀ b ∈ X, h₀.get? b = none) : Fr h₀ L h' m :=
  ⟨F.ns.at' fun o e => k _ _ hL e, fun b o e => k b o (fun q => by rw [hX b q] at e; cases e) (F.keep b o e), F.above⟩
theorem HBut.news {h₀ h h' : Heap} {L R : Addr} {oR oR' : Obj} {news rest : Led} (N : News h₀ L h news) (k : HBut [R] h h') (hm : (R, oR) ∈ news) (hR : h'.get? R = some oR') (sub : ∀ p ∈ rest, p ∈ news) (off : ∀ p ∈ rest, p.1 ≠ R) : News h₀ L h' ((R, oR') :: rest) := fun p hp => by
  rcases List.mem_cons.mp hp with rfl | hp
  · exact ⟨hR, (N _ hm).2⟩
  · exact ⟨k _ _ (by simpa using off p hp) (N p (sub p hp)).1, (N p (sub p hp)).2⟩
theorem tellW_use {w : World} {pp : Program} {loose : List Str} {mean : ExcName → Option Value} {mg mb : Str → Option Value} {f : Addr} {k : Nat} {vs : List Value} {R : Addr} {oR : Obj} {Pre : Heap → Prop} {Ret : Obj → Value → Prop} (C : TellW ⟨w, pp, loose, mean, mg, mb⟩ f k vs R oR Pre Ret)
    {dp un : Nat} {gd : Option (List Code)} {cn : Str} {cs : Scope} {a : Addr} {ccd : Value} {cl : List (Str × Addr)} {outer : List Env} {A₀ : Around} {base h₀ : Heap} {L : Addr} {m : Str → Option Value} {s : Shared} {news : Led}
    {Q E : Value → Shared → Prop}
    (B : Below A₀ base outer h₀) (F : Fr h₀ L s.heap m) (X : (Mine.hd.heap_39 w.params).In h₀) (N : News h₀ L s.heap news)
    (T : Top pp loose mean mg mb h₀) (hk : cs.kind = .function) (hd : dp + k < recursionLimit) (hu : un + 8 * k < cLine) (hm : (R, oR) ∈ news)
    (P : ∀ g, (∀ b o, b ≠ R → s.heap.get? b = some o → g.get? b = some o) → Pre g)
    (ret : ∀ v oR' h' tk', HBut [R] s.heap h' → h'.get? R = some oR' → Ret oR' v → Fr h₀ L h' m → Q v { s with heap := h', toks := tk' }) :
    wpAny (model PySem.Challenge.rw_pq0170_01.row.prog w) (ktrTop dp un gd cn cs L a ccd cl outer) (call (.ref f) vs) Q E s :=
  C dp un gd cn cs a ccd cl outer A₀ base h₀ L m s Q E B F X (fun p hp => N p (by rw [List.mem_singleton.mp hp]; exact hm)) T hk hd hu P fun v oR' h' tk' hb hR hr =>
    ret v oR' h' tk' hb hR hr (hb.fr F (by simpa using Ne.symm (N _ hm).2.1) fun b hb' => by rw [List.mem_singleton.mp hb']; exact (N _ hm).2.2)

/-- a source all of whose objects are new -/
noncomputable def ReadyN (prog : Program) (w : World) (A : Around) (target : Expr) (base h : Heap) (I : Addr) (n : Nat) (P : Nat → Value → Heap → Prop) : Prop :=
  ∃ fp wr Md St, Src prog w A target I fp wr n P Md St ∧ St 0 h ∧ (∀ b ∈ fp, b < h.objs.size) ∧ ∀ b ∈ fp, base.get? b = none
section
variable {prog : Program} {w : World} {A : Around} {E : Value → Shared → Prop} {s : Shared} {target : Expr}
theorem ReadyN.ready {base h : Heap} {I : Addr} {n : Nat} {P : Nat → Value → Heap → Prop} (r : ReadyN prog w A target base h I n P) : Ready prog w A target base h I n P := by
  obtain ⟨fp, wr, Md, St, S, st, a, b⟩ := r
  exact ⟨fp, wr, Md, St, S, st, a, fun x hx => b x (S.turns.sub x hx), fun x hx => .inl (b x hx)⟩
theorem ready_rangeN {r : Addr} {a b : Int} {t u v : Tok} {n : Nat} {Q : Value → Shared → Prop} (hh : A.handled = none) (hr : IsRange s.heap r a b 1 t u v) (hsmall : Builtin.Range.small a b 1 = true) (hn : Builtin.Range.rangeSize a b 1 = (n : Int))
    (h : ∀ h' I, HLe s.heap h' → (∀ x px, ReadyN prog w A (.Name x px) s.heap h' I n (fun i v _ => ∃ t, v = .int (a + (i : Int)) t)) → Q (.ref I) { s with heap := h' }) : wpAny (model prog w) A (pyIter (.ref r)) Q E s := by
  refine wpAny_pyIter_range hr hsmall (h _ _ (fun b o e => Heap.get?_push_of_some _ e) fun x px => ?_)
  have W := LCg.range_walks (prog := prog) (w := w) (I := s.heap.objs.size) hh a n
  refine ⟨_, _, _, _, ⟨KTurns.ofWalks W fun i v s Q E st q => wpAny_of_eq rfl q, fun s Q E st q => W.self 0 s Q E st q, fun i h st b hb => ?_⟩, ?_, fun b hb => ?_, fun b hb => ?_⟩
  · rw [List.mem_singleton.mp hb]
    exact ⟨_, st⟩
  · show IsRangeIter _ _ _ _ _
    rw [hn]
    simpa using Heap.get?_push_size _ rfl
  · rw [Heap.size_push, List.mem_singleton.mp hb]; exact Nat.lt_succ_self _
  · rw [List.mem_singleton.mp hb]; exact none_of_size (Nat.le_refl _)

theorem compAt_wr {elt : Expr} {env : Env} {scope : Scope} {cl : List (Str × Addr)} {Y : List Addr} {Fin : Addr → Heap → Nat → Prop} {Ok : List Addr → Prop} {h₂ : Heap} {tk₂ : Nat} {I R : Addr} {n : Nat} {P : Nat → Value → Heap → Prop} {B : Nat → (Str → Option Value) → Prop} (V : Heap → Prop) (K : Nat → Led → Value → Prop)
    (hVe : ∀ h, V h → ∃ o, h.get? R = some o) (hVs : ∀ h h', V h → h'.get? R = h.get? R → V h') (V0 : V s.heap)
    (hOk : Ok [R]) (Rd : ReadyN prog w A target s.heap h₂ I n P) (hk : HLe s.heap h₂) (hsz : n ≤ sizeLine) (asg : Binds prog w A target scope cl env n P B)
    (elt' : ∀ i h tk C m (E' : Value → Shared → Prop), i < n → B i m → h.Ns C m → h₂.objs.size ≤ C → HBut [R] s.heap h → V h →
      wpAny (model prog w) A (eval elt (compEnvC scope cl C env)) (EltOut s h [R] V (K i)) E' { s with heap := h, toks := tk })
    (fin : ∀ D h tk ys own, HBut (Y ++ [R]) s.heap h → V h → Acc K (fun _ => true) n ys own → Own s.heap h ((D, lst9 ys) :: own) → Fin D h tk) :
    CompAt prog w A s elt target [] env scope cl Y Fin Ok (.ref I) { s with heap := h₂, toks := tk₂ } := by
  obtain ⟨fp, wr, Md, St, S, st, hfp, hwr⟩ := Rd
  refine ⟨h₂, tk₂, I, fp, wr, n, P, Md, St, B, fun _ => true, [R], fun _ => V, Acc K (fun _ => true), rfl, rfl, S, ⟨?_, ?_, ?_, ?_⟩, (fun _ h v b hb => by rw [List.mem_singleton.mp hb]; exact hVe h v), (fun _ h h' v k => hVs h h' v (k R (.head _))), hk, st, hsz, (fun b hb => ⟨hfp b hb, fun q => ?_⟩), (fun b hb => hwr b (S.turns.sub b hb)), (fun b hb => by rw [List.mem_singleton.mp hb]; exact hVe _ V0), V0, .nil, hOk, ?_⟩
  · intro i v h tk C m Q' E' hi hP hn hQ
    exact asg i v { s with heap := h, toks := tk } C m Q' E' hi hP hn hQ
  · intro i h tk C m E' _ _ _ _ _ _
    exact wpAny_tests_nil ⟨rfl, h, tk, rfl, HLe.refl _⟩
  · intro i h tk C m ys own E' hi hp hB hn hC hb hV _ J
    refine wpAny_mono (elt' i h tk C m E' hi hB hn hC hb hV) (fun y s' ho => ?_) fun _ _ e => e
    obtain ⟨own', h', tk', rfl, k, v, o, r⟩ := ho
    exact ⟨own', h', tk', rfl, k, v, o, .take J hp r⟩
  · intro i h ys own _ hp
    cases hp
  · have := hwr b hb
    rw [List.mem_singleton.mp q] at this
    obtain ⟨o, e⟩ := hVe _ V0
    rw [this] at e
    cases e
  · intro D h tk ys own hb v J O
    exact fin D h tk ys own hb v J O
end
end

/- D13 -/
section
theorem fill_D13 : ∀ c f k vs P R, Tell c f k vs P R → True := by
  w_top off
  unfold Tell
  k_fill
  intros
  trivial

local macro_rules | `(tactic| walk_at "setItem ref int") => `(tactic| (k_here; with_reducible refine stop_set ?_))
theorem t_cell (c : Cx) (R S : Addr) (cR : Nat) (k : Int) (t : Tok) (ns : List Int) (items : List Value) (hk : 0 ≤ k) (hns : ∀ x ∈ ns, 0 ≤ x) (hlen : ns.length ≤ 30) :
    TellW c 167 1 [.ref R] R (lstObj [.int k t, .ref S] cR) (fun h => h.IsList S items.toArray ∧ All2 IntIs items ns) (fun o v => (∃ t', o = lstObj [.int (k + 1) t', .ref S] cR) ∧ ∃ x t', v = .int x t' ∧ 0 ≤ x) := by
  refine' tell_plainW (binds := [(Str.ofString "reel", .ref R)]) ?ho ?hcd ?hbind ?hloc ?hco ?hgen ?hk ?hcell ?_
  (case ho => k_is)
  (case hcd => k_is)
  (case hbind => (intro _; exact BindsTo.of_eq rfl))
  (case hloc => exact locs rfl)
  (case hco => exact rfl)
  (case hgen => exact rfl)
  (case hk => exact rfl)
  (case hcell => decide)
  rintro dp un gd cn cs a' ccd cl outer base g L L' h₁ s tk hd hu hke B' F' X' N' T' ⟨l, a⟩
  k_with_none
  have f0 : [Value.int k t, .ref S][((0 : Int)).toNat]? = some (.int k t) := rfl
  (try dsimp only)
  k_steps
  refine Stop9.mk ?_
  rename Fr _ _ _ _ => F1
  rename News _ _ _ _ => N1
  refine store9 (n := cR) (rs := [.int k t, .ref S]) [] F1 N1 (.head _) (by omega) (by decide) (Int.ofNat_lt.mpr (Nat.zero_lt_succ 1)) (fun _ h => nomatch h) (fun _ h => nomatch h) ?_
  intro h2 F2 N2
  (try clear F1); (try clear N1); clear f0
  obtain ⟨t2, N2'⟩ : ∃ t2, News g L' h2 [(R, lstObj [.int (k + 1) t2, .ref S] cR)] := ⟨_, N2⟩
  clear N2
  have f2 : [Value.int (k + 1) t2, .ref S][((0 : Int)).toNat]? = some (.int (k + 1) t2) := rfl
  have f3 : [Value.int (k + 1) t2, .ref S][((1 : Int)).toNat]? = some (.ref S) := rfl
  have e3 : (items.toArray.size : Int) = (ns.length : Int) := by rw [List.size_toArray, a.1]
  k_steps
  · have hk2 : (k + 1 - 1).toNat < ns.length := by omega
    obtain ⟨v, hv, tv, rfl⟩ := a.get (List.getElem?_eq_getElem hk2)
    rename Fr _ _ _ _ => F3
    rename News _ _ _ _ => N3
    refine item9 (by is_list) (by omega) (by omega) hv ?_ (by with_unfolding_all rfl)
    k_steps
    exact ⟨_, _, _, rfl, F3.keep, (N3 _ (.head _)).1, ⟨t2, rfl⟩, _, _, rfl, hns _ (List.getElem_mem hk2)⟩
  · rename Fr _ _ _ _ => F3
    rename News _ _ _ _ => N3
    refine ⟨_, _, _, rfl, F3.keep, (N3 _ (.head _)).1, ⟨t2, rfl⟩, _, _, rfl, ?_⟩
    rw [Int.fdiv_eq_ediv_of_nonneg _ (by decide)]
    omega
end

/- B14 -/
section
/- A comprehension whose own name is a cell (an inner one closes over it): `for x in range`, no test, elements that only make new objects -/

section
variable {prog : Program} {w : World} {A : Around} {E : Value → Shared → Prop} {s : Shared}
theorem envc9 {scope : Scope} {globals : Addr} {cl : List (Str × Addr)} {qual : Str} {env : Env} {x : Str} {Q : Env → Shared → Prop} (hcl : ∀ n, cellsFrom n scope.names cl = (x, n) :: cl) (hpc : ∀ h, pushCells h scope.names = h.push { cls := .type "cell", data := .cell none })
    (hQ : ∀ h', h'.Ns s.heap.objs.size (fun _ => none) → h'.IsCell (s.heap.objs.size + 1) none → (∀ b o, s.heap.get? b = some o → h'.get? b = some o) →
      Q (newEnv scope s.heap.objs.size globals ((x, s.heap.objs.size + 1) :: cl) qual none .none (some env) builtinsNs) { s with heap := h' }) :
    wpAny (model prog w) A (newFunctionEnv scope globals cl [] qual none .none (some env)) Q E s := by
  simp only [newFunctionEnv, Option.isSome_some, if_true]
  simp only [newEnv] at hQ
  refine wpAny_bind (wpAny_alloc ?_)
  refine wpAny_bind (wpAny_layCells _ (fun name kind cells => by cases hkc : kind == NameKind.cell <;> simp [hkc]) _ _ _ _ ?_)
  dsimp only
  rw [hcl, hpc, Heap.size_push]
  refine wpAny_bind ?_
  rw [List.forIn_nil]
  refine wpAny_pure (wpAny_pure ?_)
  refine hQ _ ((Heap.Ns.new s.heap (.type "dict")).keeps fun b o e => Heap.get?_push_of_some _ e) ⟨{ cls := .type "cell", data := .cell none }, ?_, rfl⟩ fun b o e => Heap.get?_push_of_some _ (Heap.get?_push_of_some _ e)
  have := Heap.get?_push_size (s.heap.push { cls := .type "dict", data := .dict #[] }) (o := { cls := .type "cell", data := .cell none }) rfl
  rw [Heap.size_push] at this
  exact this

noncomputable def CompAtC (prog : Program) (w : World) (A : Around) (s : Shared) (elt : Expr) (x : Str) (px : Pos) (env : Env) (scope : Scope) (cl : List (Str × Addr)) (Q : Value → Shared → Prop) (it : Value) (s₂ : Shared) : Prop :=
  ∃ h₂ tk₂ I n P K, it = .ref I ∧ s₂ = { s with heap := h₂, toks := tk₂ } ∧ ReadyN prog w A (.Name x px) s.heap h₂ I n P ∧ HLe s.heap h₂ ∧ n ≤ sizeLine ∧
    (∀ (i : Nat) v oK h tk C m (E' : Value → Shared → Prop), i < n → (∃ h, P i v h) → h.get? (C + 1) = some oK → oK.data = .cell (some v) → h.Ns C m → h₂.objs.size ≤ C → HLe s.heap h →
      wpAny (model prog w) A (eval elt (compEnvC scope ((x, C + 1) :: cl) C env)) (Out h (K i) s) E' { s with heap := h, toks := tk }) ∧
    ∀ D h tk ys own, HLe s.heap h → Acc K (fun _ => true) n ys own → Own s.heap h ((D, lst9 ys) :: own) → Q (.ref D) { s with heap := h, toks := tk }

theorem comp9c {env : Env} {elt iter : Expr} {scope : Scope} {cl : List (Str × Addr)} {pos px : Pos} {x : Str} {Q : Value → Shared → Prop} (hclos : closureFor scope env = pure cl) (hkind : scope.kind = .function)
    (hnames : ∀ y ∈ scope.names, y.2 = .local → scope.names.lookup y.1 = some .local) (hcl : ∀ n, cellsFrom n scope.names cl = (x, n) :: cl) (hpc : ∀ h, pushCells h scope.names = h.push { cls := .type "cell", data := .cell none })
    (hx : (relabel scope env).names.lookup x = some .cell)
    (h : wpAny (model prog w) A (eval iter env) (fun xv s₁ => wpAny (model prog w) A (pyIter xv) (CompAtC prog w A s elt x px env scope cl Q) E s₁) E s)
    (hs : ∀ x, foldedSetIterable iter env x = pure x) :
    wpAny (model prog w) A (eval (.ListComp elt [⟨.Name x px, iter, [], 0⟩] scope pos) env) Q E s := by
  rw [eval_ListComp]
  refine wpAny_comprehension_free (use := none) rfl hs hclos hkind hnames (wpAny_mono h (fun xv s₁ h₁ => wpAny_mono h₁ (fun it s₂ h₂ => ?_) fun _ _ e => e) fun _ _ e => e)
  obtain ⟨h₂, tk₂, I, n, P, K, rfl, rfl, ⟨fp, wr, Md, St, S, st, hfp, hfr⟩, hk, hsz, el, fin⟩ := h₂
  have W := S.turns
  have hwr : ∀ b ∈ wr, s.heap.get? b = none := fun b hb => hfr b (W.sub b hb)
  refine wpAny_newObj_type (envc9 hcl hpc fun h₁ hns₁ hcell₁ hsb₁ => ?_)
  dsimp only at hns₁ hcell₁ hsb₁ ⊢
  generalize hH2 : h₂.push { cls := .type "list", dict := none, data := .seq ([] : List Value).toArray } = H2 at hns₁ hcell₁ hsb₁ ⊢
  have hC : H2.objs.size = h₂.objs.size + 1 := by rw [← hH2, Heap.size_push]
  have hDC : h₂.objs.size ≠ H2.objs.size := by rw [hC]; exact Nat.ne_of_lt (Nat.lt_succ_self _)
  generalize hDd : h₂.objs.size = D at hDC hC
  generalize hCc : H2.objs.size = C at *
  have fresh : ∀ a, D ≤ a → s.heap.get? a = none := fun a ha => by
    cases e : s.heap.get? a with
    | none => rfl
    | some o => exact absurd (Heap.lt_size (hk _ _ e)) (by rw [hDd]; exact Nat.not_lt.mpr ha)
  have hDCle : D ≤ C := by rw [hC]; exact Nat.le_succ _
  have hDK : D ≠ C + 1 := by rw [hC]; exact Nat.ne_of_lt (by omega)
  have hCK : C ≠ C + 1 := Nat.ne_of_lt (Nat.lt_succ_self _)
  have hfD : ∀ b ∈ fp, b ≠ D ∧ b ≠ C ∧ b ≠ C + 1 := fun b hb => by
    have := hfp b hb
    rw [hDd] at this
    exact ⟨Nat.ne_of_lt this, Nat.ne_of_lt (Nat.lt_of_lt_of_le this hDCle), Nat.ne_of_lt (Nat.lt_of_lt_of_le this (Nat.le_succ_of_le hDCle))⟩
  have hwf : ∀ b ∈ wr, b ∈ fp := W.sub
  have Cw : C ∉ wr := fun h => (hfD _ (hwf _ h)).2.1 rfl
  have Dw : D ∉ wr := fun h => (hfD _ (hwf _ h)).1 rfl
  have Kw : C + 1 ∉ wr := fun h => (hfD _ (hwf _ h)).2.2 rfl
  have old : ∀ b o, h₂.get? b = some o → h₁.get? b = some o := fun b o e => hsb₁ b o (hH2 ▸ Heap.get?_push_of_some _ e)
  have hacc : h₁.get? D = some (lst9 []) := hsb₁ _ _ (by rw [← hH2, ← hDd]; exact Heap.get?_push_size _ rfl)
  have st₁ : St 0 h₁ := W.frame _ _ _ st fun b _ o e => old b o e
  have loop : ∀ s₃ : Shared, s₃ = { s with heap := h₁, toks := tk₂ } →
      codeAny (model prog w) A (.compLoop (.ListComp elt [⟨.Name x px, iter, [], 0⟩] scope pos) 0 (.ref I) (.ref D) (compEnvC scope ((x, C + 1) :: cl) C env)) (compPost (model prog w) A E none Q (.ref D) C) s₃ := by
    rintro s₃ rfl
    refine loop9
      (fun k s' => ∃ h' tk i ys own m' cv, s' = { s with heap := h', toks := tk } ∧ i ≤ n ∧ k = n + 1 - i ∧ ys.length ≤ i ∧ St i h' ∧ HLe s.heap h' ∧ h'.Ns C m' ∧ h'.IsCell (C + 1) cv ∧ h'.get? D = some (lst9 ys) ∧
        (∀ q ∈ own, h'.get? q.1 = some q.2 ∧ s.heap.get? q.1 = none ∧ q.1 ∉ wr ∧ q.1 ≠ C ∧ q.1 ≠ D ∧ q.1 ≠ C + 1) ∧ Acc K (fun _ => true) i ys own) ?_ (n + 1)
      ⟨h₁, _, 0, [], [], _, _, rfl, Nat.zero_le _, rfl, Nat.le_refl _, st₁, fun b o e => old b o (hk b o e), hns₁, hcell₁, hacc, (fun _ h => nomatch h), .nil⟩
    rintro k s' ⟨h', tk, i, ys, own, m', cv, rfl, hi, rfl, hyl, st', kk, hn', hK', hD', ho', J'⟩ E'
    by_cases hlt : i < n
    · refine W.item i _ _ _ hlt st' fun v h₃ tk₃ hMd hk₃ => ?_
      refine W.go i v _ _ _ hMd fun h₄ hP st₄ hk₄ => ?_
      have keep : ∀ b o, b ∉ wr → h'.get? b = some o → h₄.get? b = some o := fun b o hb e => hk₄ b o hb (hk₃ b o hb e)
      have kk₄ : HLe s.heap h₄ := fun b o e => keep b o (fun h => by rw [hwr b h] at e; cases e) (kk b o e)
      have hn₄ : h₄.Ns C m' := hn'.at' fun o e => keep _ o Cw e
      have hK₄ : h₄.IsCell (C + 1) cv := by obtain ⟨o, e, d⟩ := hK'; exact ⟨o, keep _ _ Kw e, d⟩
      refine wpAny_assign_Name (wpAny_storeName_cell (c := C + 1) (v₀ := cv) (by simp [compEnvC, relabel, hkind]) hx (by simp [compEnvC, List.lookup_cons]) hK₄ fun h₅ hK₅ hs₅ => ?_)
      have hk₅ : ∀ b o, b ≠ C + 1 → h₄.get? b = some o → h₅.get? b = some o := fun b o hb e => hs₅.extBut b o hb e
      have st₅ : St (i + 1) h₅ := W.frame _ _ _ st₄ fun b hb o e => hk₅ b o (hfD b hb).2.2 e
      have kk₅ : HLe s.heap h₅ := fun b o e => hk₅ b o (fun q => by rw [q, fresh (C + 1) (Nat.le_succ_of_le hDCle)] at e; cases e) (kk₄ b o e)
      have hn₅ : h₅.Ns C m' := hn₄.at' fun o e => hk₅ _ o hCK e
      have hD₅ : h₅.get? D = some (lst9 ys) := hk₅ _ _ hDK (keep _ _ Dw hD')
      have ho₅ : ∀ q ∈ own, h₅.get? q.1 = some q.2 ∧ s.heap.get? q.1 = none ∧ q.1 ∉ wr ∧ q.1 ≠ C ∧ q.1 ≠ D ∧ q.1 ≠ C + 1 := fun q hq => by
        obtain ⟨a, b, c, d, e, f⟩ := ho' q hq
        exact ⟨hk₅ _ _ f (keep _ _ c a), b, c, d, e, f⟩
      refine wpAny_tests_nil ?_
      rw [if_pos rfl]
      obtain ⟨oK, eK, dK⟩ := hK₅
      refine wpAny_mono (el i v oK h₅ tk₃ C m' E' hlt ⟨_, hP⟩ eK dK hn₅ (by rw [hDd]; exact hDCle) kk₅) (fun y s₇ h₇ => ?_) fun _ _ e => e
      obtain ⟨own', h₇, tk₇, rfl, r, hk₇, O₇⟩ := h₇
      obtain ⟨oC, heC, hnC⟩ : ∃ o, h₅.get? C = some o ∧ h₇.get? C = some o := by obtain ⟨o, _, _, e, _⟩ := hn₅; exact ⟨o, e, hk₇ _ _ e⟩
      have st₇ : St (i + 1) h₇ := W.frame _ _ _ st₅ fun b hb o e => hk₇ b o e
      have hD₇ := hk₇ _ _ hD₅
      refine append_at (hsz := by show ys.toArray.size ≤ sizeLine; rw [List.size_toArray]; exact Nat.le_trans (Nat.le_trans hyl hi) hsz) hD₇ fun h₈ hs₈ hD₈ => ?_
      have new : ∀ q ∈ own', q.1 ∉ wr ∧ q.1 ≠ C ∧ q.1 ≠ D ∧ q.1 ≠ C + 1 ∧ s.heap.get? q.1 = none := fun q hq => by
        have f := (O₇ q hq).2
        refine ⟨fun h => ?_, fun h => ?_, fun h => ?_, fun h => ?_, ?_⟩
        · obtain ⟨o, e⟩ := S.there _ _ st₅ _ h; rw [f] at e; cases e
        · rw [h, heC] at f; cases f
        · rw [h, hD₅] at f; cases f
        · rw [h, eK] at f; cases f
        · cases e : s.heap.get? q.1 with
          | none => rfl
          | some o => rw [kk₅ _ _ e] at f; cases f
      refine ⟨n + 1 - (i + 1), by omega, h₈, tk₇, i + 1, ys ++ [y], own' ++ own, m', _, rfl, hlt, rfl, by rw [List.length_append, List.length_singleton]; omega, W.frame _ _ _ st₇ fun b hb o e => hs₈.extBut b o (hfD b hb).1 e,
        fun b o e => hs₈.extBut b o (fun q => by rw [q, fresh D (Nat.le_refl _)] at e; cases e) (hk₇ b o (kk₅ b o e)),
        (hn₅.at' fun o e => hs₈.extBut _ _ (Ne.symm hDC) (hk₇ _ _ e)), ⟨oK, hs₈.extBut _ _ (Ne.symm hDK) (hk₇ _ _ eK), dK⟩, hD₈.trans (congrArg some (lst9_snoc ys y)), fun q hq => ?_, .take J' rfl r⟩
      rcases List.mem_append.mp hq with hq | hq
      · obtain ⟨a, b, c, d, f⟩ := new q hq
        exact ⟨hs₈.extBut _ _ c (O₇ q hq).1, f, a, b, c, d⟩
      · obtain ⟨a, b, c, d, e, f⟩ := ho₅ q hq
        exact ⟨hs₈.extBut _ _ e (hk₇ _ _ a), b, c, d, e, f⟩
    · obtain rfl : i = n := Nat.le_antisymm hi (Nat.not_lt.mp hlt)
      refine W.done _ _ _ st' fun h₃ tk₃ hk₃ => ?_
      have k3 : HLe s.heap h₃ := fun b o e => hk₃ b o (fun h => by rw [hwr b h] at e; cases e) (kk b o e)
      refine ⟨m', hn'.at' fun o e => hk₃ _ o Cw e, fun h' hs' => fin D h' tk₃ ys own (fun b o e => hs'.extBut b o (fun q => by rw [q, fresh C hDCle] at e; cases e) (k3 b o e)) J' fun q hq => ?_⟩
      rcases List.mem_cons.mp hq with rfl | hq
      · exact ⟨hs'.extBut _ _ hDC (hk₃ _ _ Dw hD'), fresh D (Nat.le_refl _)⟩
      · obtain ⟨a, b, c, d, _⟩ := ho' q hq
        exact ⟨hs'.extBut _ _ d (hk₃ _ _ c a), b⟩
  exact codeAny_compStart_list (loop _ rfl) (S.self _ _ _ st₁ (loop _ rfl))
end
theorem stop_compC {M : Model} {A A' : Around} {E : Value → Shared → Prop} {s s' : Shared} {a : Addr} {prog : Program} {w : World} {elt : Expr} {x : Str} {px : Pos} {env : Env} {scope : Scope} {cl : List (Str × Addr)} {Q : Value → Shared → Prop}
    (h : Stop9 (wpAny M A (pyIter (.ref a)) (CompAtC prog w A' s' elt x px env scope cl Q) E s)) : wpAny M A (pyIter (.ref a)) (CompAtC prog w A' s' elt x px env scope cl Q) E s := h
end

/- D14 -/
section
theorem fill_D14 : ∀ c f k vs P R, Tell c f k vs P R → True := by
  w_top off
  unfold Tell
  k_fill
  intros
  trivial

local macro_rules | `(tactic| walk_at "call ref") => `(tactic| (k_here; with_reducible refine stop_call ?_))
local macro_rules | `(tactic| walk_at "storeName") => `(tactic| (k_here; with_reducible refine stop_name (Str.ofString "rows") ?_))
local macro_rules | `(tactic| walk_at "pyIter ref") => `(tactic| (k_here; with_reducible refine stop_compC ?_))
local macro_rules | `(tactic| walk_at "pyIter ref") => `(tactic| (k_here; with_reducible refine stop_comp ?_))
theorem stop_spot {M : Model} {A : Around} {E : Value → Shared → Prop} {s : Shared} {env : Env} {Q : Value → Shared → Prop} {e i : Expr} {p q : Pos} {l : List Expr} {k : Nat} {c : Scope} (h : Stop9 (wpAny M A (eval (.ListComp e [⟨.Name (Str.ofString "spot") p, i, l, k⟩] c q) env) Q E s)) :
    wpAny M A (eval (.ListComp e [⟨.Name (Str.ofString "spot") p, i, l, k⟩] c q) env) Q E s := h
local macro_rules | `(tactic| walk_at "eval ListComp") => `(tactic| (k_here; with_reducible refine stop_spot ?_))
structure Kept (g : Heap) (L : Addr) (h : Heap) (m : Str → Option Value) (news : Led) : Prop where
  fr : Fr g L h m
  led : News g L h news
theorem mk_rangeK {prog : Program} {w : World} {A : Around} {E : Value → Shared → Prop} {s : Shared} {h₀ : Heap} {L : Addr} {m : Str → Option Value} {news : Led} {n : Int} {t : Tok} {Q : Value → Shared → Prop} (F : Fr h₀ L s.heap m) (N : News h₀ L s.heap news)
    (h : Kept h₀ L s.heap m news → ∀ h' r u v tk', HLe s.heap h' → IsRange h' r 0 n 1 u t v → Fr h₀ L h' m → News h₀ L h' news → Q (.ref r) { s with heap := h', toks := tk' }) : wpAny (model prog w) A (call (.type "range") [.int n t]) Q E s := mk_range1 F N (h ⟨F, N⟩)
local macro_rules | `(tactic| walk_at "call type:range") => `(tactic| (k_here; k_dflt (refine mk_rangeK (by k_asm) (by k_asm) ?_); walk_at "my behind"))
theorem ReadyN.older {prog : Program} {w : World} {A : Around} {target : Expr} {base base' h : Heap} {I : Addr} {n : Nat} {P : Nat → Value → Heap → Prop} (r : ReadyN prog w A target base' h I n P) (k : HLe base base') : ReadyN prog w A target base h I n P := by
  obtain ⟨fp, wr, Md, St, S, st, a, b⟩ := r
  refine ⟨fp, wr, Md, St, S, st, a, fun x hx => ?_⟩
  cases e : base.get? x with
  | none => rfl
  | some o => have := b x hx; rw [k _ _ e] at this; cases this
theorem small_up {n : Nat} (h : n ≤ 8) : Builtin.Range.small 0 (n : Int) 1 = true := by
  exact small_one (by decide) (by decide) (by omega) (by omega)
theorem cell_get {A : List (List Int)} {n i j : Nat} (S : ZSq A n) (hi : i < n) (hj : j < n) : ∃ r, A[i]? = some r ∧ r[j]? = some ((A.getD i []).getD j 0) := by
  have hi' : i < A.length := by rw [S.len]; exact hi
  have hr : (A[i]).length = n := S.row _ (List.getElem_mem hi')
  refine ⟨A[i], List.getElem?_eq_getElem hi', ?_⟩
  simp only [List.getD_eq_getElem?_getD, List.getElem?_eq_getElem hi', Option.getD_some]
  rw [List.getElem?_eq_getElem (by omega), Option.getD_some]
theorem elt_groundC {g h h₂ : Heap} {s : Shared} {L C : Addr} {m₀ m : Str → Option Value} {news : Led} {oK : Obj} (K : Kept g L s.heap m₀ news) (hk : HLe s.heap h₂) (k : HLe s.heap h) (hn : h.Ns C m) (hC : h₂.objs.size ≤ C) (eK : h.get? (C + 1) = some oK) :
    ∃ oC, LCg.NsObj oC m ∧ Fr g L h m₀ ∧ News g L h ((C, oC) :: (C + 1, oK) :: news) := by
  obtain ⟨oC, e, q⟩ := LCg.ns_obj hn
  have f : ∀ b, C ≤ b → s.heap.get? b = none := fun b hb => by
    cases e : s.heap.get? b with
    | none => rfl
    | some o => exact absurd (Heap.lt_size (hk _ _ e)) (Nat.not_lt.mpr (Nat.le_trans hC hb))
  refine ⟨oC, q, K.fr.keeps k, ?_⟩
  exact News.grow K.fr K.led k (own := [(C, oC), (C + 1, oK)]) fun p hp => by
    simp only [List.mem_cons, List.not_mem_nil, or_false] at hp
    rcases hp with rfl | rfl
    · exact ⟨e, f _ (Nat.le_refl _)⟩
    · exact ⟨eK, f _ (Nat.le_succ _)⟩
theorem t_turned (c : Cx) (v : Value) (A : List (List Int)) (n : Nat) (SA : ZSq A n) (h0 : 0 < n) (hn : n ≤ 3) : Tell c 70 2 [v] (fun h => ZGridAt h v A) (fun own r => ZGridIn own r (turnZ A n)) := by
  refine tell_at ?_
  rintro g₀ ⟨D, vs, rfl, l, a⟩
  refine' tell_cells (binds := [(Str.ofString "grid", .ref D)]) (mm := fun _ => none)
    (CC := fun L' cells => ∃ o o', cells = [(L' + 2, o), (L' + 1, o')] ∧ o.data = .cell none ∧ o'.data = .cell (some (.ref D))) ?ho ?hcd ?hbind ?hkind ?hnd ?hco ?hgen ?hk ?hmm ?hCC ?_
  (case ho => k_is)
  (case hcd => k_is)
  (case hbind => (intro _; exact BindsTo.of_eq rfl))
  (case hkind => exact rfl)
  (case hnd => decide +kernel)
  (case hco => exact rfl)
  (case hgen => exact rfl)
  (case hk => exact rfl)
  (case hmm => (intro _; exact rfl))
  case hCC => exact fun _ _ Y => CellsAre.two Y
  rintro dp un gd cn cs a' ccd cl outer base g L L' h₁ s tk cells hd hu hke B' F' X' N' ⟨oR, oG, rfl, dR, dG⟩ T' rfl
  k_with_none
  obtain ⟨r0, z0⟩ : ∃ r0, A[0]? = some r0 := ⟨_, List.getElem?_eq_getElem (by rw [SA.len]; exact h0)⟩
  have z1 : r0.length = n := SA.row _ (List.mem_of_getElem? z0)
  (try dsimp only)
  k_steps
  refine Stop9.mk ?_
  rename Fr _ _ _ _ => F1
  rename News _ _ _ _ => N1
  refine' tell_use (t_grid_shape _ (.ref D) A r0 n n SA.len z0 z1 (by omega) (by omega)) ?k1 ?k2 ?k3 ?k4 ?k5 ?kK ?kd ?ku ?kP ?_
  case kP => exact (show ZGridAt g (.ref D) A from ⟨D, vs, rfl, l, a⟩).mono F1.keep
  (case k1 => first | k_asm | ktn_no "tell: the frames below")
  (case k2 => first | k_asm | ktn_no "tell: the frame")
  (case k3 => first | k_asm | ktn_no "tell: the written part")
  (case k4 => first | k_asm | ktn_no "tell: the ledger")
  (case k5 => first | k_asm | ktn_no "tell: the top's facts")
  (case kK => first | exact rfl | assumption | ktn_no "tell: the caller is no def")
  (case kd => first | ktr_room | ktn_no "tell: the frames' room")
  (case ku => first | ktr_units | ktn_no "tell: the C units")
  rintro r' own' h2 tk2 ⟨D', t1', t2', c', rfl, rfl⟩ k2 O2 F2 N2
  rw [List.singleton_append] at N2
  have offD := Own.off O2 N1 _ (.head _)
  (try clear F1); (try clear N1)
  k_steps
  refine Stop9.mk ?_
  rename Fr _ _ _ _ => F3
  rename News _ _ _ _ => N3
  refine storeC9 [(D', tup2 n t1' n t2' c'), (L' + 1, oG)] F3 N3 (c := L' + 2) (o := oR) rfl (.tail _ (.head _)) dR ?sub ?off ?_ rfl rfl
  case sub => intro p hp; simp only [List.mem_cons, List.not_mem_nil, or_false] at hp ⊢; rcases hp with rfl | rfl <;> simp
  case off =>
    intro p hp
    simp only [List.mem_cons, List.not_mem_nil, or_false] at hp
    rcases hp with rfl | rfl
    · exact offD (L' + 2, oR) (.head _)
    · exact Nat.ne_of_lt (Nat.lt_succ_self _)
  intro h4 oR' F4 N4 dR'
  (try clear F2); (try clear N2); (try clear F3); (try clear N3)
  k_steps
  refine Stop9.mk ?_
  refine' comp9c (x := Str.ofString "spot") ?hclos ?hkind ?hnames ?hcl ?hpc ?hx ?_ ?hs
  case hclos => with_unfolding_all rfl
  case hkind => rfl
  case hnames => decide
  case hcl => intro _; rfl
  case hpc => intro _; rfl
  case hx => rfl
  case hs => intro _; rfl
  k_steps
  refine Stop9.mk ?_
  rename Fr _ _ _ _ => F5
  rename News _ _ _ _ => N5
  rename IsRange _ _ _ _ _ _ _ _ => rg
  rename_i kB
  refine ready_rangeN (n := n) rfl rg (small_up (by omega)) (rangeSize_up (by omega)) ?_
  intro h6 I kI RI
  rename Kept _ _ _ _ _ => K4
  refine ⟨h6, _, I, n, _, fun j o y => ZRowIn o y ((List.range n).map fun i => (A.getD i []).getD j 0), rfl, rfl, (RI _ _).older kB, HLe.trans kB kI, Nat.le_trans (by omega) (by decide : 8 ≤ sizeLine), ?elt, ?fin⟩
  case elt =>
    rintro i v oK h tk7 C m E' hi ⟨_, tv, rfl⟩ eK dK hn' hC hk
    obtain ⟨oC, nC, F7, N7⟩ := elt_groundC K4 (HLe.trans kB kI) hk hn' hC eK
    clear F5 N5 K4 RI kI kB rg hk
    k_steps
    refine Stop9.mk ?_
    rename Fr _ _ _ _ => F8
    rename News _ _ _ _ => N8
    rename IsRange _ _ _ _ _ _ _ _ => rg
    rename Kept _ _ _ _ _ => K8
    rename_i kB
    refine ready_rangeN (n := n) rfl rg (small_up (by omega)) (rangeSize_up (by omega)) ?_
    intro h9 I9 kI RI
    refine compAt_pure (fun _ => true) (fun j o y => IntIs y ((A.getD j []).getD i 0)) trivial ((RI _ _).older kB).ready (HLe.trans kB kI) ?hsz (binds_name rfl rfl) ?tst2 ?elt2 ?fin2
    case hsz => exact Nat.le_trans (by omega) (by decide : 8 ≤ sizeLine)
    case tst2 =>
      intro i h tk C m E' _ _ _ _ _
      exact wpAny_tests_nil ⟨rfl, h, tk, rfl, HLe.refl _⟩
    case elt2 =>
      rintro j h5 tk5 C2 mC2 E2 hj - ⟨v2, ⟨_, t2, rfl⟩, mx2⟩ hn2 hC2 hk2
      obtain ⟨oC2, nC2, F9, N9⟩ := elt_ground K8.fr K8.led (HLe.trans kB kI) hk2 hn2 hC2
      obtain ⟨rw, er, ec⟩ := cell_get SA hj hi
      obtain ⟨_, hv, Dr, ws, rfl, lr, ar⟩ := a.get er
      obtain ⟨_, hw, tw, rfl⟩ := ar.get ec
      have hv' : vs[((0 : Int) + (j : Int)).toNat]? = some (.ref Dr) := by rw [show ((0 : Int) + (j : Int)).toNat = j by omega]; exact hv
      have hw' : ws[((0 : Int) + (i : Int)).toNat]? = some (.int ((A.getD j []).getD i 0) tw) := by rw [show ((0 : Int) + (i : Int)).toNat = i by omega]; exact hw
      clear F8 N8 K8 RI kI kB rg hk2
      k_steps
      rename Fr _ _ _ _ => F10
      exact Out.one (own := []) (HLe.refl _) (fun _ h => nomatch h) ⟨_, rfl⟩
    case fin2 =>
      intro D5 h5 tk5 ys own hb hA hO
      refine Out.one hb.le hO (acc_zrow hA (by rw [List.length_map, List.length_range]) ?_)
      intro j o y q eq hR
      rw [List.getElem?_map] at eq
      cases e : (List.range n)[j]? with
      | none => rw [e] at eq; cases eq
      | some x =>
        rw [e] at eq
        cases eq
        have : j = x := by
          obtain ⟨hj, e'⟩ := List.getElem?_eq_some_iff.mp e
          simpa using e'
        subst this
        exact hR
  case fin =>
    intro D5 h5 tk5 ys own hb hA hO
    refine Out.one (HLe.trans K4.fr.keep hb) (Own.old K4.fr.keep hO) (acc_zgrid hA (by unfold turnZ; rw [List.length_map, List.length_range]) ?_)
    intro j o y q eq hR
    unfold turnZ at eq
    rw [List.getElem?_map] at eq
    cases e : (List.range n)[j]? with
    | none => rw [e] at eq; cases eq
    | some x =>
      rw [e] at eq
      cases eq
      have : j = x := by
        obtain ⟨hj, e'⟩ := List.getElem?_eq_some_iff.mp e
        simpa using e'
      subst this
      exact hR
end

/- B15 -/
section
/- Functions of two ints given as values; a for over a list of the base heap -/

theorem fnAt_up {q : Addr} {g h : Heap} (X : FnAt q g) (k : HLe g h) : FnAt q h := by
  obtain ⟨oc, od, fd, sl, e⟩ := X
  exact ⟨oc, od, fd, sl, k _ _ e⟩
theorem fnAt_fr {q : Addr} {g h : Heap} {L : Addr} {m : Str → Option Value} (X : FnAt q g) (F : Fr g L h m) : FnAt q h := fnAt_up X F.keep
theorem fnAt_and {q : Addr} {g h : Heap} {L : Addr} {m : Str → Option Value} {P : Prop} (X : FnAt q g) (F : Fr g L h m) (k : P) : FnAt q h ∧ P := ⟨fnAt_fr X F, k⟩
noncomputable def LamAt (c : Cx) (f : Addr) (k : Nat) (op : Int → Int → Int) (ok : Int → Int → Prop) (h : Heap) : Prop :=
  FnAt f h ∧ ∀ a t b u, ok a b → Tell c f k [.int a t, .int b u] (fun h' => HLe h h') (RInt (op a b))

theorem lam_tell {c : Cx} {name qual : Str} {params : Arguments} {body : Expr} {scope : Scope} {pm ctv : Value} {c' f : Addr} {k : Nat} {vs : List Value} {binds : List (Str × Value)} {Ret : Led → Value → Prop} {h0 : Heap}
    (ho : h0.get? f = some (kla_obj name qual params body scope [] pm c' ctv)) (hcd : h0.CodeRec (.ref c') qual)
    (hbind : bindArgs (kla_fn name qual params body scope [] pm (.ref c') ctv) ⟨vs, []⟩ = pure binds) (hloc : ∀ y ∈ binds, scope.names.lookup y.1 = some .local)
    (hco : scope.isCoroutine = false) (hgen : scope.isGenerator = false) (hk : scope.kind = .function) (hcell : ∀ x ∈ scope.names, x.2 ≠ .cell)
    (h : ∀ (dp un : Nat) (gd : Option (List Code)) (cn : Str) (cs : Scope) (a : Addr) (ccd : Value) (cl : List (Str × Addr)) (outer : List Env) (base g : Heap) (L L' : Addr) (h₁ : Heap) (s : Shared) (tk : Nat),
      dp + k < recursionLimit → un + 8 * k < cLine → cs.kind = .function →
      Below (ktrTop dp un gd cn cs L a ccd cl outer) base (envX cn cs L a ccd cl :: outer) g → Fr g L' h₁ (fun y => binds.reverse.lookup y) → (Mine.hd.heap_39 c.w.params).In g → News g L' h₁ [] →
      Top c.p c.loose c.mean c.mg c.mb g →
      wpAny (model PySem.Challenge.rw_pq0170_01.row.prog c.w) ((ktrTop dp un gd cn cs L a ccd cl outer).deeper (envX qual scope L' f (.ref c') [])) (eval body (envX qual scope L' f (.ref c') [])) (fun v s' => Out g Ret s v s') (fun _ _ => False) { s with heap := h₁, toks := tk }) :
    Tell c f k vs (fun h' => HLe h0 h') Ret := by
  intro dp un gd cn cs a ccd cl outer A₀ base h₀ L m s Q E B F X T hke hd hu P hret
  obtain ⟨FG, BG, st, -⟩ := groundX (R := fun _ _ => True) (A := ktrTop dp un gd cn cs L a ccd cl outer) B F News.nil (env := envX cn cs L a ccd cl) rfl rfl hke
  refine wpAny_call ?_
  have hcd' : s.heap.CodeRec (.ref c') qual := by
    obtain ⟨c₂, oc, vs, t, e2, hoc, hd, hv⟩ := hcd
    exact ⟨c₂, oc, vs, t, e2, P _ _ hoc, hd, hv⟩
  refine kla_callFunE (args := ⟨vs, []⟩) (Nat.lt_of_le_of_lt (Nat.le_add_right _ _) hd) (P _ _ ho) rfl hco hgen rfl hcd' ?_
  rw [hbind]
  refine wpAny_pure (wpAny_newFunctionEnv hcell hloc (fun h₁ hns hsb => ⟨((T.nolimit).keeps F.keep).fresh _ hsb, ?_⟩) hk)
  show codeAny _ _ (.expr body (envX qual scope s.heap.objs.size f (.ref c') [])) _ _
  have hk₁ : ∀ b o, s.heap.get? b = some o → h₁.get? b = some o := fun b o e => hsb.extBut b o (Nat.ne_of_lt (Heap.lt_size e)) (Heap.get?_push_of_some _ e)
  refine kla_codeExpr (wpAny_mono (h dp un gd cn cs a ccd cl outer base s.heap L s.heap.objs.size h₁ s _ hd hu hke ⟨rfl, BG.stays, BG.frames⟩ ⟨hns, hk₁, Nat.le_refl _⟩ (X.keeps F.keep) News.nil (T.keeps F.keep)) (fun v s' hl => hret _ _ hl) fun _ _ y => y.elim)
end

/- D15 -/
section
local macro_rules | `(tactic| walk_at "my none") => `(tactic| skip)
theorem fill_D15 : ∀ c f k vs P R, Tell c f k vs P R → True := by
  w_top off
  unfold Tell
  k_fill
  intros
  trivial

local macro_rules | `(tactic| walk_at "call ref") => `(tactic| (k_here; with_reducible refine stop_call ?_))
local macro_rules | `(tactic| walk_at "exec For Tuple Call cons nil") => `(tactic| (k_here; (rename Fr _ _ _ _ => lF'); (with_unfolding_all refine' For_turns lF' ?_); k_whole))
local macro_rules | `(tactic| walk_at "pyIter ref") => `(tactic| (k_here; (with_reducible refine at_turns ?_); k_dflt (refine made_it (by assumption) rfl ?_)))
local macro_rules | `(tactic| walk_at "execs nil") => `(tactic| (k_here; with_reducible refine stop_turn ?_))
local macro_rules | `(tactic| walk_at "callWith ref") => `(tactic| (k_here; k_dflt (refine callWith_F (fnAt_fr (by assumption) (by k_asm)) ?_); k_whole))
local macro_rules | `(tactic| walk_at "And") => `(tactic| (with_reducible refine fnAt_and (by assumption) (by k_asm) ?_; (try dsimp only [List.nil_append, List.cons_append])))
theorem t_rbc (c : Cx) (p q : Addr) (h0 : Heap) (vr vg : Value) (xs : List Int) (B : List (List Int)) (j n : Nat) (tj : Tok) (H1 : LamAt c p 1 (fun a b => a + b) (fun _ _ => True) h0) (H2 : LamAt c q 1 (fun a b => a * b) IntMulOk h0)
    (hx : xs.length = n) (SB : ZSq B n) (hj : j < n) (hn : n ≤ 3) (hs : ∀ x ∈ xs, x.natAbs < 10000) :
    Tell c 82 2 [vr, vg, .int j tj, .ref p, .ref q] (fun h => HLe h0 h ∧ ZRowAt h vr xs ∧ ZGridAt h vg B) (RInt (dotTo xs B j n)) := by
  refine tell_at ?_
  obtain ⟨fn1, H1⟩ := H1
  obtain ⟨fn2, H2⟩ := H2
  rintro g₀ ⟨hle, ⟨Dr, rs, rfl, lr, ar⟩, ⟨D, vs, rfl, l, a⟩⟩
  have fn1 := fnAt_up fn1 hle
  have fn2 := fnAt_up fn2 hle
  refine' tell_plain (binds := [(Str.ofString "row", .ref Dr), (Str.ofString "grid", .ref D), (Str.ofString "spot", .int j tj), (Str.ofString "plus", .ref p), (Str.ofString "times", .ref q)]) ?ho ?hcd ?hbind ?hloc ?hco ?hgen ?hk ?hcell ?_
  (case ho => k_is)
  (case hcd => k_is)
  (case hbind => (intro _; exact BindsTo.of_eq rfl))
  (case hloc => exact locs rfl)
  (case hco => exact rfl)
  (case hgen => exact rfl)
  (case hk => exact rfl)
  (case hcell => decide)
  rintro dp un gd cn cs a' ccd cl outer base g L L' h₁ s tk hd hu hke B' F' X' N' T' rfl
  k_with_none
  (try dsimp only)
  k_steps
  rename Fr _ _ _ _ => F2
  rename News _ _ _ _ => N2
  rename_i _ _ k9 M9
  refine turns9 (s := ⟨_, s.gens, s.drawn, tk, s.os⟩) (M9.1 _ _ _) k9 F2 N2 (fun i m news => ∃ t, news = [] ∧ m (Str.ofString "row") = some (.ref Dr) ∧ m (Str.ofString "grid") = some (.ref D) ∧ m (Str.ofString "spot") = some (.int j tj) ∧ m (Str.ofString "plus") = some (.ref p) ∧ m (Str.ofString "times") = some (.ref q) ∧ m (Str.ofString "total") = some (.int (dotTo xs B j i) t)) ?J0 ?turn ?done
  case J0 => exact ⟨_, rfl, by with_unfolding_all rfl, by with_unfolding_all rfl, by with_unfolding_all rfl, by with_unfolding_all rfl, by with_unfolding_all rfl, by with_unfolding_all rfl⟩
  case done =>
    rintro m news h tk ⟨t, rfl, m1, m2, m3, m4, m5, m6⟩ F3 N3
    clear F2 N2 M9
    k_steps
    refine Out.intro [] F3 N3 (fun _ h => nomatch h) ⟨rfl, t, ?_⟩
    rw [List.size_toArray, ar.1, hx]
  case turn =>
    rintro i v m news h tk own wr hi ⟨T, x, y, rfl, ⟨⟨tx, rfl⟩, hy⟩, hT⟩ ⟨t, rfl, m1, m2, m3, m4, m5, m6⟩ hoff hwr hown F3 N3
    have il : i < xs.length := by rw [List.size_toArray, ar.1] at hi; exact hi
    rw [List.getElem?_toArray] at hy
    obtain ⟨ty, rfl⟩ := ar.2 i _ _ hy (List.getElem?_eq_getElem il)
    obtain ⟨rw, er, ec⟩ := cell_get SB (show i < n by omega) hj
    obtain ⟨_, hv, Dw, ws, rfl, lw, aw⟩ := a.get er
    obtain ⟨_, hw, tw, rfl⟩ := aw.get ec
    have hv' : vs[((i : Int)).toNat]? = some (.ref Dw) := by rw [Int.toNat_natCast]; exact hv
    have hw' : ws[((j : Int)).toNat]? = some (.int ((B.getD i []).getD j 0) tw) := by rw [Int.toNat_natCast]; exact hw
    have hm : IntMulOk xs[i] ((B.getD i []).getD j 0) := IntMulOk.of_left (bits_of_natAbs_le (b := 9999) (by have := hs _ (List.getElem_mem il); show _ ≤ 9999; omega) (by decide))
    clear F2 N2 k9 M9 hown
    k_steps
    refine Stop9.mk ?_
    rename Fr _ _ _ _ => F4
    rename News _ _ _ _ => N4
    refine' tell_int (H2 _ _ _ _ hm) ?k1 ?k2 ?k3 ?k4 ?k5 ?kK ?kd ?ku ?kP ?_
    case kP => exact HLe.trans hle F4.keep
    (case k1 => first | k_asm | ktn_no "tell: the frames below")
    (case k2 => first | k_asm | ktn_no "tell: the frame")
    (case k3 => first | k_asm | ktn_no "tell: the written part")
    (case k4 => first | k_asm | ktn_no "tell: the ledger")
    (case k5 => first | k_asm | ktn_no "tell: the top's facts")
    (case kK => first | exact rfl | assumption | ktn_no "tell: the caller is no def")
    (case kd => first | ktr_room | ktn_no "tell: the frames' room")
    (case ku => first | ktr_units | ktn_no "tell: the C units")
    intro tr h5 tk5 k5 F5 N5
    (try clear F3); (try clear N3); (try clear F4); (try clear N4)
    k_steps
    refine Stop9.mk ?_
    rename Fr _ _ _ _ => F6
    rename News _ _ _ _ => N6
    refine' tell_int (H1 _ _ _ _ trivial) ?k1 ?k2 ?k3 ?k4 ?k5 ?kK ?kd ?ku ?kP ?_
    case kP => exact HLe.trans hle F6.keep
    (case k1 => first | k_asm | ktn_no "tell: the frames below")
    (case k2 => first | k_asm | ktn_no "tell: the frame")
    (case k3 => first | k_asm | ktn_no "tell: the written part")
    (case k4 => first | k_asm | ktn_no "tell: the ledger")
    (case k5 => first | k_asm | ktn_no "tell: the top's facts")
    (case kK => first | exact rfl | assumption | ktn_no "tell: the caller is no def")
    (case kd => first | ktr_room | ktn_no "tell: the frames' room")
    (case ku => first | ktr_units | ktn_no "tell: the C units")
    intro tr2 h7 tk7 k7 F7 N7
    (try clear F5); (try clear N5); (try clear F6); (try clear N6)
    k_steps
    refine Stop9.mk (wpAny_execs_nil ?_)
    rename Fr _ _ _ _ => F8
    rename News _ _ _ _ => N8
    refine' ⟨_, _, _, [], rfl, F8, N8, (fun _ h => nomatch h), ⟨_, rfl, by with_unfolding_all exact m1, by with_unfolding_all exact m2, by with_unfolding_all exact m3, by with_unfolding_all exact m4, by with_unfolding_all exact m5, ?_⟩⟩
    rotate_left
    · have e : dotTo xs B j (i + 1) = dotTo xs B j i + xs[i] * (B.getD i []).getD j 0 := by
        show _ + xs.getD i 0 * _ = _
        rw [List.getD_eq_getElem?_getD (l := xs), List.getElem?_eq_getElem il]
        rfl
      rw [e]
      with_unfolding_all rfl
end

/- D16 -/
section
theorem fill_D16 : ∀ c f k vs P R, Tell c f k vs P R → True := by
  w_top off
  unfold Tell
  k_fill
  intros
  trivial

local macro_rules | `(tactic| walk_at "call ref") => `(tactic| (k_here; with_reducible refine stop_call ?_))
local macro_rules | `(tactic| walk_at "execs nil") => `(tactic| (k_here; with_reducible refine stop_turn ?_))
local macro_rules | `(tactic| walk_at "exec For Name Name cons nil") => `(tactic| (k_here; (rename Fr _ _ _ _ => lF'); (with_unfolding_all refine' For_turns lF' ?_); k_whole))
local macro_rules | `(tactic| walk_at "pyIter ref") => `(tactic| (k_here; with_reducible refine stop_turns ?_))
local macro_rules | `(tactic| walk_at "pyIter ref") => `(tactic| (k_here; with_reducible refine stop_comp ?_))
local macro_rules | `(tactic| walk_at "storeName") => `(tactic| (k_here; with_reducible refine stop_name (Str.ofString "row") ?_))
theorem tupItem9 {prog : Program} {w : World} {A : Around} {E : Value → Shared → Prop} {s : Shared} {value slice : Expr} {D : Addr} {vs : List Value} {c : Nat} {k : Int} {u : Tok} {v : Value} {Q : Value → Shared → Prop} {h₀ : Heap} {L : Addr} {news : Led} (N : News h₀ L s.heap news) (hm : (D, tupObj vs c) ∈ news)
    (h0 : 0 ≤ k) (h1 : k < vs.length) (hl : vs.length ≤ 1000) (hx : vs[k.toNat]? = some v) (h : Q v s) (hs : subscripted slice false (.ref D) (.int k u) = operate [.ref D, .int k u] (getItem (.ref D) (.int k u))) :
    wpAny (model prog w) A (subscriptTail value slice (.ref D) (.int k u)) Q E s :=
by
  have h2 : k < 1000 := Int.lt_of_lt_of_le h1 (Int.ofNat_le.mpr hl)
  refine item_tupleT (l := vs) (j := k.toNat) (News.isTup N hm) (Int.le_trans (by decide) h0) (Int.lt_trans h2 (by decide)) ?_ hx h hs
  unfold seqIndex?
  have e : ¬ k < 0 := by omega
  simp [e, h0, h1]
local macro_rules | `(tactic| walk_at "subscriptTail Call Name cons nil Constant ref int") => `(tactic| (k_here; k_dflt (refine tupItem9 (by k_asm) (by k_mem) (by decide) (by decide) (by decide) (by rfl) ?_ (by with_unfolding_all rfl))))
local macro_rules | `(tactic| walk_at "exec Assign cons List") => `(tactic| (k_here; (with_reducible refine at_assign ?_); k_dflt (refine wpAny_Assign_Name ?_)))
local macro_rules | `(tactic| walk_at "exec Raise") => `(tactic| (k_here; (refine Stop9.of ?_)))
local macro_rules | `(tactic| walk_at "exec Raise some") => `(tactic| (k_here; (refine Stop9.of ?_)))
local macro_rules | `(tactic| walk_at "exec Raise some none") => `(tactic| (k_here; (refine Stop9.of ?_)))
noncomputable def ReadyG (prog : Program) (w : World) (A : Around) (target : Expr) (base g h : Heap) (I : Addr) (n : Nat) (P : Nat → Value → Heap → Prop) : Prop :=
  ∃ fp wr Md St, Src prog w A target I fp wr n P Md St ∧ St 0 h ∧ (∀ b ∈ fp, b < h.objs.size) ∧ (∀ b ∈ wr, base.get? b = none) ∧ ∀ b ∈ fp, base.get? b = none ∨ ∃ o its k, g.get? b = some o ∧ o.data = .seq its k
theorem ready_listG {prog : Program} {w : World} {A : Around} {E : Value → Shared → Prop} {s : Shared} {g : Heap} {ax : Addr} {items : Array Value} {Q : Value → Shared → Prop} (hh : A.handled = none) (hg : g.IsList ax items) (kg : HLe g s.heap)
    (h : ∀ h' I, HLe s.heap h' → (∀ target, ReadyG prog w A target s.heap g h' I items.size (fun i v _ => items[i]? = some v)) → Q (.ref I) { s with heap := h' }) : wpAny (model prog w) A (pyIter (.ref ax)) Q E s := by
  have hl : s.heap.IsList ax items := hg.at fun o e => kg _ _ e
  have hlt : ax < s.heap.objs.size := by obtain ⟨_, e, _⟩ := hl; exact Heap.lt_size e
  refine wpAny_pyIter_list hl (h _ _ (fun b o e => Heap.get?_push_of_some _ e) fun target => ?_)
  have W := Walks.list (prog := prog) (w := w) hh s.heap.objs.size ax (Nat.ne_of_lt hlt) items
  refine ⟨_, _, _, _, ⟨KTurns.ofWalks W fun i v s Q E st q => letGo_listiter st.1 q, fun s Q E st q => W.self 0 s Q E st q, fun i h st b hb => ?_⟩, ⟨⟨_, Heap.get?_push_size _ rfl, rfl, rfl⟩, hl.push _⟩, fun b hb => ?_, fun b hb => ?_, fun b hb => ?_⟩
  · rw [List.mem_singleton.mp hb]
    obtain ⟨o, e, _⟩ := st.1
    exact ⟨o, e⟩
  · rw [Heap.size_push]
    rcases List.mem_cons.mp hb with rfl | hb
    · exact Nat.lt_succ_self _
    · rw [List.mem_singleton.mp hb]; exact Nat.lt_succ_of_lt hlt
  · rw [List.mem_singleton.mp hb]; exact none_of_size (Nat.le_refl _)
  · rcases List.mem_cons.mp hb with rfl | hb
    · exact .inl (none_of_size (Nat.le_refl _))
    · rw [List.mem_singleton.mp hb]
      obtain ⟨o, e, _, k, d⟩ := hg
      exact .inr ⟨o, _, k, e, d⟩
theorem turns9G {prog : Program} {w : World} {A : Around} {E : Value → Shared → Prop} {s : Shared} {env : Env} {h₀ : Heap} {target : Expr} {body : List Stmt} {Q : Flow → Shared → Prop}
    {h₂ : Heap} {tk₂ : Nat} {I : Addr} {n : Nat} {P : Nat → Value → Heap → Prop} {m₀ : Str → Option Value} {news : Led} (Rd : ReadyG prog w A target s.heap h₀ h₂ I n P) (hk : HLe s.heap h₂) (F : Fr h₀ env.locals s.heap m₀) (N : News h₀ env.locals s.heap news)
    (J : Nat → (Str → Option Value) → Led → Prop) (J0 : J 0 m₀ news)
    (turn : ∀ i v m₁ news₁ h₁ tk₁ own wr, i < n → P i v h₁ → J i m₁ news₁ → (∀ p ∈ news₁, p.1 ∉ wr) → (∀ b ∈ wr, ∃ o, (b, o) ∈ own) → (∀ p ∈ own, s.heap.get? p.1 = none) → Fr h₀ env.locals h₁ m₁ → News h₀ env.locals h₁ (own ++ news₁) →
      wpAny (model prog w) A (assign target env v) (fun _ s₃ => wpAny (model prog w) A (execs body env) (TurnP h₀ env.locals own wr (J (i + 1)) Q { s with heap := h₁, toks := tk₁ }) E s₃) E { s with heap := h₁, toks := tk₁ })
    (done : ∀ m news h tk, J n m news → Fr h₀ env.locals h m → News h₀ env.locals h news → Q .next { s with heap := h, toks := tk }) :
    TurnsAt prog w A h₀ env target body Q E (.ref I) { s with heap := h₂, toks := tk₂ } := by
  obtain ⟨fp, wr, Md, St, S, st, hfp, hwr, hsrc⟩ := Rd
  have base : ∀ b, s.heap.get? b = none → h₀.get? b = none := fun b e => by
    cases q : h₀.get? b with
    | none => rfl
    | some o => rw [F.keep _ _ q] at e; cases e
  refine ⟨I, fp, wr, n, P, Md, St, m₀, news, J, rfl, S.turns, fun hL => ?_, fun b hb => base b (hwr b hb), fun p hp hw => ?_, st, F.keeps hk, N.grown hk, J0, ?_, ?_⟩
  · obtain ⟨o, es, ep, e, d, _⟩ := F.ns
    rcases hsrc _ hL with q | ⟨o', its, k, q, d'⟩
    · rw [q] at e; cases e
    · rw [F.keep _ _ q] at e; cases e; rw [d'] at d; cases d
  · have := (N p hp).1
    rw [hwr _ hw] at this
    cases this
  · intro i v m₁ news₁ h₁ tk₁ own hi hP hJ hoff hown _ hall hst F₁ N₁
    refine wpAny_mono (turn i v m₁ news₁ h₁ tk₁ own wr hi hP hJ hoff (fun b hb => ?_) (fun p hp => ?_) F₁ N₁) (fun _ s₃ h₃ => wpAny_mono h₃ (fun f s₄ h₄ => ?_) fun _ _ e => e) fun _ _ e => e
    · obtain ⟨o, e⟩ := S.there _ _ hst b hb
      exact ⟨o, hall b (S.turns.sub b hb) (base b (hwr b hb)) o e⟩
    · rcases hsrc _ (hown p hp) with q | ⟨o, its, k, q, _⟩
      · exact q
      · have := (N₁ p (List.mem_append_left _ hp)).2.2
        rw [q] at this; cases this
    · have fin : TurnE h₀ env.locals own wr (J (i + 1)) { s with heap := h₁, toks := tk₁ } s₄ → LoopStepU h₀ env.locals wr own (J (i + 1)) { s with heap := h₁, toks := tk₁ } .next s₄ := by
        rintro ⟨h', tk, m₂, news₂, e, F', N', o, j⟩
        exact ⟨rfl, h', tk, m₂, news₂, e, F', N', o, j⟩
      cases f with
      | ret v => exact .ret h₄
      | brk => exact .brk h₄
      | next => exact .next (fin h₄)
      | cont => exact .cont (fin h₄)
  · intro h' tk m' news' F' N' _ hJ
    exact done m' news' h' tk hJ F' N'
theorem append9 {prog : Program} {w : World} {A : Around} {E : Value → Shared → Prop} {s : Shared} {h₀ : Heap} {L : Addr} {m : Str → Option Value} {news : Led} {R : Addr} {rs : List Value} {n : Nat} {v : Value} {Q : Value → Shared → Prop} (keep : Led) (F : Fr h₀ L s.heap m) (N : News h₀ L s.heap news) (hm : (R, lstObj rs n) ∈ news)
    (sub : ∀ p ∈ keep, p ∈ news) (off : ∀ p ∈ keep, p.1 ≠ R) (hsz : rs.length ≤ 1000)
    (h : ∀ h', Fr h₀ L h' m → News h₀ L h' ((R, lstObj (rs ++ [v]) (n + 1)) :: keep) → Q .none { s with heap := h' }) : wpAny (model prog w) A (call (.builtin "list.append") [.ref R, v]) Q E s := by
  have z := N _ hm
  refine append_at z.1 (fun h' hs hR => h h' (F.change hs z.2.1 z.2.2) fun p hp => ?_) (by rw [List.size_toArray]; exact Nat.le_trans hsz (by decide))
  rcases List.mem_cons.mp hp with rfl | hp
  · refine ⟨hR.trans ?_, z.2⟩
    show some (_ : Obj) = some (lstObj (rs ++ [v]) (n + 1))
    simp [lstObj]
  · have := N p (sub p hp)
    exact ⟨(hs.2 _ (off p hp)).trans this.1, this.2⟩
local macro_rules | `(tactic| walk_at "call builtin:list.append") => `(tactic| (k_here; (refine Stop9.of ?_)))
theorem meth9 {prog : Program} {w : World} {A : Around} {E : Value → Shared → Prop} {s : Shared} {pl : Sem Bool} {R : Addr} {rs : List Value} {n : Nat} {Q : Value × List Value → Shared → Prop} {h₀ : Heap} {L : Addr} {news : Led} (N : News h₀ L s.heap news) (hm : (R, lstObj rs n) ∈ news)
    (h : Q (.builtin "list.append", [.ref R]) s) : wpAny (model prog w) A (getMethod (.ref R) (Str.ofString "append") pl) Q E s := getMethod_list_append (N _ hm).1 rfl rfl h
local macro_rules | `(tactic| walk_at "getMethod ref") => `(tactic| (k_here; (refine Stop9.of ?_)))
theorem t_product (c : Cx) (p q : Addr) (h0 : Heap) (vo vt : Value) (A B : List (List Int)) (n : Nat) (H1 : LamAt c p 1 (fun a b => a + b) (fun _ _ => True) h0) (H2 : LamAt c q 1 (fun a b => a * b) IntMulOk h0)
    (SA : ZSq A n) (SB : ZSq B n) (hn0 : 0 < n) (hn : n ≤ 3) (hs : ∀ r ∈ A, ∀ x ∈ r, x.natAbs < 10000) :
    Tell c 75 4 [vo, vt, .ref p, .ref q] (fun h => HLe h0 h ∧ ZGridAt h vo A ∧ ZGridAt h vt B) (fun own r => ZGridIn own r (prodZ A B n)) := by
  refine tell_at ?_
  rintro g₀ ⟨hle, ⟨Do, os, rfl, lo, ao⟩, ⟨D, vs, rfl, l, a⟩⟩
  refine' tell_cells (binds := [(Str.ofString "one", .ref Do), (Str.ofString "other", .ref D), (Str.ofString "plus", .ref p), (Str.ofString "times", .ref q)]) (mm := fun y => if y = Str.ofString "one" then some (.ref Do) else none)
    (CC := fun L' cells => ∃ o₁ o₂ o₃ o₄, cells = [(L' + 4, o₁), (L' + 3, o₂), (L' + 2, o₃), (L' + 1, o₄)] ∧ o₁.data = .cell none ∧ o₂.data = .cell (some (.ref q)) ∧ o₃.data = .cell (some (.ref p)) ∧ o₄.data = .cell (some (.ref D))) ?ho ?hcd ?hbind ?hkind ?hnd ?hco ?hgen ?hk ?hmm ?hCC ?_
  (case ho => k_is)
  (case hcd => k_is)
  (case hbind => (intro _; exact BindsTo.of_eq rfl))
  (case hkind => exact rfl)
  (case hnd => decide +kernel)
  (case hco => exact rfl)
  (case hgen => exact rfl)
  (case hk => exact rfl)
  (case hmm => (intro _; exact rfl))
  case hCC => exact fun _ _ Y => CellsAre.four Y
  rintro dp un gd cn cs a' ccd cl outer base g L L' h₁ s tk cells hd hu hke B' F' X' N' ⟨oR, oT, oP, oG, rfl, dR, dT, dP, dG⟩ T' rfl
  k_with_none
  have gA : ZGridAt g (.ref Do) A := ⟨Do, os, rfl, lo, ao⟩
  have gB : ZGridAt g (.ref D) B := ⟨D, vs, rfl, l, a⟩
  obtain ⟨r0, z0⟩ : ∃ r0, A[0]? = some r0 := ⟨_, List.getElem?_eq_getElem (by rw [SA.len]; exact hn0)⟩
  have z1 : r0.length = n := SA.row _ (List.mem_of_getElem? z0)
  obtain ⟨r1, y0⟩ : ∃ r1, B[0]? = some r1 := ⟨_, List.getElem?_eq_getElem (by rw [SB.len]; exact hn0)⟩
  have y1 : r1.length = n := SB.row _ (List.mem_of_getElem? y0)
  (try dsimp only)
  k_steps
  refine Stop9.mk ?_
  rename Fr _ _ _ _ => F1
  rename News _ _ _ _ => N1
  refine' tell_use (t_grid_shape _ (.ref Do) A r0 n n SA.len z0 z1 (by omega) (by omega)) ?k1 ?k2 ?k3 ?k4 ?k5 ?kK ?kd ?ku ?kP ?_
  case kP => exact gA.mono F1.keep
  (case k1 => first | k_asm | ktn_no "tell: the frames below")
  (case k2 => first | k_asm | ktn_no "tell: the frame")
  (case k3 => first | k_asm | ktn_no "tell: the written part")
  (case k4 => first | k_asm | ktn_no "tell: the ledger")
  (case k5 => first | k_asm | ktn_no "tell: the top's facts")
  (case kK => first | exact rfl | assumption | ktn_no "tell: the caller is no def")
  (case kd => first | ktr_room | ktn_no "tell: the frames' room")
  (case ku => first | ktr_units | ktn_no "tell: the C units")
  rintro r' own' h2 tk2 ⟨D', t1', t2', c', rfl, rfl⟩ k2 O2 F2 N2
  rw [List.singleton_append] at N2
  (try clear F1); (try clear N1)
  k_steps
  refine Stop9.mk ?_
  rename Fr _ _ _ _ => F3
  rename News _ _ _ _ => N3
  refine' tell_use (t_grid_shape _ (.ref D) B r1 n n SB.len y0 y1 (by omega) (by omega)) ?k1 ?k2 ?k3 ?k4 ?k5 ?kK ?kd ?ku ?kP ?_
  case kP => exact gB.mono F3.keep
  (case k1 => first | k_asm | ktn_no "tell: the frames below")
  (case k2 => first | k_asm | ktn_no "tell: the frame")
  (case k3 => first | k_asm | ktn_no "tell: the written part")
  (case k4 => first | k_asm | ktn_no "tell: the ledger")
  (case k5 => first | k_asm | ktn_no "tell: the top's facts")
  (case kK => first | exact rfl | assumption | ktn_no "tell: the caller is no def")
  (case kd => first | ktr_room | ktn_no "tell: the frames' room")
  (case ku => first | ktr_units | ktn_no "tell: the C units")
  rintro r' own' h4 tk4 ⟨D2, t3', t4', c2, rfl, rfl⟩ k4 O4 F4 N4
  rw [List.singleton_append] at N4
  (try clear F2); (try clear N2); (try clear F3); (try clear N3)
  k_steps
  all_goals (try (first | contradiction | (exfalso; omega)))
  refine Stop9.mk ?_
  rename_i Fd _ lt5 h5 F5 N5
  (try clear F4); (try clear N4)
  have N5' : News g L' h5 [(Fd, lstObj [] 0), (L' + 4, oR), (L' + 3, oT), (L' + 2, oP), (L' + 1, oG)] := fun p hp => N5 p (by
    simp only [List.mem_cons, List.not_mem_nil, or_false] at hp ⊢
    rcases hp with rfl | rfl | rfl | rfl | rfl
    · exact .inl rfl
    all_goals simp)
  clear N5
  refine ready_listG rfl lo F5.keep ?_
  intro h6 I k6 R6
  refine turns9G (s := ⟨h5, s.gens, s.drawn, _, s.os⟩) (R6 _) k6 F5 N5' (fun i m news => ∃ ys cF oW vW led, news = (Fd, lstObj ys cF) :: (L' + 4, oW) :: (L' + 3, oT) :: (L' + 2, oP) :: (L' + 1, oG) :: led ∧ oW.data = .cell vW ∧ m (Str.ofString "found") = some (.ref Fd) ∧
    All2 (ZRowIn led) ys ((prodZ A B n).take i) ∧ (∀ p ∈ led, p.1 ≠ Fd ∧ p.1 ≠ L' + 4)) ?J0 ?turn ?done
  case J0 => exact ⟨[], 0, oR, none, [], rfl, dR, by with_unfolding_all rfl, All2.nil, (fun _ h => nomatch h)⟩
  case done =>
    rintro m news h tk ⟨ys, cF, oW, vW, led, rfl, dW, m1, aY, off⟩ F7 N7
    clear F5 N5' R6 k6
    k_steps
    refine Out.intro ((Fd, lstObj ys cF) :: led) F7 N7 ?_ ⟨Fd, ys, cF, rfl, .head _, ?_⟩
    · intro p hp
      rcases List.mem_cons.mp hp with rfl | hp
      · exact .head _
      · exact .tail _ (.tail _ (.tail _ (.tail _ (.tail _ hp))))
    · have e : (prodZ A B n).take os.toArray.size = prodZ A B n := List.take_of_length_le (by rw [List.size_toArray, ao.1]; unfold prodZ; rw [List.length_map]; exact Nat.le_refl _)
      rw [e] at aY
      exact aY.imp fun _ _ r => r.mono fun _ hp => .tail _ hp
  case turn =>
    rintro i v m news h tk own wr hi hv ⟨ys, cF, oW, vW, led, rfl, dW, m1, aY, off⟩ hoff hwr hown F7 N7
    rw [List.getElem?_toArray] at hv
    have il : i < A.length := by rw [List.size_toArray, ao.1] at hi; exact hi
    obtain ⟨Dr, ws, rfl, lr, ar⟩ := ao.2 i v _ hv (List.getElem?_eq_getElem il)
    have offO : ∀ p ∈ own, p.1 ≠ L' + 4 ∧ p.1 ≠ Fd := fun p hp => ⟨fun e => by
      have a := hown p hp
      rw [e] at a
      exact absurd (a.symm.trans (N5' (L' + 4, oR) (.tail _ (.head _))).1) (by simp), fun e => by
      have a := hown p hp
      rw [e] at a
      exact absurd (a.symm.trans (N5' (Fd, lstObj [] 0) (.head _)).1) (by simp)⟩
    clear F5 N5' R6 k6 hown
    k_steps
    refine Stop9.mk ?_
    rename Fr _ _ _ _ => F8
    rename News _ _ _ _ => N8
    refine storeC9 (own ++ (Fd, lstObj ys cF) :: (L' + 3, oT) :: (L' + 2, oP) :: (L' + 1, oG) :: led) F8 N8 (c := L' + 4) (o := oW) rfl (List.mem_append_right _ (.tail _ (.head _))) dW ?sub ?off ?_ rfl rfl
    case sub => walk_at "my sub"
    case off => exact off_app (fun p hp => (offO p hp).1) (off_cons (Nat.ne_of_gt lt5.2.2.1) (off_cons (Nat.ne_of_lt (Nat.lt_succ_self _)) (off_cons (Nat.ne_of_lt (Nat.add_lt_add_left (by decide) _)) (off_cons (Nat.ne_of_lt (Nat.add_lt_add_left (by decide) _)) fun p hp => (off p hp).2))))
    intro h9 oW' F9 N9 dW'
    (try clear F7); (try clear N7); (try clear F8); (try clear N8)
    k_steps
    refine Stop9.mk ?_
    refine meth9 N9 (.tail _ (List.mem_append_right _ (.head _))) ?_
    (try dsimp only)
    have K9 := Kept.mk F9 N9
    have N10 : News g L' h9 [(L' + 4, oW'), (L' + 3, oT), (L' + 2, oP), (L' + 1, oG)] := nsub N9 (by walk_at "my sub")
    have K10 := Kept.mk F9 N10
    clear N9
    k_steps
    refine Stop9.mk ?_
    rename Fr _ _ _ _ => F11
    rename News _ _ _ _ => N11
    refine' tell_use (t_grid_shape _ (.ref D) B r1 n n SB.len y0 y1 (by omega) (by omega)) ?k1 ?k2 ?k3 ?k4 ?k5 ?kK ?kd ?ku ?kP ?_
    case kP => exact gB.mono F11.keep
    (case k1 => first | k_asm | ktn_no "tell: the frames below")
    (case k2 => first | k_asm | ktn_no "tell: the frame")
    (case k3 => first | k_asm | ktn_no "tell: the written part")
    (case k4 => first | k_asm | ktn_no "tell: the ledger")
    (case k5 => first | k_asm | ktn_no "tell: the top's facts")
    (case kK => first | exact rfl | assumption | ktn_no "tell: the caller is no def")
    (case kd => first | ktr_room | ktn_no "tell: the frames' room")
    (case ku => first | ktr_units | ktn_no "tell: the C units")
    rintro r' own' h12 tk12 ⟨D3, t5', t6', c3, rfl, rfl⟩ k12 O12 F12 N12
    rw [List.singleton_append] at N12
    (try clear F11); (try clear N11); (try clear F9); (try clear N10)
    k_steps
    refine Stop9.mk ?_
    rename IsRange _ _ _ _ _ _ _ _ => rg
    rename HLe _ _ => kB
    (try clear F12); (try clear N12)
    refine ready_rangeN (n := n) rfl rg (small_up (by omega)) (rangeSize_up (by omega)) ?_
    intro h14 I2 kI RI
    have kk := HLe.trans k12 kB
    have lenR : (A[i]).length = n := SA.row _ (List.getElem_mem il)
    have smR : ∀ x ∈ A[i], x.natAbs < 10000 := hs _ (List.getElem_mem il)
    refine compAt_pure (s := ⟨h9, s.gens, s.drawn, _, s.os⟩) (fun _ => true) (fun j o y => IntIs y (dotTo A[i] B j n)) trivial ((RI _ _).older kk).ready (HLe.trans kk kI) ?hsz (binds_name rfl rfl) ?tst2 ?elt2 ?fin2
    case hsz => exact Nat.le_trans (by omega) (by decide : 8 ≤ sizeLine)
    case tst2 =>
      intro i h tk C m E' _ _ _ _ _
      exact wpAny_tests_nil ⟨rfl, h, tk, rfl, HLe.refl _⟩
    case elt2 =>
      rintro j h5 tk5 C2 mC2 E2 hj - ⟨v2, ⟨_, t2, rfl⟩, mx2⟩ hn2 hC2 hk2
      rw [Int.zero_add] at mx2
      obtain ⟨oC2, nC2, F15, N15⟩ := elt_ground K10.fr K10.led (HLe.trans kk kI) hk2 hn2 hC2
      clear K9 K10 RI kI kB kk rg hk2
      k_steps
      refine Stop9.mk ?_
      rename Fr _ _ _ _ => F16
      rename News _ _ _ _ => N16
      refine' tell_int (t_rbc c p q h0 (.ref Dr) (.ref D) A[i] B j n t2 H1 H2 lenR SB hj hn smR) ?k1 ?k2 ?k3 ?k4 ?k5 ?kK ?kd ?ku ?kP ?_
      case kP => exact ⟨HLe.trans hle F16.keep, ⟨Dr, ws, rfl, lr.at fun o e => F16.keep _ _ e, ar⟩, gB.mono F16.keep⟩
      (case k1 => first | k_asm | ktn_no "tell: the frames below")
      (case k2 => first | k_asm | ktn_no "tell: the frame")
      (case k3 => first | k_asm | ktn_no "tell: the written part")
      (case k4 => first | k_asm | ktn_no "tell: the ledger")
      (case k5 => first | k_asm | ktn_no "tell: the top's facts")
      (case kK => first | exact rfl | assumption | ktn_no "tell: the caller is no def")
      (case kd => first | ktr_room | ktn_no "tell: the frames' room")
      (case ku => first | ktr_units | ktn_no "tell: the C units")
      intro tr h17 tk17 k17 F17 N17
      exact Out.one (own := []) k17 (fun _ h => nomatch h) ⟨_, rfl⟩
    case fin2 =>
      intro D5 h16 tk16 ys2 own2 hb hA hO
      have K16 := Kept.mk (Fr.grow K9.fr hb.le) (News.grow K9.fr K9.led hb.le hO)
      have offN := Own.off hO K9.led
      have gI : ZRowIn ((D5, lst9 ys2) :: own2) (.ref D5) ((List.range n).map fun j => dotTo A[i] B j n) := acc_zrow hA (by rw [List.length_map, List.length_range]) (by
        intro j o y q eq hR
        rw [List.getElem?_map] at eq
        cases e : (List.range n)[j]? with
        | none => rw [e] at eq; cases eq
        | some x =>
          rw [e] at eq
          cases eq
          have : j = x := by
            obtain ⟨hj, e'⟩ := List.getElem?_eq_some_iff.mp e
            simpa using e'
          subst this
          exact hR)
      clear K9 K10 RI kI kB kk rg hb hA hO
      k_steps
      refine Stop9.mk ?_
      (try rename Fr _ _ _ _ => FX)
      (try rename News _ _ _ _ => NX)
      (try clear FX); (try clear NX)
      refine append9 (s := ⟨h16, s.gens, s.drawn, _, s.os⟩) (((D5, lst9 ys2) :: own2) ++ (L' + 4, oW') :: (own ++ (L' + 3, oT) :: (L' + 2, oP) :: (L' + 1, oG) :: led)) K16.fr K16.led (List.mem_append_right _ (.tail _ (List.mem_append_right _ (.head _)))) ?sub9 ?off9 ?sz9 ?_
      case sub9 => walk_at "my sub"
      case off9 => exact off_app (fun p hp => offN p hp (Fd, lstObj ys cF) (.tail _ (List.mem_append_right _ (.head _)))) (off_cons (Nat.ne_of_lt lt5.2.2.1) (off_app (fun p hp => (offO p hp).2) (off_cons (Nat.ne_of_lt lt5.2.2.2.1) (off_cons (Nat.ne_of_lt lt5.2.2.2.2.1) (off_cons (Nat.ne_of_lt lt5.2.2.2.2.2) fun p hp => (off p hp).1)))))
      case sz9 =>
        have := aY.1
        rw [List.length_take] at this
        have h2 : (prodZ A B n).length = n := by unfold prodZ; rw [List.length_map, SA.len]
        omega
      intro h17 F17 N17
      k_steps
      refine Stop9.mk (wpAny_execs_nil ?_)
      refine ⟨h17, _, _, (Fd, lstObj (ys ++ [.ref D5]) (cF + 1)) :: (L' + 4, oW') :: (L' + 3, oT) :: (L' + 2, oP) :: (L' + 1, oG) :: (((D5, lst9 ys2) :: own2) ++ led), rfl, F17, ?_, ?_, ⟨_, _, _, _, _, rfl, dW', m1, ?_, ?_⟩⟩
      · exact nsub N17 (by walk_at "my sub")
      · have old : ∀ q : Addr × Obj, q ∈ (Fd, lstObj ys cF) :: (L' + 4, oW) :: (L' + 3, oT) :: (L' + 2, oP) :: (L' + 1, oG) :: led → q.1 ∉ wr := hoff
        exact out_cons (old (Fd, lstObj ys cF) (.head _)) (out_cons (old (L' + 4, oW) (.tail _ (.head _))) (out_cons (old (L' + 3, oT) (.tail _ (.tail _ (.head _)))) (out_cons (old (L' + 2, oP) (.tail _ (.tail _ (.tail _ (.head _))))) (out_cons (old (L' + 1, oG) (.tail _ (.tail _ (.tail _ (.tail _ (.head _)))))) (out_app
          (fun p hp hw => by
            obtain ⟨o, ho⟩ := hwr _ hw
            exact offN p hp _ (.tail _ (List.mem_append_left _ ho)) rfl)
          fun p hp => old p (.tail _ (.tail _ (.tail _ (.tail _ (.tail _ hp))))))))))
      · have e : (prodZ A B n).take (i + 1) = (prodZ A B n).take i ++ [(List.range n).map fun j => dotTo A[i] B j n] := by
          have h2 : i < (prodZ A B n).length := by unfold prodZ; rw [List.length_map]; exact il
          rw [List.take_add_one, List.getElem?_eq_getElem h2]
          simp [prodZ]
        rw [e]
        exact All2.snoc (aY.imp fun _ _ r => r.mono fun _ hp => List.mem_append_right _ hp) (gI.mono fun _ hp => List.mem_append_left _ hp)
      · intro p hp
        rcases List.mem_append.mp hp with hp | hp
        · exact ⟨offN p hp (Fd, lstObj ys cF) (.tail _ (List.mem_append_right _ (.head _))), offN p hp (L' + 4, oW') (.head _)⟩
        · exact off p hp
end

/- M6 -/
section
/- The law's own sums: what they are of the grids that the law builds -/

theorem two3 {n : Nat} (h0 : 1 < n) (hn : n ≤ 3) : n = 2 ∨ n = 3 := by
  cases Nat.le_iff_lt_or_eq.mp hn with
  | inr e => exact .inr e
  | inl h => exact .inl (Nat.le_antisymm (Nat.le_of_lt_succ h) h0)
theorem len1 {α : Type} {l : List α} (h : l.length = 1) : ∃ a, l = [a] := by
  cases l with
  | nil => cases h
  | cons a l => cases List.eq_nil_of_length_eq_zero (Nat.succ.inj h); exact ⟨a, rfl⟩
theorem len2 {α : Type} {l : List α} (h : l.length = 2) : ∃ a b, l = [a, b] := by
  cases l with
  | nil => cases h
  | cons a l => obtain ⟨b, rfl⟩ := len1 (Nat.succ.inj h); exact ⟨a, b, rfl⟩
theorem len3 {α : Type} {l : List α} (h : l.length = 3) : ∃ a b c, l = [a, b, c] := by
  cases l with
  | nil => cases h
  | cons a l => obtain ⟨b, c, rfl⟩ := len2 (Nat.succ.inj h); exact ⟨a, b, c, rfl⟩
theorem sq1 {A : List (List Int)} (S : ZSq A 1) : ∃ a, A = [[a]] := by
  obtain ⟨r, rfl⟩ := len1 S.len
  obtain ⟨a, rfl⟩ := len1 (S.row r (by simp))
  exact ⟨a, rfl⟩
theorem sq2 {A : List (List Int)} (S : ZSq A 2) : ∃ a b c d, A = [[a, b], [c, d]] := by
  obtain ⟨r, q, rfl⟩ := len2 S.len
  obtain ⟨a, b, rfl⟩ := len2 (S.row r (by simp))
  obtain ⟨c, d, rfl⟩ := len2 (S.row q (by simp))
  exact ⟨a, b, c, d, rfl⟩
theorem sq3 {A : List (List Int)} (S : ZSq A 3) : ∃ a b c d e f g h i, A = [[a, b, c], [d, e, f], [g, h, i]] := by
  obtain ⟨r, q, p, rfl⟩ := len3 S.len
  obtain ⟨a, b, c, rfl⟩ := len3 (S.row r (by simp))
  obtain ⟨d, e, f, rfl⟩ := len3 (S.row q (by simp))
  obtain ⟨g, h, i, rfl⟩ := len3 (S.row p (by simp))
  exact ⟨a, b, c, d, e, f, g, h, i, rfl⟩
theorem law1 (a : Int) : lawSum 1 [[a]] = a := by
  show 0 + a * 1 * 1 = a
  omega
theorem law2 (a b c d : Int) : lawSum 2 [[a, b], [c, d]] = a * d - c * b := by
  show 0 + a * (0 + d * 1 * 1) * 1 + c * (0 + b * 1 * 1) * -1 = _
  grind
theorem law3 (a b c d e f g h i : Int) : lawSum 3 [[a, b, c], [d, e, f], [g, h, i]] = a * (e * i - h * f) - d * (b * i - h * c) + g * (b * f - e * c) := by
  show 0 + a * lawSum 2 [[e, f], [h, i]] * 1 + d * lawSum 2 [[b, c], [h, i]] * -1 + g * lawSum 2 [[b, c], [e, f]] * 1 = _
  rw [law2, law2, law2]
  grind
theorem cast_sub (a b : Int) : ((a - b : Int) : Rat) = (a : Rat) - b := by push_cast; rfl
theorem det_law {A : List (List Int)} {n : Nat} (S : ZSq A n) (h0 : 0 < n) (hn : n ≤ 3) : detC n (ratGrid A) id = ((lawSum n A : Int) : Rat) := by
  rcases one3 h0 hn with rfl | rfl | rfl
  ·
    obtain ⟨a, rfl⟩ := sq1 S
    rw [law1]; rfl
  ·
    obtain ⟨a, b, c, d, rfl⟩ := sq2 S
    rw [law2]
    show (a : Rat) * (d : Rat) - (b : Rat) * (c : Rat) = _
    push_cast
    grind
  ·
    obtain ⟨a, b, c, d, e, f, g, h, i, rfl⟩ := sq3 S
    rw [law3]
    show (a : Rat) * ((e : Rat) * i - (f : Rat) * h) - (d : Rat) * ((b : Rat) * i - (c : Rat) * h) + (g : Rat) * ((b : Rat) * f - (c : Rat) * e) = _
    push_cast
    grind
theorem ratGrid_shape' {A : List (List Int)} {n : Nat} (S : ZSq A n) : Shape (ratGrid A) n n := ⟨by unfold ratGrid; rw [List.length_map]; exact S.len, fun r hr => by
  unfold ratGrid at hr
  obtain ⟨x, hx, rfl⟩ := List.mem_map.mp hr
  unfold ratRow
  rw [List.length_map]
  exact S.row x hx⟩
theorem told_law {A : List (List Int)} {n : Nat} {t : Rat} (S : ZSq A n) (h0 : 0 < n) (hn : n ≤ 3) (T : Told (ratGrid A) n t) : t = ((lawSum n A : Int) : Rat) := by
  rw [told_det hn (ratGrid_shape' S) (Nat.le_refl _) T]
  exact det_law S h0 hn

theorem law_turn {A : List (List Int)} {n : Nat} (S : ZSq A n) (h0 : 0 < n) (hn : n ≤ 3) : ZSq (turnZ A n) n ∧ lawSum n (turnZ A n) = lawSum n A := by
  refine ⟨⟨by simp [turnZ], fun r hr => by unfold turnZ at hr; obtain ⟨x, _, rfl⟩ := List.mem_map.mp hr; simp⟩, ?_⟩
  rcases one3 h0 hn with rfl | rfl | rfl
  · obtain ⟨a, rfl⟩ := sq1 S; rfl
  ·
    obtain ⟨a, b, c, d, rfl⟩ := sq2 S
    show lawSum 2 [[a, c], [b, d]] = _
    rw [law2, law2]; grind
  ·
    obtain ⟨a, b, c, d, e, f, g, h, i, rfl⟩ := sq3 S
    show lawSum 3 [[a, d, g], [b, e, h], [c, f, i]] = _
    rw [law3, law3]; grind
theorem law_prod {A B : List (List Int)} {n : Nat} (S : ZSq A n) (S' : ZSq B n) (h0 : 0 < n) (hn : n ≤ 3) : ZSq (prodZ A B n) n ∧ lawSum n (prodZ A B n) = lawSum n A * lawSum n B := by
  refine ⟨⟨by unfold prodZ; rw [List.length_map, S.len], fun r hr => by unfold prodZ at hr; obtain ⟨x, _, rfl⟩ := List.mem_map.mp hr; simp⟩, ?_⟩
  rcases one3 h0 hn with rfl | rfl | rfl
  ·
    obtain ⟨a, rfl⟩ := sq1 S
    obtain ⟨b, rfl⟩ := sq1 S'
    show lawSum 1 [[0 + a * b]] = _
    rw [law1, law1, law1]; grind
  ·
    obtain ⟨a, b, c, d, rfl⟩ := sq2 S
    obtain ⟨a', b', c', d', rfl⟩ := sq2 S'
    show lawSum 2 [[0 + a * a' + b * c', 0 + a * b' + b * d'], [0 + c * a' + d * c', 0 + c * b' + d * d']] = _
    rw [law2, law2, law2]; grind
  ·
    obtain ⟨a, b, c, d, e, f, g, h, i, rfl⟩ := sq3 S
    obtain ⟨a', b', c', d', e', f', g', h', i', rfl⟩ := sq3 S'
    show lawSum 3 [[0 + a * a' + b * d' + c * g', 0 + a * b' + b * e' + c * h', 0 + a * c' + b * f' + c * i'], [0 + d * a' + e * d' + f * g', 0 + d * b' + e * e' + f * h', 0 + d * c' + e * f' + f * i'], [0 + g * a' + h * d' + i * g', 0 + g * b' + h * e' + i * h', 0 + g * c' + h * f' + i * i']] = _
    rw [law3, law3, law3]; grind
noncomputable def scaleZ (f : Int) (A : List (List Int)) : List (List Int) := (A.getD 0 []).map (f * ·) :: A.drop 1
theorem law_scale {A : List (List Int)} {n : Nat} (f : Int) (S : ZSq A n) (h0 : 0 < n) (hn : n ≤ 3) : ZSq (scaleZ f A) n ∧ lawSum n (scaleZ f A) = f * lawSum n A := by
  rcases one3 h0 hn with rfl | rfl | rfl
  ·
    obtain ⟨a, rfl⟩ := sq1 S
    exact ⟨⟨rfl, by simp [scaleZ]⟩, by show lawSum 1 [[f * a]] = _; rw [law1, law1]⟩
  ·
    obtain ⟨a, b, c, d, rfl⟩ := sq2 S
    exact ⟨⟨rfl, by simp [scaleZ]⟩, by show lawSum 2 [[f * a, f * b], [c, d]] = _; rw [law2, law2]; grind⟩
  ·
    obtain ⟨a, b, c, d, e, g, h, i, j, rfl⟩ := sq3 S
    exact ⟨⟨rfl, by simp [scaleZ]⟩, by show lawSum 3 [[f * a, f * b, f * c], [d, e, g], [h, i, j]] = _; rw [law3, law3]; grind⟩
/-- the first row, the rows between, the last row -/
noncomputable def endsZ (A : List (List Int)) (n x y : Nat) : List (List Int) := A.getD x [] :: ((A.drop 1).take (n - 2) ++ [A.getD y []])
theorem law_swap {A : List (List Int)} {n : Nat} (S : ZSq A n) (h0 : 1 < n) (hn : n ≤ 3) : ZSq (endsZ A n (n - 1) 0) n ∧ lawSum n (endsZ A n (n - 1) 0) = 0 - lawSum n A := by
  rcases two3 h0 hn with rfl | rfl
  ·
    obtain ⟨a, b, c, d, rfl⟩ := sq2 S
    exact ⟨⟨rfl, by simp [endsZ]⟩, by show lawSum 2 [[c, d], [a, b]] = _; rw [law2, law2]; grind⟩
  ·
    obtain ⟨a, b, c, d, e, g, h, i, j, rfl⟩ := sq3 S
    exact ⟨⟨rfl, by simp [endsZ]⟩, by show lawSum 3 [[h, i, j], [d, e, g], [a, b, c]] = _; rw [law3, law3]; grind⟩
theorem law_twice {A : List (List Int)} {n : Nat} (S : ZSq A n) (h0 : 1 < n) (hn : n ≤ 3) : ZSq (endsZ A n 0 0) n ∧ lawSum n (endsZ A n 0 0) = 0 := by
  rcases two3 h0 hn with rfl | rfl
  ·
    obtain ⟨a, b, c, d, rfl⟩ := sq2 S
    exact ⟨⟨rfl, by simp [endsZ]⟩, by show lawSum 2 [[a, b], [a, b]] = _; rw [law2]; grind⟩
  ·
    obtain ⟨a, b, c, d, e, g, h, i, j, rfl⟩ := sq3 S
    exact ⟨⟨rfl, by simp [endsZ]⟩, by show lawSum 3 [[a, b, c], [d, e, g], [a, b, c]] = _; rw [law3]; grind⟩
/-- the sides as a last column; as column i -/
noncomputable def augZ (A : List (List Int)) (s : List Int) : Mat := List.zipWith (fun (r : List Int) (b : Int) => ratRow r ++ [(b : Rat)]) A s
noncomputable def replZ (A : List (List Int)) (s : List Int) (i : Nat) : List (List Int) := List.zipWith (fun r b => r.take i ++ [b] ++ r.drop (i + 1)) A s
theorem aug_shape {A : List (List Int)} {s : List Int} {n : Nat} (S : ZSq A n) (hs : s.length = n) : Shape (augZ A s) n (n + 1) := by
  refine ⟨by unfold augZ; rw [List.length_zipWith, S.len, hs, Nat.min_self], fun r hr => ?_⟩
  unfold augZ at hr
  obtain ⟨i, hi⟩ := List.mem_iff_getElem?.mp hr
  rw [List.getElem?_zipWith] at hi
  cases e1 : A[i]? with
  | none => rw [e1] at hi; cases hi
  | some a =>
    cases e2 : s[i]? with
    | none => rw [e1, e2] at hi; cases hi
    | some b =>
      rw [e1, e2] at hi
      cases hi
      rw [List.length_append, ratRow, List.length_map, S.row a (List.mem_of_getElem? e1)]
      rfl
theorem det_aug {A : List (List Int)} {s : List Int} {n : Nat} (S : ZSq A n) (hs : s.length = n) (h0 : 0 < n) (hn : n ≤ 3) : detC n (augZ A s) id = ((lawSum n A : Int) : Rat) := by
  rcases one3 h0 hn with rfl | rfl | rfl
  ·
    obtain ⟨a, rfl⟩ := sq1 S
    obtain ⟨x, rfl⟩ := len1 hs
    rw [law1]; rfl
  ·
    obtain ⟨a, b, c, d, rfl⟩ := sq2 S
    obtain ⟨x, y, rfl⟩ := len2 hs
    rw [law2]
    show (a : Rat) * (d : Rat) - (b : Rat) * (c : Rat) = _
    push_cast
    grind
  ·
    obtain ⟨a, b, c, d, e, f, g, h, i, rfl⟩ := sq3 S
    obtain ⟨x, y, z, rfl⟩ := len3 hs
    rw [law3]
    show (a : Rat) * ((e : Rat) * i - (f : Rat) * h) - (d : Rat) * ((b : Rat) * i - (c : Rat) * h) + (g : Rat) * ((b : Rat) * f - (c : Rat) * e) = _
    push_cast
    grind
theorem det_repl {A : List (List Int)} {s : List Int} {n k : Nat} (S : ZSq A n) (hs : s.length = n) (hn : n ≤ 3) (hk : k < n) : detC n (augZ A s) (colTo k n) = ((lawSum n (replZ A s k) : Int) : Rat) := by
  rcases one3 (Nat.lt_of_le_of_lt (Nat.zero_le _) hk) hn with rfl | rfl | rfl
  · cases lt1 hk
    obtain ⟨a, rfl⟩ := sq1 S
    obtain ⟨x, rfl⟩ := len1 hs
    show _ = ((lawSum 1 [[x]] : Int) : Rat)
    rw [law1]; rfl
  · rcases lt2 hk with rfl | rfl
    ·
      obtain ⟨a, b, c, d, rfl⟩ := sq2 S
      obtain ⟨x, y, rfl⟩ := len2 hs
      show _ = ((lawSum 2 [[x, b], [y, d]] : Int) : Rat)
      rw [law2]
      show (x : Rat) * (d : Rat) - (b : Rat) * (y : Rat) = _
      push_cast
      grind
    ·
      obtain ⟨a, b, c, d, rfl⟩ := sq2 S
      obtain ⟨x, y, rfl⟩ := len2 hs
      show _ = ((lawSum 2 [[a, x], [c, y]] : Int) : Rat)
      rw [law2]
      show (a : Rat) * (y : Rat) - (x : Rat) * (c : Rat) = _
      push_cast
      grind
  · rcases lt3 hk with rfl | rfl | rfl
    ·
      obtain ⟨a, b, c, d, e, f, g, h, i, rfl⟩ := sq3 S
      obtain ⟨x, y, z, rfl⟩ := len3 hs
      show _ = ((lawSum 3 [[x, b, c], [y, e, f], [z, h, i]] : Int) : Rat)
      rw [law3]
      show (x : Rat) * ((e : Rat) * i - (f : Rat) * h) - (y : Rat) * ((b : Rat) * i - (c : Rat) * h) + (z : Rat) * ((b : Rat) * f - (c : Rat) * e) = _
      push_cast
      grind
    ·
      obtain ⟨a, b, c, d, e, f, g, h, i, rfl⟩ := sq3 S
      obtain ⟨x, y, z, rfl⟩ := len3 hs
      show _ = ((lawSum 3 [[a, x, c], [d, y, f], [g, z, i]] : Int) : Rat)
      rw [law3]
      show (a : Rat) * ((y : Rat) * i - (f : Rat) * z) - (d : Rat) * ((x : Rat) * i - (c : Rat) * z) + (g : Rat) * ((x : Rat) * f - (c : Rat) * y) = _
      push_cast
      grind
    ·
      obtain ⟨a, b, c, d, e, f, g, h, i, rfl⟩ := sq3 S
      obtain ⟨x, y, z, rfl⟩ := len3 hs
      show _ = ((lawSum 3 [[a, b, x], [d, e, y], [g, h, z]] : Int) : Rat)
      rw [law3]
      show (a : Rat) * ((e : Rat) * z - (y : Rat) * h) - (d : Rat) * ((b : Rat) * z - (x : Rat) * h) + (g : Rat) * ((b : Rat) * y - (x : Rat) * e) = _
      push_cast
      grind
theorem repl_sq {A : List (List Int)} {s : List Int} {n k : Nat} (S : ZSq A n) (hs : s.length = n) (hk : k < n) : ZSq (replZ A s k) n := by
  refine ⟨by unfold replZ; rw [List.length_zipWith, S.len, hs, Nat.min_self], fun r hr => ?_⟩
  unfold replZ at hr
  obtain ⟨i, hi⟩ := List.mem_iff_getElem?.mp hr
  rw [List.getElem?_zipWith] at hi
  cases e1 : A[i]? with
  | none => rw [e1] at hi; cases hi
  | some a =>
    cases e2 : s[i]? with
    | none => rw [e1, e2] at hi; cases hi
    | some b =>
      rw [e1, e2] at hi
      cases hi
      have := S.row a (List.mem_of_getElem? e1)
      simp only [List.length_append, List.length_take, List.length_drop, List.length_cons, List.length_nil, this]
      omega
/-- told = 0, or the ith place of the solved rows is Cramer's quotient -/
theorem told_aug {A : List (List Int)} {s : List Int} {n : Nat} {t : Rat} (S : ZSq A n) (hs : s.length = n) (h0 : 0 < n) (hn : n ≤ 3) (T : Told (augZ A s) n t) : t = ((lawSum n A : Int) : Rat) := by
  rw [told_det hn (aug_shape S hs) (Nat.le_succ _) T]
  exact det_aug S hs h0 hn
theorem cramer_num {A : List (List Int)} {s : List Int} {n k : Nat} {M : Mat} {t : Rat} (S : ZSq A n) (hs : s.length = n) (hn : n ≤ 3) (hk : k < n) (R : Reach (augZ A s) n n M t) :
    (at2 M k n).num * lawSum n A = (at2 M k n).den * lawSum n (replZ A s k) := by
  have e := cramer hn hk (aug_shape S hs) (Nat.lt_succ_self _) R
  rw [det_aug S hs (by omega) hn, det_repl S hs hn hk] at e
  generalize at2 M k n = q at e
  have hd : ((q.den : Int) : Rat) ≠ 0 := fun z => den_ne q (Rat.intCast_inj.mp z)
  have h1 : (q.num : Rat) = q * ((q.den : Int) : Rat) := by
    have hq : q = (q.num : Rat) / ((q.den : Int) : Rat) := by rw [← Rat.divInt_eq_div, Rat.num_divInt_den]
    conv => rhs; lhs; rw [hq]
    grind
  have : ((q.num * lawSum n A : Int) : Rat) = (((q.den : Int) * lawSum n (replZ A s k) : Int) : Rat) := by
    rw [Rat.intCast_mul, Rat.intCast_mul, ← e, h1]
    grind
  exact Rat.intCast_inj.mp this
theorem mulBound {x y : Int} {a b : Nat} (h : x.natAbs ≤ a) (k : y.natAbs ≤ b) : (x * y).natAbs ≤ a * b := by
  rw [Int.natAbs_mul]
  exact Nat.mul_le_mul h k
theorem law_bound {A : List (List Int)} {n b : Nat} (S : ZSq A n) (h0 : 0 < n) (hn : n ≤ 3) (h : ∀ r ∈ A, ∀ a ∈ r, a.natAbs ≤ b) (hb : 1 ≤ b) : (lawSum n A).natAbs ≤ 6 * (b * (b * b)) := by
  have hb1 : b ≤ b * b := by simpa using Nat.mul_le_mul_left b hb
  have hb2 : b * b ≤ b * (b * b) := Nat.mul_le_mul_left b hb1
  have hh : ∀ x y : Int, x.natAbs ≤ b → y.natAbs ≤ b → (x * y).natAbs ≤ b * b := fun x y hx hy => mulBound hx hy
  have hm : ∀ x y z : Int, x.natAbs ≤ b → y.natAbs ≤ b * b → z.natAbs ≤ b * b → (x * (y - z)).natAbs ≤ b * (b * b) + b * (b * b) := fun x y z hx hy hz => by
    have := mulBound hx (show (y - z).natAbs ≤ b * b + b * b by omega)
    rwa [Nat.mul_add] at this
  rcases one3 h0 hn with rfl | rfl | rfl
  ·
    obtain ⟨a, rfl⟩ := sq1 S
    rw [law1]
    have := h [a] (by simp) a (by simp)
    omega
  ·
    obtain ⟨x, y, z, w, rfl⟩ := sq2 S
    rw [law2]
    simp at h
    obtain ⟨⟨h1, h2⟩, h3, h4⟩ := h
    have a1 := hh x w h1 h4
    have a2 := hh z y h3 h2
    omega
  ·
    obtain ⟨a, x, c, d, e, f, g, y, i, rfl⟩ := sq3 S
    rw [law3]
    simp at h
    obtain ⟨⟨h1, h2, h3⟩, ⟨h4, h5, h6⟩, h7, h8, h9⟩ := h
    have a1 := hm a (e * i) (y * f) h1 (hh _ _ h5 h9) (hh _ _ h8 h6)
    have a2 := hm d (x * i) (y * c) h4 (hh _ _ h2 h9) (hh _ _ h8 h3)
    have a3 := hm g (x * f) (e * c) h7 (hh _ _ h2 h6) (hh _ _ h5 h3)
    omega
end

/- B16 -/
section
/- Lists joined, copied, compared -/

noncomputable def dPair (x y : Int) : PyData := .tuple [.int x, .int y]
noncomputable def dRow (qs : List Rat) : PyData := .list (qs.map fun q => dPair q.num q.den)
noncomputable def dGrid (M : List (List Rat)) : PyData := .list (M.map dRow)
theorem reads_pair {h : Heap} {v : Value} {x y : Int} (r : PairAt h v x y) : Reads h v (dPair x y) [] := by
  obtain ⟨D, t, u, rfl, o, e, c, n, d⟩ := r
  exact .tuple e c d (.cons (as := []) (bs := []) (.int x t) (.cons (as := []) (bs := []) (.int y u) .nil))
theorem reads_all {α : Type} {R : Value → α → Prop} {f : α → PyData} {h : Heap} (k : ∀ v x, R v x → ∃ as, Reads h v (f x) as) : ∀ {vs : List Value} {xs : List α}, All2 R vs xs → ∃ as, ReadsAll h vs (xs.map f) as
  | vs, [], a => by
    have := a.unnil
    subst this
    exact ⟨[], .nil⟩
  | vs, x :: xs, a => by
    obtain ⟨v, vs', rfl, r, a'⟩ := a.uncons
    obtain ⟨as, ra⟩ := k v x r
    obtain ⟨bs, rb⟩ := reads_all k a'
    exact ⟨as ++ bs, .cons ra rb⟩
theorem reads_row {h : Heap} {v : Value} {qs : List Rat} (r : RowAt h v qs) : ∃ as, Reads h v (dRow qs) as := by
  obtain ⟨D, vs, rfl, ⟨o, e, c, n, d⟩, a⟩ := r
  obtain ⟨as, ra⟩ := reads_all (f := fun q : Rat => dPair q.num q.den) (fun v x r => ⟨[], reads_pair r⟩) a
  exact ⟨_, .list e c d (by simpa using ra)⟩
theorem reads_grid {h : Heap} {v : Value} {M : List (List Rat)} (r : GridAt h v M) : ∃ as, Reads h v (dGrid M) as := by
  obtain ⟨D, vs, rfl, ⟨o, e, c, n, d⟩, a⟩ := r
  obtain ⟨as, ra⟩ := reads_all (f := dRow) (fun v x r => reads_row r) a
  exact ⟨_, .list e c d (by simpa using ra)⟩
theorem canLay_row (qs : List Rat) : (dRow qs).canLay0 = true := by
  show PyData.canLayAll0 _ = true
  induction qs with
  | nil => rfl
  | cons q qs ih => show ((dPair q.num q.den).canLay0 && PyData.canLayAll0 (qs.map fun q => dPair q.num q.den)) = true; rw [ih]; rfl
theorem canLay_grid (M : List (List Rat)) : (dGrid M).canLay0 = true := by
  show PyData.canLayAll0 _ = true
  induction M with
  | nil => rfl
  | cons q qs ih => simp [PyData.canLayAll0, canLay_row, ih]
theorem depth_row (qs : List Rat) : (dRow qs).depth ≤ 2 := by
  show PyData.depthAll _ + 1 ≤ 2
  have : PyData.depthAll (qs.map fun q => dPair q.num q.den) ≤ 1 := by
    induction qs with
    | nil => exact Nat.zero_le _
    | cons q qs ih =>
      show max (PyData.depth (dPair q.num q.den)) (PyData.depthAll (qs.map fun q => dPair q.num q.den)) ≤ 1
      have e : PyData.depth (dPair q.num q.den) = 1 := by simp [dPair, PyData.depth, PyData.depthAll]
      omega
  omega
theorem depth_grid (M : List (List Rat)) : (dGrid M).depth ≤ 3 := by
  show PyData.depthAll _ + 1 ≤ 3
  have : PyData.depthAll (M.map dRow) ≤ 2 := by
    induction M with
    | nil => exact Nat.zero_le _
    | cons q qs ih =>
      have := depth_row q
      simp only [List.map_cons, PyData.depthAll]
      omega
  omega
section
variable {prog : Program} {w : World} {A : Around} {E : Value → Shared → Prop} {s : Shared} {h₀ : Heap} {L : Addr} {m : Str → Option Value} {news : Led} {Q : Value → Shared → Prop}
theorem ne_same9 {a b : Value} {d : PyData} {as bs : List Addr} (ra : Reads s.heap a d as) (rb : Reads s.heap b d bs) (hc : d.canLay0 = true) (hd : d.depth ≤ 3) (hu : A.units + 64 < cLine) (h : Q (.bool false) s) : wpAny (model prog w) A (compareOp .NotEq a b) Q E s := by
  have hs : SeqAt.shaped d = true := by
    unfold SeqAt.shaped
    rw [hc]
    simpa using Nat.le_trans hd (by decide)
  exact ne_dataH ra rb hs hs hu (by rw [show PyData.eqv d d = true from SeqAt.eqv_refl d hc]; exact h)
theorem ne_pairs {a b : Value} {x y : Int} (ra : PairAt s.heap a x y) (rb : PairAt s.heap b x y) (hu : A.units + 64 < cLine) (h : Q (.bool false) s) : wpAny (model prog w) A (compareOp .NotEq a b) Q E s :=
  ne_same9 (reads_pair ra) (reads_pair rb) rfl (by simp [dPair, PyData.depth, PyData.depthAll]) hu h
theorem ne_rows {a b : Value} {qs : List Rat} (ra : RowAt s.heap a qs) (rb : RowAt s.heap b qs) (hu : A.units + 64 < cLine) (h : Q (.bool false) s) : wpAny (model prog w) A (compareOp .NotEq a b) Q E s := by
  obtain ⟨_, ra⟩ := reads_row ra
  obtain ⟨_, rb⟩ := reads_row rb
  exact ne_same9 ra rb (canLay_row _) (Nat.le_trans (depth_row _) (by decide)) hu h
theorem ne_grids {a b : Value} {M : List (List Rat)} (ra : GridAt s.heap a M) (rb : GridAt s.heap b M) (hu : A.units + 64 < cLine) (h : Q (.bool false) s) : wpAny (model prog w) A (compareOp .NotEq a b) Q E s := by
  obtain ⟨_, ra⟩ := reads_grid ra
  obtain ⟨_, rb⟩ := reads_grid rb
  exact ne_same9 ra rb (canLay_grid _) (depth_grid _) hu h
theorem lcopy9 {l : Addr} {vs : List Value} (F : Fr h₀ L s.heap m) (N : News h₀ L s.heap news) (hl : s.heap.IsList l vs.toArray)
    (h : ∀ D c h', HLe s.heap h' → Own s.heap h' [(D, lstObj vs c)] → Fr h₀ L h' m → News h₀ L h' ((D, lstObj vs c) :: news) → Q (.ref D) { s with heap := h' }) (hsz : vs.length ≤ 1000) :
    wpAny (model prog w) A (call (.type "list") [.ref l]) Q E s := by
  obtain ⟨o, ho, hc, n, hd⟩ := hl
  refine call_list_seq (hsz := by rw [List.size_toArray]; exact Nat.le_trans hsz (by decide)) l (.inl rfl) ho hc hd fun h' c' hk hD => ?_
  have O : Own s.heap h' [(s.heap.objs.size, lstObj vs c')] := fun p hp => by
    rw [List.mem_singleton.mp hp]
    exact ⟨hD, none_of_size (Nat.le_refl _)⟩
  exact h _ c' h' hk O (F.keeps hk) (News.grow F N hk O)
theorem addl9 {l b : Addr} {vs ws : List Value} (F : Fr h₀ L s.heap m) (N : News h₀ L s.heap news) (hl : s.heap.IsList l vs.toArray) (hb : s.heap.IsList b ws.toArray)
    (h : ∀ D h', HLe s.heap h' → Own s.heap h' [(D, lstObj (vs ++ ws) 0)] → Fr h₀ L h' m → News h₀ L h' ((D, lstObj (vs ++ ws) 0) :: news) → Q (.ref D) { s with heap := h' }) (hsz : vs.length + ws.length ≤ 1000) :
    wpAny (model prog w) A (binaryOp .Add (.ref l) (.ref b)) Q E s := by
  obtain ⟨⟨cls, dd, data, sl⟩, ho, hc, n, hd⟩ := id hl
  obtain ⟨⟨cls2, dd2, data2, sl2⟩, ho2, hc2, n2, hd2⟩ := id hb
  simp only at hc hd hc2 hd2
  subst hc hd hc2 hd2
  have e : vs.toArray ++ ws.toArray = (vs ++ ws).toArray := by simp
  refine concat_meets ⟨_, ho, rfl⟩ ⟨_, ho2, rfl⟩ noFill_list_add seq_list_add PySem.F.slot_list_add PySem.F.entry_list_add (PySem.F.args_list_add_2 _ _) (list_addW l b vs.toArray ws.toArray n n2 dd dd2 sl sl2 (by simpa using Nat.le_trans hsz (by decide))) ⟨ho, ho2, ?_⟩
  rw [e]
  exact h _ _ (fun _ _ x => Heap.get?_push_of_some _ x) (own_push rfl) (F.push _) (News.push F N _)
theorem slice9t {value slice : Expr} {l : Addr} {vs zs : List Value} {vl vu : Value} {lo hi : Option Int} (F : Fr h₀ L s.heap m) (N : News h₀ L s.heap news) (hl : s.heap.IsList l vs.toArray) (pl : IsPart vl lo) (pu : IsPart vu hi) (e : kms_pick vs lo hi = zs)
    (h : ∀ D h', HLe s.heap h' → Own s.heap h' [(D, lstObj zs 0)] → Fr h₀ L h' m → News h₀ L h' ((D, lstObj zs 0) :: news) → Q (.ref D) { s with heap := h' })
    (hs : subscripted slice false (.ref l) (.ref s.heap.objs.size) = operate [.ref s.heap.objs.size, .ref l] (getItem (.ref l) (.ref s.heap.objs.size))) (hz : vs.length ≤ 1000) :
    wpAny (model prog w) A (subscriptTail value slice (.ref l) (.ref s.heap.objs.size)) Q E { s with heap := s.heap.push { cls := .type "slice", data := .fields #[vl, vu, .none] } } := by
  refine tail_any (Heap.IsList.typeIs (s := { s with heap := s.heap.push { cls := .type "slice", data := .fields #[vl, vu, .none] } }) (hl.push _)) list_getitem_lookup
    (wpAny_getItem_list_slice (hl.push _) (Heap.IsSliceOf.new ..) pl pu .none (by simp) ?_ (by rw [List.size_toArray]; exact Nat.le_trans hz (by decide))) hs
  have e' : slicePick vs.toArray lo hi none = zs.toArray := by rw [kms_pick_eq, ← e]
  rw [e']
  have k : HLe s.heap ((s.heap.push { cls := .type "slice", data := .fields #[vl, vu, .none] }).push { cls := .type "list", data := .seq zs.toArray }) := fun b o x => Heap.get?_push_of_some _ (Heap.get?_push_of_some _ x)
  have O : Own s.heap ((s.heap.push { cls := .type "slice", data := .fields #[vl, vu, .none] }).push { cls := .type "list", data := .seq zs.toArray }) [(s.heap.objs.size + 1, lstObj zs 0)] := fun p hp => by
    rw [List.mem_singleton.mp hp]
    refine ⟨?_, none_of_size (Nat.le_succ _)⟩
    have := Heap.get?_push_size (s.heap.push { cls := .type "slice", data := .fields #[vl, vu, .none] }) (o := { cls := .type "list", data := .seq zs.toArray }) rfl
    rw [Heap.size_push] at this
    exact this
  show Q (.ref (s.heap.push _).objs.size) _
  rw [Heap.size_push]
  exact h _ _ k O (Fr.grow F k) (News.grow F N k O)
end
end

/- D17 -/
section
theorem fill_D17 : ∀ c f k vs P R, Tell c f k vs P R → True := by
  w_top off
  unfold Tell
  k_fill
  intros
  trivial

local macro_rules | `(tactic| walk_at "call ref") => `(tactic| (k_here; with_reducible refine stop_call ?_))
local macro_rules | `(tactic| walk_at "execs nil") => `(tactic| (k_here; with_reducible refine stop_turn ?_))
local macro_rules | `(tactic| walk_at "newTuple") => `(tactic| (k_here; (fail_if_success (rename Go9 => g9)); (refine Stop9.of ?_)))
local macro_rules | `(tactic| walk_at "newList") => `(tactic| (k_here; (refine Stop9.of ?_)))
local macro_rules | `(tactic| walk_at "newTuple cons") => `(tactic| (k_here; (fail_if_success (rename Go9 => g9)); (refine Stop9.of ?_)))
local macro_rules | `(tactic| walk_at "newList cons") => `(tactic| (k_here; (refine Stop9.of ?_)))
local macro_rules | `(tactic| walk_at "binaryOp Add ref ref") => `(tactic| (k_here; (refine Stop9.of ?_)))
local macro_rules | `(tactic| walk_at "call type:list") => `(tactic| (k_here; (refine Stop9.of ?_)))
local macro_rules | `(tactic| walk_at "storeName") => `(tactic| (k_here; with_reducible refine stop_name (Str.ofString "at") ?_))
local macro_rules | `(tactic| walk_at "compareOp NotEq ref ref") => `(tactic| (k_here; (refine Stop9.of ?_)))
local macro_rules | `(tactic| walk_at "subscriptTail") => `(tactic| (k_here; with_reducible refine stop_item ?_))
local macro_rules | `(tactic| walk_at "subscriptTail Name Slice ref ref") => `(tactic| (k_here; with_reducible refine stop_item ?_))
local macro_rules | `(tactic| walk_at "subscriptTail Subscript Name Name Slice ref ref") => `(tactic| (k_here; with_reducible refine stop_item ?_))
local macro_rules | `(tactic| walk_at "exec For Name Call cons nil") => `(tactic| (k_here; (with_reducible refine at_for (Str.ofString "at") ?_); (rename Fr _ _ _ _ => lF'); (with_unfolding_all refine' For_turns lF' ?_); k_whole))
local macro_rules | `(tactic| walk_at "pyIter ref") => `(tactic| (k_here; with_reducible refine stop_turns ?_))
local macro_rules | `(tactic| walk_at "pyIter ref") => `(tactic| (k_here; with_reducible refine stop_compR (by assumption) ?_))
theorem Own.step {h h1 h2 : Heap} {o1 o2 : Led} (k : HLe h h1) (O : Own h h1 o1) (k2 : HLe h1 h2) (O2 : Own h1 h2 o2) : Own h h2 (o2 ++ o1) := fun p hp => by
  rcases List.mem_append.mp hp with hp | hp
  · exact Own.old k O2 p hp
  · exact ⟨k2 _ _ (O p hp).1, (O p hp).2⟩
theorem All2.append {α β : Type} {T : α → β → Prop} {xs xs' : List α} {ys ys' : List β} (h : All2 T xs ys) (h' : All2 T xs' ys') : All2 T (xs ++ xs') (ys ++ ys') := by
  refine ⟨by rw [List.length_append, List.length_append, h.1, h'.1], fun i a b e f => ?_⟩
  rw [List.getElem?_append] at e f
  rw [h.1] at e
  split at e
  · rename_i hi
    rw [if_pos hi] at f
    exact h.2 i a b e f
  · rename_i hi
    rw [if_neg hi] at f
    exact h'.2 _ a b e f
theorem All2.take {α β : Type} {T : α → β → Prop} {xs : List α} {ys : List β} (k : Nat) (h : All2 T xs ys) : All2 T (xs.take k) (ys.take k) :=
  ⟨by rw [List.length_take, List.length_take, h.1], fun i a b e f => by
    rw [List.getElem?_take] at e f
    split at e
    · rename_i hk; rw [if_pos hk] at f; exact h.2 _ a b e f
    · cases e⟩
noncomputable def unitRow (i n : Nat) : List Rat := (List.range n).map fun j => if i = j then (1 : Rat) else 0
theorem unitRow_get {i n j : Nat} {q : Rat} (h : (unitRow i n)[j]? = some q) : q = if i = j then 1 else 0 := by
  unfold unitRow at h
  rw [List.getElem?_map] at h
  cases e : (List.range n)[j]? with
  | none => rw [e] at h; cases h
  | some x =>
    rw [e] at h
    have : j = x := by
      obtain ⟨hj, e'⟩ := List.getElem?_eq_some_iff.mp e
      simpa using e'
    subst this
    exact (Option.some.inj h).symm
theorem unit_take {M : Mat} {n w i : Nat} (S : Shape M n w) (hw : n ≤ w) (hi : i < n) (u : ∀ r j, r < n → j < n → j < n → at2 M r j = if r = j then 1 else 0) : (rowAt M i).take n = unitRow i n := by
  apply List.ext_getElem?
  intro j
  rw [List.getElem?_take]
  by_cases hj : j < n
  · rw [if_pos hj, at2_get (by rw [S.rowLen hi]; omega), u i j hi hj hj]
    unfold unitRow
    rw [List.getElem?_map, List.getElem?_range hj]
    rfl
  · rw [if_neg hj]
    unfold unitRow
    rw [List.getElem?_eq_none (by simp; omega)]
theorem pair_unit {own : Led} {v : Value} {i j : Nat} (h : PairIn own v (if i = j then 1 else 0) 1) : RatIn own v (if i = j then (1 : Rat) else 0) := by
  unfold RatIn
  split <;> rename_i e
  · rw [if_pos e] at h; exact h
  · rw [if_neg e] at h; exact h
theorem repl_get {A : List (List Int)} {s : List Int} {i j : Nat} {r : List Int} (h : (replZ A s i)[j]? = some r) : ∃ a b, A[j]? = some a ∧ s[j]? = some b ∧ r = a.take i ++ [b] ++ a.drop (i + 1) := by
  unfold replZ at h
  rw [List.getElem?_zipWith] at h
  cases e1 : A[j]? with
  | none => rw [e1] at h; cases h
  | some a =>
    cases e2 : s[j]? with
    | none => rw [e1, e2] at h; cases h
    | some b => rw [e1, e2] at h; exact ⟨a, b, rfl, rfl, (Option.some.inj h).symm⟩
theorem repl_small {A : List (List Int)} {s : List Int} {i b : Nat} (hA : ∀ r ∈ A, ∀ a ∈ r, a.natAbs ≤ b) (hs : ∀ x ∈ s, x.natAbs ≤ b) : ∀ r ∈ replZ A s i, ∀ a ∈ r, a.natAbs ≤ b := by
  intro r hr a ha
  obtain ⟨j, hj⟩ := List.mem_iff_getElem?.mp hr
  obtain ⟨x, y, e1, e2, rfl⟩ := repl_get hj
  simp only [List.mem_append, List.mem_singleton] at ha
  rcases ha with (ha | rfl) | ha
  · exact hA x (List.mem_of_getElem? e1) a (List.mem_of_mem_take ha)
  · exact hs a (List.mem_of_getElem? e2)
  · exact hA x (List.mem_of_getElem? e1) a (List.mem_of_mem_drop ha)
theorem coprime_no {q : Rat} {k : Nat} (h1 : Int.fmod q.num (2 + (k : Int)) = 0) (h2 : Int.fmod (q.den : Int) (2 + (k : Int)) = 0) : False := by
  rw [Int.fmod_eq_emod_of_nonneg _ (by omega)] at h1 h2
  have d1 : ((2 + k : Nat) : Int) ∣ q.num := by
    rw [Int.natCast_add]
    exact Int.dvd_of_emod_eq_zero h1
  have d2 : ((2 + k : Nat) : Int) ∣ (q.den : Int) := by
    rw [Int.natCast_add]
    exact Int.dvd_of_emod_eq_zero h2
  have d1' : (2 + k) ∣ q.num.natAbs := by have := Int.natAbs_dvd_natAbs.mpr d1; rwa [Int.natAbs_natCast] at this
  have d2' : (2 + k) ∣ q.den := Int.natCast_dvd_natCast.mp d2
  have : (2 + k) ∣ Nat.gcd q.num.natAbs q.den := Nat.dvd_gcd d1' d2'
  rw [q.reduced.gcd_eq_one] at this
  have := Nat.le_of_dvd (by decide) this
  omega
theorem den_small {q : Rat} {w p : Int} {b : Nat} (e : q.num * w = q.den * p) (hw : w ≠ 0) (hb : w.natAbs ≤ b) : q.den ≤ b := by
  have d : q.den ∣ q.num.natAbs * w.natAbs := by
    rw [← Int.natAbs_mul, e, Int.natAbs_mul, Int.natAbs_natCast]
    exact Nat.dvd_mul_right _ _
  have : q.den ∣ w.natAbs := Nat.Coprime.dvd_of_dvd_mul_left q.reduced.symm d
  have := Nat.le_of_dvd (by omega) this
  omega
theorem aug_get {A : List (List Int)} {s : List Int} {i : Nat} {q : List Rat} (h : (augZ A s)[i]? = some q) : ∃ r b, A[i]? = some r ∧ s[i]? = some b ∧ q = ratRow r ++ [(b : Rat)] := by
  unfold augZ at h
  rw [List.getElem?_zipWith] at h
  cases e1 : A[i]? with
  | none => rw [e1] at h; cases h
  | some a =>
    cases e2 : s[i]? with
    | none => rw [e1, e2] at h; cases h
    | some b => rw [e1, e2] at h; exact ⟨a, b, rfl, rfl, (Option.some.inj h).symm⟩
theorem fit_small {a : Int} (h : a.natAbs < 128) : Fit 8 (a : Rat) := fit_int (by decide) (bits_of_natAbs_le (b := 127) (by omega) (by decide))
theorem aug_fit {A : List (List Int)} {s : List Int} (hA : ∀ r ∈ A, ∀ a ∈ r, a.natAbs < 128) (hs : ∀ x ∈ s, x.natAbs < 128) : MatFit 8 (augZ A s) := fun r hr q hq => by
  obtain ⟨i, hi⟩ := List.mem_iff_getElem?.mp hr
  obtain ⟨r', b, e1, e2, rfl⟩ := aug_get hi
  rcases List.mem_append.mp hq with hq | hq
  · obtain ⟨a, ha, rfl⟩ := List.mem_map.mp hq
    exact fit_small (hA _ (List.mem_of_getElem? e1) a ha)
  · rw [List.mem_singleton.mp hq]
    exact fit_small (hs b (List.mem_of_getElem? e2))
theorem t_right (c : Cx) (vg vs : Value) (tw : Tok) (A : List (List Int)) (sd : List Int) (n : Nat) (SA : ZSq A n) (hs : sd.length = n) (hn0 : 0 < n) (hn : n ≤ 3) (hA : ∀ r ∈ A, ∀ a ∈ r, a.natAbs ≤ 10) (hsd : ∀ x ∈ sd, x.natAbs ≤ 10) :
    Tell c 184 10 [vg, vs, .int (lawSum n A) tw] (fun h => ZGridAt h vg A ∧ ZRowAt h vs sd) (fun own r => own = [] ∧ r = .bool true) := by
  refine tell_at ?_
  rintro g₀ ⟨⟨Dg, gs, rfl, lg, ag⟩, ⟨Ds, ss, rfl, ls, as⟩⟩
  refine' tell_cells (binds := [(Str.ofString "grid", .ref Dg), (Str.ofString "sides", .ref Ds), (Str.ofString "whole", .int (lawSum n A) tw)]) (mm := fun y => if y = Str.ofString "whole" then some (.int (lawSum n A) tw) else if y = Str.ofString "sides" then some (.ref Ds) else if y = Str.ofString "grid" then some (.ref Dg) else none)
    (CC := fun L' cells => ∃ o, cells = [(L' + 1, o)] ∧ o.data = .cell none) ?ho ?hcd ?hbind ?hkind ?hnd ?hco ?hgen ?hk ?hmm ?hCC ?_
  (case ho => k_is)
  (case hcd => k_is)
  (case hbind => (intro _; exact BindsTo.of_eq rfl))
  (case hkind => exact rfl)
  (case hnd => decide +kernel)
  (case hco => exact rfl)
  (case hgen => exact rfl)
  (case hk => exact rfl)
  (case hmm => (intro _; exact rfl))
  case hCC => exact fun _ _ Y => CellsAre.one Y
  rintro dp un gd cn cs a' ccd cl outer base g L L' h₁ s tk cells hd hu hke B' F' X' N' ⟨oF, rfl, dF⟩ T' rfl
  k_with_none
  have e1 : (gs.toArray.size : Int) = (n : Int) := by rw [List.size_toArray, ag.1, SA.len]
  (try dsimp only)
  k_steps
  rename Fr _ _ _ _ => F3
  rename News _ _ _ _ => N3
  rename_i _ _ k9 M9
  have min1 : min gs.toArray.size ss.toArray.size = n := by rw [List.size_toArray, List.size_toArray, ag.1, as.1, SA.len, hs, Nat.min_self]
  refine compAt_pure (fun _ => true) (fun j o y => ∀ q, (augZ A sd)[j]? = some q → RowIn o y q) ⟨(fun h => nomatch h), (fun _ h => nomatch h)⟩ (M9.1 _ _ _) k9 ?hsz (binds_pair rfl rfl rfl rfl (by decide)) ?tst ?elt ?fin
  case hsz => rw [min1]; exact Nat.le_trans (by omega) (by decide : 8 ≤ sizeLine)
  case tst =>
    intro i h tk C m E' _ _ _ _ _
    exact wpAny_tests_nil ⟨rfl, h, tk, rfl, HLe.refl _⟩
  case elt =>
    rintro i h4 tk4 C mC E' hi - ⟨x, y, ⟨hx, hy⟩, mx, my⟩ hn' hC hk
    rw [min1] at hi
    rw [List.getElem?_toArray] at hx hy
    obtain ⟨oC, nC, F4, N4⟩ := elt_ground F3 N3 k9 hk hn' hC
    have il : i < A.length := by rw [SA.len]; exact hi
    have is : i < sd.length := by rw [hs]; exact hi
    obtain ⟨Dr, ws, rfl, lr, ar⟩ := ag.2 i _ _ hx (List.getElem?_eq_getElem il)
    obtain ⟨ts, rfl⟩ := as.2 i _ _ hy (List.getElem?_eq_getElem is)
    have lenR : (A[i]).length = n := SA.row _ (List.getElem_mem il)
    clear F3 N3 k9 M9 hk
    k_steps
    rename Fr _ _ _ _ => F5
    rename News _ _ _ _ => N5
    rename_i _ _ k10 M10
    refine compAt_pure (fun _ => true) (fun j o y => ∀ x, (A[i])[j]? = some x → RRat (x : Rat) o y) trivial (M10 _) k10 ?hsz2 (binds_name rfl rfl) ?tst2 ?elt2 ?fin2
    case hsz2 => rw [List.size_toArray, ar.1, lenR]; exact Nat.le_trans (by omega) (by decide : 8 ≤ sizeLine)
    case tst2 =>
      intro i h tk C m E' _ _ _ _ _
      exact wpAny_tests_nil ⟨rfl, h, tk, rfl, HLe.refl _⟩
    case elt2 =>
      rintro j h5 tk5 C2 mC2 E2 hj - ⟨v2, ⟨_, hv2⟩, mx2⟩ hn2 hC2 hk2
      obtain ⟨oC2, nC2, F6, N6⟩ := elt_ground F5 N5 k10 hk2 hn2 hC2
      rw [List.getElem?_toArray] at hv2
      have jl : j < (A[i]).length := by rw [List.size_toArray, ar.1] at hj; exact hj
      obtain ⟨t2, rfl⟩ := ar.2 j v2 _ hv2 (List.getElem?_eq_getElem jl)
      clear F5 N5 k10 M10 hk2
      k_steps
      refine Stop9.mk ?_
      rename Fr _ _ _ _ => F7
      rename News _ _ _ _ => N7
      refine tup9 (s := ⟨h5, s.gens, s.drawn, _, s.os⟩) F7 N7 ?_ (by show 2 ≤ sizeLine; decide)
      intro D7 h7 k7 O7 _ _
      refine Out.one k7 O7 ?_
      intro x hx
      rw [List.getElem?_eq_getElem jl] at hx
      cases hx
      exact rat_int ⟨D7, _, _, _, rfl, rfl⟩
    case fin2 =>
      intro D5 h5 tk5 ys own hb hA2 hO
      have kb := hb.le
      have aR : All2 (RatIn own) ys (ratRow A[i]) := acc_list (T := RatIn) (fun _ _ _ _ r k => PairIn.mono r k) hA2 (by rw [List.size_toArray, ar.1]; unfold ratRow; rw [List.length_map]) (by
        intro j o y q eq hR
        obtain ⟨x, ex, rfl⟩ := ratRow_get eq
        obtain ⟨D', t', u', c', rfl, rfl⟩ := hR x ex
        exact ⟨D', t', u', c', rfl, .head _⟩)
      have F6 := Fr.grow F5 kb
      have N6 : News g L' h5 _ := N5.grown kb
      clear F5 N5 k10 M10 hb
      k_steps
      refine Stop9.mk ?_
      refine tup9 (s := ⟨h5, s.gens, s.drawn, _, s.os⟩) F6 N6 ?_ (by show 2 ≤ sizeLine; decide)
      intro D8 h8 k8 O8 F8 N8
      (try clear F6); (try clear N6)
      k_steps
      refine Stop9.mk ?_
      refine lst9n (s := ⟨h8, s.gens, s.drawn, _, s.os⟩) F8 N8 ?_ (by show 1 ≤ sizeLine; decide)
      intro D9 h9 k9 O9 F9 N9
      (try clear F8); (try clear N8)
      k_steps
      refine Stop9.mk ?_
      have O9' : Own h4 h9 _ := Own.step kb hO (HLe.trans k8 k9) (Own.step k8 O8 k9 O9)
      refine addl9 (s := ⟨h9, s.gens, s.drawn, _, s.os⟩) (vs := ys) F9 N9 ⟨_, (O9' _ (List.mem_append_right _ (.head _))).1, rfl, _, rfl⟩ (News.isList N9 (.head _)) ?_ ?_
      · intro D10 h10 k10 O10 _ _
        refine Out.one (HLe.trans kb (HLe.trans k8 (HLe.trans k9 k10))) (Own.step (HLe.trans kb (HLe.trans k8 k9)) O9' k10 O10) ?_
        intro q eq
        obtain ⟨r, b, er, eb, rfl⟩ := aug_get eq
        rw [List.getElem?_eq_getElem il] at er
        rw [List.getElem?_eq_getElem is] at eb
        cases er
        cases eb
        refine' ⟨D10, _, 0, rfl, List.mem_append_left _ (.head _), All2.append (aR.imp fun _ _ r => PairIn.mono r fun p hp => List.mem_append_right _ (List.mem_append_right _ (.tail _ hp))) (All2.cons ⟨D8, ts, tk5, 0, rfl, ?_⟩ All2.nil)⟩
        rw [Rat.num_intCast, Rat.den_intCast]
        exact List.mem_append_right _ (List.mem_append_left _ (.tail _ (.head _)))
      · have := (acc_all hA2).1
        rw [List.size_toArray, ar.1] at this
        show ys.length + 1 ≤ 1000
        omega
  case fin =>
    intro D5 h5 tk5 ys own hb hA2 hO F5
    rw [min1] at hA2
    have N5a := News.growBut F3 N3 hb hO
    have aG : All2 (RowIn own) ys (augZ A sd) := acc_list (T := RowIn) (fun _ _ _ _ r k => r.mono k) hA2 (by unfold augZ; rw [List.length_zipWith, SA.len, hs, Nat.min_self]) fun j o y q eq hR => hR q eq
    have N5 : News g L' h5 ((L' + 1, oF) :: (D5, lst9 ys) :: own) := fun p hp => N5a p (by
      rcases List.mem_cons.mp hp with rfl | hp
      · exact List.mem_append_right _ (.head _)
      · exact List.mem_append_left _ hp)
    have aH : All2 (RowAt h5) ys (augZ A sd) := aG.imp fun _ _ r => r.at fun p hp => (N5 p (.tail _ (.tail _ hp))).1
    have lenM : (augZ A sd).length = n := (aug_shape SA hs).len
    clear F3 N3 hb hO N5a M9 k9
    k_steps
    rename Fr _ _ _ _ => F6
    rename News _ _ _ _ => N6
    rename_i _ _ k9 M9
    refine compAt_pure (fun _ => true) (fun j o y => ∀ q, (augZ A sd)[j]? = some q → ∃ D us c, y = .ref D ∧ (D, lstObj us c) ∈ o ∧ All2 (RatIn own) us q) ⟨(fun h => nomatch h), (fun _ h => nomatch h)⟩ (M9 _) k9 ?hszb (binds_name rfl rfl) ?tstb ?eltb ?finb
    case hszb => rw [List.size_toArray, aG.1, lenM]; exact Nat.le_trans (by omega) (by decide : 8 ≤ sizeLine)
    case tstb =>
      intro i h tk C m E' _ _ _ _ _
      exact wpAny_tests_nil ⟨rfl, h, tk, rfl, HLe.refl _⟩
    case eltb =>
      rintro i h6 tk6 C mC E' hi - ⟨v, ⟨_, hv⟩, mx⟩ hn' hC hk
      obtain ⟨oC, nC, F7, N7⟩ := elt_ground F6 N6 k9 hk hn' hC
      rw [List.getElem?_toArray] at hv
      have il : i < (augZ A sd).length := by rw [List.size_toArray, aG.1] at hi; exact hi
      obtain ⟨Dr, us, cr, rfl, lr, ar⟩ := aG.2 i v _ hv (List.getElem?_eq_getElem il)
      have lenU : us.length = n + 1 := by rw [ar.1]; exact (aug_shape SA hs).row _ (List.getElem_mem il)
      have N7' : News g L' h6 [(C, oC)] := fun p hp => N7 p (by rw [List.mem_singleton.mp hp]; exact .head _)
      have lr6 : h6.IsList Dr us.toArray := News.isList N7 (.tail _ (.tail _ (.tail _ lr)))
      clear F6 N6 k9 M9 hk N7
      k_steps
      refine Stop9.mk ?_
      refine lcopy9 (s := ⟨h6, s.gens, s.drawn, _, s.os⟩) (vs := us) F7 N7' lr6 ?_ (by omega)
      intro D8 c8 h8 k8 O8 _ _
      refine Out.one k8 O8 ?_
      intro q eq
      rw [List.getElem?_eq_getElem il] at eq
      cases eq
      exact ⟨D8, us, c8, rfl, .head _, ar⟩
    case finb =>
      intro D6 h6 tk6 ys2 own2 hb hA3 hO F7
      have N7a := News.growBut F6 N6 hb hO
      rw [List.size_toArray, aG.1, lenM] at hA3
      have aK := acc_list (T := fun o y q => ∃ D us c, y = .ref D ∧ (D, lstObj us c) ∈ o ∧ All2 (RatIn own) us q) (fun o o' v x r k => by
        obtain ⟨D, us, c, e, hm, a⟩ := r
        exact ⟨D, us, c, e, k _ hm, a⟩) hA3 lenM (fun j o y q eq hR => hR q eq)
      have N7 : News g L' h6 ((L' + 1, oF) :: (D5, lst9 ys) :: (D6, lst9 ys2) :: (own2 ++ own)) := nsub N7a (by walk_at "my sub")
      have g5 : GridIn ((D5, lst9 ys) :: (own2 ++ own)) (.ref D5) (augZ A sd) := ⟨D5, ys, _, rfl, .head _, aG.imp fun _ _ r => r.mono fun _ hp => .tail _ (List.mem_append_right _ hp)⟩
      have g6 : GridIn ((D6, lst9 ys2) :: (own2 ++ own)) (.ref D6) (augZ A sd) := ⟨D6, ys2, _, rfl, .head _, aK.imp fun _ _ r => by
        obtain ⟨D, us, c, e, hm, a⟩ := r
        exact ⟨D, us, c, e, .tail _ (List.mem_append_left _ hm), a.imp fun _ _ r => PairIn.mono r fun _ hp => .tail _ (List.mem_append_right _ hp)⟩⟩
      clear F6 N6 N7a hb hO hA3 aK hA2 k9 M9 aG aH
      k_steps
      refine Stop9.mk ?_
      rename Fr _ _ _ _ => F8
      rename News _ _ _ _ => N8
      refine' tell_use (t_solved _ (.ref D5) (augZ A sd) n (n + 1) hn (by omega) (Nat.le_succ _) (aug_shape SA hs) (aug_fit (fun r hr a ha => Nat.lt_of_le_of_lt (hA r hr a ha) (by decide)) fun x hx => Nat.lt_of_le_of_lt (hsd x hx) (by decide))) ?k1 ?k2 ?k3 ?k4 ?k5 ?kK ?kd ?ku ?kP ?_
      case kP => exact g5.at fun p hp => (N8 p (by
        rcases List.mem_cons.mp hp with rfl | hp
        · exact .tail _ (.head _)
        · exact .tail _ (.tail _ (.tail _ hp)))).1
      (case k1 => first | k_asm | ktn_no "tell: the frames below")
      (case k2 => first | k_asm | ktn_no "tell: the frame")
      (case k3 => first | k_asm | ktn_no "tell: the written part")
      (case k4 => first | k_asm | ktn_no "tell: the ledger")
      (case k5 => first | k_asm | ktn_no "tell: the top's facts")
      (case kK => first | exact rfl | assumption | ktn_no "tell: the caller is no def")
      (case kd => first | ktr_room | ktn_no "tell: the frames' room")
      (case ku => first | ktr_units | ktn_no "tell: the C units")
      rintro r own8 h8 tk8 ⟨DS, cS, v1, v2, t, rfl, mS, m2, hT⟩ k8 O8 F9 N9
      have off8 : ∀ p ∈ own8, p.1 ≠ L' + 1 := fun p hp => Own.off O8 N8 p hp (L' + 1, oF) (.head _)
      have hTold : Told (augZ A sd) n t := by
        rcases hT with ⟨M, R, -⟩ | h
        · exact .inl ⟨M, R⟩
        · exact .inr h
      have et := told_aug SA hs hn0 hn hTold
      subst et
      (try clear F7); (try clear N7); (try clear F8); (try clear N8)
      have N10 : News g L' h8 ((L' + 1, oF) :: (DS, tupObj [v1, v2] cS) :: (D5, lst9 ys) :: (D6, lst9 ys2) :: (own8 ++ (own2 ++ own))) := nsub N9 (by walk_at "my sub")
      clear N9
      k_steps
      rename Fr _ _ _ _ => F11
      rename News _ _ _ _ => N11
      have p2 : PairIn own8 v2 (lawSum n A) 1 := by
        unfold RatIn at m2
        rwa [Rat.num_intCast, Rat.den_intCast] at m2
      refine Stop9.mk ?_
      refine tup9 (s := ⟨_, s.gens, s.drawn, _, s.os⟩) F11 N11 ?_ (by show 2 ≤ sizeLine; decide)
      intro D12 h12 k12 O12 F12 N12
      (try clear F11); (try clear N11)
      k_steps
      refine Stop9.mk ?_
      refine ne_pairs (x := lawSum n A) (y := 1) (p2.at fun p hp => (N12 p (.tail _ (.tail _ (.tail _ (.tail _ (.tail _ (List.mem_append_left _ hp))))))).1) ⟨D12, _, _, rfl, News.isTup N12 (.head _)⟩ (by ktr_units) ?_
      k_steps
      refine Stop9.mk ?_
      refine ne_grids (M := augZ A sd) (g5.at fun p hp => (N12 p ?_).1) (g6.at fun p hp => (N12 p ?_).1) (by ktr_units) ?_
      · rcases List.mem_cons.mp hp with rfl | hp
        · exact .tail _ (.tail _ (.tail _ (.head _)))
        · exact .tail _ (.tail _ (.tail _ (.tail _ (.tail _ (List.mem_append_right _ hp)))))
      · rcases List.mem_cons.mp hp with rfl | hp
        · exact .tail _ (.tail _ (.tail _ (.tail _ (.head _))))
        · exact .tail _ (.tail _ (.tail _ (.tail _ (.tail _ (List.mem_append_right _ hp)))))
      have N13 : News g L' h12 ((L' + 1, oF) :: own8) := fun p hp => N12 p (by
        rcases List.mem_cons.mp hp with rfl | hp
        · exact .tail _ (.head _)
        · exact .tail _ (.tail _ (.tail _ (.tail _ (.tail _ (List.mem_append_left _ hp))))))
      clear N12 g5 g6 k8 O8 k12 O12 m2
      k_steps
      · exact Out.intro [] F12 N13 (fun _ h => nomatch h) ⟨rfl, rfl⟩
      rename (lawSum n A ≠ 0) => wne
      obtain ⟨M, R, DM, ms, cM, rfl, mM, aM⟩ : ∃ M, Reach (augZ A sd) n n M (lawSum n A : Int) ∧ GridIn own8 v1 M := by
        rcases hT with h | ⟨_, _, _, _, _, _, z⟩
        · exact h
        · exact absurd (Rat.intCast_inj.mp z) wne
      have SM := reach_shape (aug_shape SA hs) R
      have unit := reach_unit (aug_shape SA hs) (Nat.le_succ _) R
      refine Stop9.mk ?_
      rename Fr _ _ _ _ => F14
      rename News _ _ _ _ => N14
      rename IsRange _ _ _ _ _ _ _ _ => rg
      rename HLe _ _ => kB
      refine ready_range (n := n) rfl rg (small_up (by omega)) (rangeSize_up (by omega)) ?_
      intro h15 I kI RI
      have oB := (N14 (L' + 1, oF) (.head _)).1
      refine turns9 (s := ⟨_, s.gens, s.drawn, _, s.os⟩) (RI _ _) kI F14 N14 (fun i m news => ∃ oA vA tn, news = (L' + 1, oA) :: own8 ∧ oA.data = .cell vA ∧ m (Str.ofString "grid") = some (.ref Dg) ∧ m (Str.ofString "sides") = some (.ref Ds) ∧ m (Str.ofString "whole") = some (.int (lawSum n A) tw) ∧
        m (Str.ofString "size") = some (.int n tn) ∧ m (Str.ofString "solved") = some (.ref DM)) ?J0 ?turn ?done
      case J0 => exact ⟨oF, none, _, rfl, dF, by with_unfolding_all rfl, by with_unfolding_all rfl, by with_unfolding_all rfl, by with_unfolding_all rfl, by with_unfolding_all rfl⟩
      case done =>
        rintro m news h tk ⟨oA, vA, tn, rfl, dA, m1, m2, m3, m4, m5⟩ F16 N16
        (try clear F12); (try clear N13); clear F14 N14 RI rg kB kI
        k_steps
        exact Out.intro [] F16 N16 (fun _ h => nomatch h) ⟨rfl, rfl⟩
      case turn =>
        rintro i v m news h tk own9 wr hi ⟨t9, ev⟩ ⟨oA, vA, tn, rfl, dA, m1, m2, m3, m4, m5⟩ hoff hwr hown F16 N16
        rw [Int.zero_add] at ev
        subst ev
        have iM : i < M.length := by rw [SM.len]; exact hi
        obtain ⟨vk, hvk, Dk, us, ck, rfl, mk, ak⟩ := aM.get (rowAt_get iM)
        have lu : us.length = n + 1 := by rw [ak.1]; exact SM.rowLen hi
        obtain ⟨vq, hvq, Dq, tq, uq, cq, rfl, mq⟩ := ak.get (at2_get (M := M) (i := i) (j := n) (by rw [SM.rowLen hi]; exact Nat.lt_succ_self _))
        have offO : ∀ p ∈ own9, p.1 ≠ L' + 1 := fun p hp e => by
          rcases hown p hp with q | ⟨o, its, k, q, d⟩
          · rw [e] at q
            exact absurd (q.symm.trans oB) (by simp)
          · rw [e] at q
            have := q.symm.trans oB
            cases this
            rw [dF] at d
            cases d
        (try clear F12); (try clear N13); clear F14 N14 RI rg kB kI hown oB
        k_steps
        refine Stop9.mk ?_
        rename Fr _ _ _ _ => F17
        rename News _ _ _ _ => N17
        refine storeC9 ((DM, lstObj ms cM) :: (Dk, lstObj us ck) :: (Dq, tup2 (at2 M i n).num tq (at2 M i n).den uq cq) :: (own9 ++ own8)) F17 N17 (c := L' + 1) (o := oA) rfl (List.mem_append_right _ (.head _)) dA ?sub ?off ?_ rfl rfl
        case sub => walk_at "my sub"
        case off => exact off_cons (off8 _ mM) (off_cons (off8 _ mk) (off_cons (off8 _ mq) (off_app offO off8)))
        intro h18 oA' F18 N18 dA'
        have hvk' : ms[((i : Int)).toNat]? = some (.ref Dk) := by rw [Int.toNat_natCast]; exact hvk
        (try clear F16); (try clear N16); (try clear F17); (try clear N17)
        k_steps
        refine Stop9.mk ?_
        refine slice9t (s := ⟨h18, s.gens, s.drawn, _, s.os⟩) F18 N18 (News.isList N18 (.tail _ (.tail _ (.head _)))) .none (.int n _) (pick_upto us n) ?_ rfl (by omega)
        intro D20 h20 k20 O20 F20 N20
        have K20 := Kept.mk F20 N20
        (try clear F18); (try clear N18)
        k_steps
        refine Stop9.mk ?_
        rename IsRange _ _ _ _ _ _ _ _ => rg
        rename HLe _ _ => kB
        (try rename Fr _ _ _ _ => FX); (try rename News _ _ _ _ => NX)
        (try clear FX); (try clear NX); (try clear F20); (try clear N20)
        refine ready_rangeN (n := n) rfl rg (small_up (by omega)) (rangeSize_up (by omega)) ?_
        intro h22 I2 kI RI
        refine compAt_pure (s := ⟨h20, s.gens, s.drawn, _, s.os⟩) (fun _ => true) (fun j o y => PairIn o y (if i = j then 1 else 0) 1) trivial ((RI _ _).older kB).ready (HLe.trans kB kI) ?hszc (binds_name rfl rfl) ?tstc ?eltc ?finc
        case hszc => exact Nat.le_trans (by omega) (by decide : 8 ≤ sizeLine)
        case tstc =>
          intro i h tk C m E' _ _ _ _ _
          exact wpAny_tests_nil ⟨rfl, h, tk, rfl, HLe.refl _⟩
        case eltc =>
          rintro j h5 tk5 C2 mC2 E2 hj - ⟨v2, ⟨_, t2, ev2⟩, mx2⟩ hn2 hC2 hk2
          rw [Int.zero_add] at ev2
          subst ev2
          obtain ⟨oC2, nC2, F22, N22⟩ := elt_ground K20.fr K20.led (HLe.trans kB kI) hk2 hn2 hC2
          clear K20 RI kI kB rg hk2
          k_steps
          all_goals (refine Stop9.mk ?_)
          all_goals (rename Fr _ _ _ _ => F23)
          all_goals (rename News _ _ _ _ => N23)
          all_goals (refine tup9 (s := ⟨h5, s.gens, s.drawn, _, s.os⟩) F23 N23 ?_ (by show 2 ≤ sizeLine; decide))
          all_goals (intro D24 h24 k24 O24 _ _)
          all_goals (refine Out.one k24 O24 ?_)
          · have e : i = j := by omega
            rw [if_pos e]
            exact ⟨D24, _, _, 0, rfl, .head _⟩
          · have e : ¬ i = j := by omega
            rw [if_neg e]
            exact ⟨D24, _, _, 0, rfl, .head _⟩
        case finc =>
          intro D23 h23 tk23 ys3 own3 hb hA3 hO
          have F24 := Fr.grow K20.fr hb.le
          have N24 := News.grow K20.fr K20.led hb.le hO
          have aU := acc_list (T := RatIn) (xs := unitRow i n) (fun _ _ _ _ r k => PairIn.mono r k) hA3 (by simp [unitRow]) (fun j o y q eq hR => by
            rw [unitRow_get eq]
            exact pair_unit hR)
          have N25 : News g L' h23 ((L' + 1, oA') :: (D20, lstObj (us.take n) 0) :: (D23, lst9 ys3) :: (DM, lstObj ms cM) :: (Dk, lstObj us ck) :: (Dq, tup2 (at2 M i n).num tq (at2 M i n).den uq cq) :: (own3 ++ (own9 ++ own8))) := nsub N24 (by walk_at "my sub")
          clear N24 K20 RI kI kB rg hb hO hA3
          k_steps
          refine Stop9.mk ?_
          have r20 : RowAt h23 (.ref D20) (unitRow i n) := ⟨D20, us.take n, rfl, News.isList N25 (.tail _ (.head _)), by
            have a := ak.take n
            rw [unit_take SM (Nat.le_succ _) hi unit] at a
            exact a.imp fun _ _ r => PairIn.at r (nat9 N25 (by walk_at "my sub"))⟩
          have r23 : RowAt h23 (.ref D23) (unitRow i n) := ⟨D23, ys3, rfl, News.isList N25 (.tail _ (.tail _ (.head _))), aU.imp fun _ _ r => PairIn.at r (nat9 N25 (by walk_at "my sub"))⟩
          refine ne_rows r20 r23 (by ktr_units) ?_
          have N26 : News g L' h23 ((L' + 1, oA') :: (DM, lstObj ms cM) :: (Dk, lstObj us ck) :: (Dq, tup2 (at2 M i n).num tq (at2 M i n).den uq cq) :: (own9 ++ own8)) := nsub N25 (by walk_at "my sub")
          have hvq' : us[((n : Int)).toNat]? = some (.ref Dq) := by rw [Int.toNat_natCast]; exact hvq
          clear N25 r20 r23 aU
          k_steps
          rename Fr _ _ _ _ => F27
          rename News _ _ _ _ => N27
          rename_i _ _ k9 M9
          have K27 := Kept.mk F27 N27
          refine compAt_pure (fun _ => true) (fun j o y => ∀ r, (replZ A sd i)[j]? = some r → ZRowIn o y r) trivial (M9.1 _ _ _) k9 ?hszd (binds_pair rfl rfl rfl rfl (by decide)) ?tstd ?eltd ?find
          case hszd => rw [min1]; exact Nat.le_trans (by omega) (by decide : 8 ≤ sizeLine)
          case tstd =>
            intro i h tk C m E' _ _ _ _ _
            exact wpAny_tests_nil ⟨rfl, h, tk, rfl, HLe.refl _⟩
          case eltd =>
            rintro j h30 tk30 C mC E' hj - ⟨x, y, ⟨hx, hy⟩, mx, my⟩ hn' hC hk
            rw [min1] at hj
            rw [List.getElem?_toArray] at hx hy
            obtain ⟨oC, nC, F30, N30⟩ := elt_ground K27.fr K27.led k9 hk hn' hC
            have jl : j < A.length := by rw [SA.len]; exact hj
            have js : j < sd.length := by rw [hs]; exact hj
            obtain ⟨Dr, ws, rfl, lr, ar⟩ := ag.2 j _ _ hx (List.getElem?_eq_getElem jl)
            obtain ⟨ts, rfl⟩ := as.2 j _ _ hy (List.getElem?_eq_getElem js)
            have lenW : ws.length = n := by rw [ar.1]; exact SA.row _ (List.getElem_mem jl)
            have N31 : News g L' h30 [(C, oC), (L' + 1, oA')] := nsub N30 (by walk_at "my sub")
            clear F27 N27 K27 k9 M9 hk N30
            k_steps
            refine Stop9.mk ?_
            refine slice9 (s := ⟨h30, s.gens, s.drawn, _, s.os⟩) F30 N31 (lr.at fun o e => F30.keep _ _ e) .none (.int i _) (pick_upto ws i) ?_ rfl (fun _ => rfl) (Nat.le_trans (by omega) (by decide : 8 ≤ sizeLine))
            intro D31 h31 k31 O31 F31 N32
            (try clear F30); (try clear N31)
            k_steps
            refine Stop9.mk ?_
            refine lst9n (s := ⟨h31, s.gens, s.drawn, _, s.os⟩) F31 N32 ?_ (by show 1 ≤ sizeLine; decide)
            intro D32 h32 k32 O32 F32 N33
            (try clear F31); (try clear N32)
            k_steps
            refine Stop9.mk ?_
            refine addl9 (s := ⟨h32, s.gens, s.drawn, _, s.os⟩) F32 N33 (News.isList N33 (.tail _ (.head _))) (News.isList N33 (.head _)) ?_ (by rw [List.length_take]; show _ + 1 ≤ 1000; omega)
            intro D33 h33 k33 O33 F33 N34
            (try clear F32); (try clear N33)
            k_steps
            refine Stop9.mk ?_
            refine slice9 (s := ⟨h33, s.gens, s.drawn, _, s.os⟩) F33 N34 (lr.at fun o e => F33.keep _ _ e) (.int (i + 1) _) .none (pick_from ws (i + 1)) ?_ rfl (fun _ => rfl) (Nat.le_trans (by omega) (by decide : 8 ≤ sizeLine))
            intro D34 h34 k34 O34 F34 N35
            (try clear F33); (try clear N34)
            k_steps
            refine Stop9.mk ?_
            refine addl9 (s := ⟨h34, s.gens, s.drawn, _, s.os⟩) F34 N35 (News.isList N35 (.tail _ (.head _))) (News.isList N35 (.head _)) ?_ (by rw [List.length_append, List.length_take, List.length_drop]; show _ + 1 + _ ≤ 1000; omega)
            intro D35 h35 k35 O35 _ _
            have kall : HLe h30 h34 := HLe.trans k31 (HLe.trans k32 (HLe.trans k33 k34))
            refine Out.one (HLe.trans kall k35) (Own.old kall O35) ?_
            intro r er
            obtain ⟨a, b, ea, eb, rfl⟩ := repl_get er
            rw [List.getElem?_eq_getElem jl] at ea
            rw [List.getElem?_eq_getElem js] at eb
            cases ea
            cases eb
            exact ⟨D35, _, 0, rfl, .head _, All2.append (All2.append (ar.take i) (All2.cons ⟨ts, rfl⟩ All2.nil)) (ar.drop (i + 1))⟩
          case find =>
            intro D36 h36 tk36 ys4 own4 hb hA4 hO
            rw [min1] at hA4
            have F37 := Fr.grow K27.fr hb.le
            have N36 := News.grow K27.fr K27.led hb.le hO
            have lenZ : (replZ A sd i).length = n := (repl_sq SA hs hi).len
            have gI : ZGridIn ((D36, lst9 ys4) :: own4) (.ref D36) (replZ A sd i) := acc_zgrid hA4 lenZ fun j o y q eq hR => hR q eq
            have gH : ZGridAt h36 (.ref D36) (replZ A sd i) := gI.at fun p hp => (N36 p (List.mem_append_left _ hp)).1
            have N37 : News g L' h36 ((L' + 1, oA') :: (own9 ++ own8)) := nsub N36 (by walk_at "my sub")
            clear F27 N27 K27 k9 M9 hb hO hA4 N36 gI
            k_steps
            refine Stop9.mk ?_
            rename Fr _ _ _ _ => F38
            rename News _ _ _ _ => N38
            have smW := law_bound SA hn0 hn hA (by decide)
            have smP := law_bound (repl_sq SA hs hi) hn0 hn (repl_small (i := i) hA hsd) (by decide)
            refine' tell_int (t_lawsum _ n (replZ A sd i) (.ref D36) (repl_sq SA hs hi) (fun r hr a ha => Nat.lt_of_le_of_lt (repl_small hA hsd r hr a ha) (by decide)) hn) ?k1 ?k2 ?k3 ?k4 ?k5 ?kK ?kd ?ku ?kP ?_
            case kP => exact gH
            (case k1 => first | k_asm | ktn_no "tell: the frames below")
            (case k2 => first | k_asm | ktn_no "tell: the frame")
            (case k3 => first | k_asm | ktn_no "tell: the written part")
            (case k4 => first | k_asm | ktn_no "tell: the ledger")
            (case k5 => first | k_asm | ktn_no "tell: the top's facts")
            (case kK => first | exact rfl | assumption | ktn_no "tell: the caller is no def")
            (case kd => first | ktr_room | ktn_no "tell: the frames' room")
            (case ku => first | ktr_units | ktn_no "tell: the C units")
            intro tp h39 tk39 k39 F39 N39
            have ce := cramer_num SA hs hn hi R
            have hm1 : IntMulOk (at2 M i n).num (lawSum n A) := IntMulOk.of_right (bits_of_natAbs_le (b := 6000) smW (by decide))
            have hm2 : IntMulOk ((at2 M i n).den : Int) (lawSum n (replZ A sd i)) := IntMulOk.of_right (bits_of_natAbs_le (b := 6000) smP (by decide))
            have dp := den_pos (at2 M i n)
            clear gH F38 N38
            (try clear F37); (try clear N37)
            k_steps
            all_goals (try (first | contradiction | (exfalso; omega)))
            have db := den_small ce wne smW
            rename IsRange _ _ _ _ _ _ _ _ => rg
            rename Fr _ _ _ _ => F40
            rename News _ _ _ _ => N40
            obtain ⟨nn, hnn⟩ : ∃ nn : Nat, (at2 M i n).den = nn + 1 := ⟨(at2 M i n).den - 1, by omega⟩
            refine Stop9.mk ?_
            refine range9 (n := nn) (fun k m' news' => news' = (L' + 1, oA') :: (own9 ++ own8) ∧ m' (Str.ofString "grid") = some (.ref Dg) ∧ m' (Str.ofString "sides") = some (.ref Ds) ∧ m' (Str.ofString "whole") = some (.int (lawSum n A) tw) ∧
              m' (Str.ofString "size") = some (.int n tn) ∧ m' (Str.ofString "solved") = some (.ref DM) ∧ m' (Str.ofString "above") = some (.int (at2 M i n).num tq) ∧ m' (Str.ofString "below") = some (.int (at2 M i n).den uq))
              rfl rg (small_one (by omega) (by omega) (by omega) (by omega)) (rangeSize_up (by omega)) F40 N40 ⟨rfl, by with_unfolding_all exact m1, by with_unfolding_all exact m2, by with_unfolding_all exact m3, by with_unfolding_all exact m4, by with_unfolding_all exact m5, by with_unfolding_all rfl, by with_unfolding_all rfl⟩ ?turn2 ?done2
            case turn2 =>
              rintro I2 o t2 m' news' h41 tk41 ho ⟨rfl, n1, n2, n3, n4, n5, n6, n7⟩ offI F41 N41
              clear F40 N40 rg
              k_steps
              all_goals (try (exact (coprime_no (by assumption) (by assumption)).elim))
              all_goals (refine ⟨_, _, _, _, rfl, by assumption, by assumption, offI, rfl, by with_unfolding_all exact n1, by with_unfolding_all exact n2, by with_unfolding_all exact n3, by with_unfolding_all exact n4, by with_unfolding_all exact n5, by with_unfolding_all exact n6, by with_unfolding_all exact n7⟩)
            case done2 =>
              rintro m' news' h41 tk41 ⟨rfl, n1, n2, n3, n4, n5, n6, n7⟩ F41 N41
              clear F40 N40 rg
              k_steps
              refine Stop9.mk (wpAny_execs_nil ?_)
              refine ⟨h41, _, m', (L' + 1, oA') :: own8, rfl, F41, ?_, ?_, ⟨oA', _, _, rfl, dA', n1, n2, n3, n4, n5⟩⟩
              · exact nsub N41 (by walk_at "my sub")
              · intro p hp
                rcases List.mem_cons.mp hp with rfl | hp
                · exact hoff (L' + 1, oA) (.head _)
                · exact hoff p (.tail _ hp)
end

/- L0 -/
section
/- What the law's own walk needs -/

theorem ints_all2 : ∀ {vs : List Value} {ns : List Int}, IntsAre vs ns → All2 IntIs vs ns
  | _, _, .nil => All2.nil
  | _, _, .cons _ t h => All2.cons ⟨t, rfl⟩ (ints_all2 h)
theorem acc_ex {α : Type} {T : Led → Value → α → Prop} {P : α → Prop} (hT : ∀ own own' v x, T own v x → (∀ p ∈ own, p ∈ own') → T own' v x) {R : Nat → Led → Value → Prop} {n : Nat} {ys : List Value} {own : Led} (h : Acc R (fun _ => true) n ys own)
    (k : ∀ (i : Nat) o y, R i o y → ∃ x, T o y x ∧ P x) : ∃ xs : List α, xs.length = n ∧ All2 (T own) ys xs ∧ ∀ x ∈ xs, P x := by
  induction h with
  | nil => exact ⟨[], rfl, All2.nil, (fun _ h => nomatch h)⟩
  | @take i ys own o y _ _ r ih =>
    obtain ⟨xs, e, a, p⟩ := ih
    obtain ⟨x, t, px⟩ := k i o y r
    refine ⟨xs ++ [x], by rw [List.length_append, e]; rfl, All2.snoc (a.imp fun _ _ r => hT _ _ _ _ r fun p hp => List.mem_append_right _ hp) (hT _ _ _ _ t fun p hp => List.mem_append_left _ hp), fun z hz => ?_⟩
    rcases List.mem_append.mp hz with hz | hz
    · exact p z hz
    · rw [List.mem_singleton.mp hz]; exact px
  | skip _ h _ => cases h
theorem Ready.older {prog : Program} {w : World} {A : Around} {target : Expr} {base base' h : Heap} {I : Addr} {n : Nat} {P : Nat → Value → Heap → Prop} (r : Ready prog w A target base' h I n P) (k : HLe base base') : Ready prog w A target base h I n P := by
  obtain ⟨fp, wr, Md, St, S, st, a, b, c⟩ := r
  have up : ∀ x, base'.get? x = none → base.get? x = none := fun x q => by
    cases e : base.get? x with
    | none => rfl
    | some o => rw [k _ _ e] at q; cases q
  refine ⟨fp, wr, Md, St, S, st, a, fun x hx => up x (b x hx), fun x hx => ?_⟩
  rcases c x hx with q | ⟨o, its, kk, q, d⟩
  · exact .inl (up x q)
  · cases e : base.get? x with
    | none => exact .inl rfl
    | some o' =>
      have := k _ _ e
      rw [q] at this
      cases this
      exact .inr ⟨o, its, kk, rfl, d⟩
/-- the reel: its turn's number and its list -/
noncomputable abbrev reelObj (k : Int) (t : Tok) (S : Addr) (cR : Nat) : Obj := lstObj [.int k t, .ref S] cR
/-- what stands of the reel between the draws -/
noncomputable def ReelAt (R S : Addr) (cR : Nat) (h : Heap) : Prop := ∃ k t, 0 ≤ k ∧ h.get? R = some (reelObj k t S cR)
theorem ReelAt.there {R S : Addr} {cR : Nat} (h : Heap) (r : ReelAt R S cR h) : ∃ o, h.get? R = some o := by
  obtain ⟨k, t, _, e⟩ := r
  exact ⟨_, e⟩
theorem ReelAt.same {R S : Addr} {cR : Nat} (h h' : Heap) (r : ReelAt R S cR h) (e : h'.get? R = h.get? R) : ReelAt R S cR h' := by
  obtain ⟨k, t, a, q⟩ := r
  exact ⟨k, t, a, e.trans q⟩
theorem cell_use {w : World} {pp : Program} {loose : List Str} {mean : ExcName → Option Value} {mg mb : Str → Option Value} {R S : Addr} {cR cS : Nat} {k : Int} {t : Tok} {ns : List Int} {items : List Value}
    {dp un : Nat} {gd : Option (List Code)} {cn : Str} {cs : Scope} {a : Addr} {ccd : Value} {cl : List (Str × Addr)} {outer : List Env} {A₀ : Around} {base h₀ : Heap} {L : Addr} {m : Str → Option Value} {s : Shared} {rest : Led}
    {Q E : Value → Shared → Prop}
    (B : Below A₀ base outer h₀) (F : Fr h₀ L s.heap m) (X : (Mine.hd.heap_39 w.params).In h₀) (N : News h₀ L s.heap ((R, reelObj k t S cR) :: (S, lstObj items cS) :: rest))
    (T : Top pp loose mean mg mb h₀) (hcs : cs.kind = .function) (hd : dp + 1 < recursionLimit) (hu : un + 8 * 1 < cLine)
    (off : ∀ p ∈ (S, lstObj items cS) :: rest, p.1 ≠ R) (hk : 0 ≤ k) (hns : ∀ x ∈ ns, 0 ≤ x) (hlen : ns.length ≤ 30) (ai : All2 IntIs items ns)
    (ret : ∀ x tx t' h' tk', 0 ≤ x → HBut [R] s.heap h' → Fr h₀ L h' m → News h₀ L h' ((R, reelObj (k + 1) t' S cR) :: (S, lstObj items cS) :: rest) → Q (.int x tx) { s with heap := h', toks := tk' }) :
    wpAny (model PySem.Challenge.rw_pq0170_01.row.prog w) (ktrTop dp un gd cn cs L a ccd cl outer) (call (.ref 167) [.ref R]) Q E s := by
  refine tellW_use (t_cell ⟨w, pp, loose, mean, mg, mb⟩ R S cR k t ns items hk hns hlen) B F X N T hcs hd hu (.head _) (fun g hg => ⟨?_, ai⟩) ?_
  · have := N (S, lstObj items cS) (.tail _ (.head _))
    exact ⟨_, hg _ _ (off _ (.head _)) this.1, rfl, cS, rfl⟩
  · rintro v oR' h' tk' hb hR ⟨⟨t', rfl⟩, x, tx, rfl, hx⟩ F'
    exact ret x tx t' h' tk' hx hb F' (HBut.news N hb (.head _) hR (fun p hp => .tail _ hp) off)
theorem elt_groundW {g h h₂ : Heap} {s : Shared} {L C R : Addr} {oR oR' : Obj} {m₀ m : Str → Option Value} {rest : Led} (F : Fr g L s.heap m₀) (N : News g L s.heap ((R, oR) :: rest)) (off : ∀ p ∈ rest, p.1 ≠ R) (hk : HLe s.heap h₂) (hb : HBut [R] s.heap h) (hR : h.get? R = some oR') (hn : h.Ns C m) (hC : h₂.objs.size ≤ C) :
    ∃ oC, LCg.NsObj oC m ∧ Fr g L h m₀ ∧ News g L h ((R, oR') :: (rest ++ [(C, oC)])) ∧ C ≠ R := by
  obtain ⟨oC, e, q⟩ := LCg.ns_obj hn
  have f : s.heap.get? C = none := by
    cases e : s.heap.get? C with
    | none => rfl
    | some o => exact absurd (Heap.lt_size (hk _ _ e)) (Nat.not_lt.mpr hC)
  have CR : C ≠ R := fun q => by rw [q, (N (R, oR) (.head _)).1] at f; cases f
  refine ⟨oC, q, hb.fr F (by simpa using Ne.symm (N _ (.head _)).2.1) (fun b hb' => by rw [List.mem_singleton.mp hb']; exact (N _ (.head _)).2.2), fun p hp => ?_, CR⟩
  rcases List.mem_cons.mp hp with rfl | hp
  · exact ⟨hR, (N _ (.head _)).2⟩
  · rcases List.mem_append.mp hp with hp | hp
    · exact ⟨hb _ _ (by simpa using off p hp) (N p (.tail _ hp)).1, (N p (.tail _ hp)).2⟩
    · rw [List.mem_singleton.mp hp]
      refine ⟨e, fun z => ?_, ?_⟩
      · obtain ⟨oL, _, _, hL, _⟩ := F.ns
        rw [← z, f] at hL; cases hL
      · cases q : g.get? C with
        | none => rfl
        | some o => rw [F.keep _ _ q] at f; cases f
theorem News.growW {h₀ h h' : Heap} {L R : Addr} {oR oR' : Obj} {m : Str → Option Value} {rest own : Led} {X : List Addr} (F : Fr h₀ L h m) (N : News h₀ L h ((R, oR) :: rest)) (off : ∀ p ∈ rest, p.1 ≠ R) (hX : ∀ x ∈ X, x = L ∨ x = R) (k : HBut X h h') (hR : h'.get? R = some oR') (O : Own h h' own) :
    News h₀ L h' ((R, oR') :: (own ++ rest)) := by
  intro p hp
  rcases List.mem_cons.mp hp with rfl | hp
  · exact ⟨hR, (N _ (.head _)).2⟩
  rcases List.mem_append.mp hp with hp | hp
  · have := O p hp
    refine ⟨this.1, fun e => ?_, ?_⟩
    · obtain ⟨oL, _, _, hL, _⟩ := F.ns
      rw [e, hL] at this; cases this.2
    · cases q : h₀.get? p.1 with
      | none => rfl
      | some o => rw [F.keep _ _ q] at this; cases this.2
  · refine ⟨k _ _ (fun z => ?_) (N p (.tail _ hp)).1, (N p (.tail _ hp)).2⟩
    rcases hX _ z with e | e
    · exact (N p (.tail _ hp)).2.1 e
    · exact off p hp e
theorem reel_in {h₀ h : Heap} {L R S : Addr} {cR : Nat} {k : Int} {t : Tok} {rest : Led} (N : News h₀ L h ((R, reelObj k t S cR) :: rest)) (hk : 0 ≤ k) : ReelAt R S cR h := ⟨k, t, hk, (N _ (.head _)).1⟩

theorem off_one {R C : Addr} {o : Obj} (h : C ≠ R) : ∀ p ∈ [(C, o)], p.1 ≠ R := fun p hp => by rw [List.mem_singleton.mp hp]; exact h
theorem size_of {x : Int} (_hx : 0 ≤ x) : ∃ n : Nat, 1 + x.fmod 3 = n ∧ 0 < n ∧ n ≤ 3 := by
  have h0 := Int.fmod_nonneg_of_pos x (show (0:Int) < 3 by decide)
  have h1 := Int.fmod_lt_of_pos x (show (0:Int) < 3 by decide)
  exact ⟨(1 + x.fmod 3).toNat, by omega, by omega, by omega⟩
theorem draw_small {x : Int} {m c b : Int} (hm : 0 < m) (hc : 0 ≤ c) (h1 : c ≤ b) (h2 : m - 1 - c ≤ b) : ((x.fmod m) - c).natAbs ≤ b.toNat := by
  have h0 := Int.fmod_nonneg_of_pos x hm
  have h3 := Int.fmod_lt_of_pos x hm
  omega

theorem getD_bound {l : List Int} {b j : Nat} (h : ∀ a ∈ l, a.natAbs ≤ b) : (l.getD j 0).natAbs ≤ b := by
  rw [List.getD_eq_getElem?_getD]
  cases e : l[j]? with
  | none => exact Nat.zero_le _
  | some x => exact h x (List.mem_of_getElem? e)
theorem row_bound {A : List (List Int)} {b i : Nat} (h : ∀ r ∈ A, ∀ a ∈ r, a.natAbs ≤ b) : ∀ a ∈ A.getD i [], a.natAbs ≤ b := by
  rw [List.getD_eq_getElem?_getD]
  cases e : A[i]? with
  | none => exact fun _ h => nomatch h
  | some x => exact h x (List.mem_of_getElem? e)
theorem turn_bound {A : List (List Int)} {n b : Nat} (h : ∀ r ∈ A, ∀ a ∈ r, a.natAbs ≤ b) : ∀ r ∈ turnZ A n, ∀ a ∈ r, a.natAbs ≤ b := by
  intro r hr a ha
  unfold turnZ at hr
  obtain ⟨j, _, rfl⟩ := List.mem_map.mp hr
  obtain ⟨i, _, rfl⟩ := List.mem_map.mp ha
  exact getD_bound (row_bound h)
theorem dot_bound {xs : List Int} {B : List (List Int)} {j b c : Nat} (h : ∀ a ∈ xs, a.natAbs ≤ b) (k : ∀ r ∈ B, ∀ a ∈ r, a.natAbs ≤ c) : ∀ i, (dotTo xs B j i).natAbs ≤ i * (b * c)
  | 0 => Nat.zero_le _
  | i + 1 => by
    have ih := dot_bound (j := j) h k i
    have := mulBound (getD_bound (j := i) h) (getD_bound (j := j) (row_bound (i := i) k))
    show (_ + _ : Int).natAbs ≤ _
    rw [Nat.succ_mul]
    have := Int.natAbs_add_le (dotTo xs B j i) (xs.getD i 0 * (B.getD i []).getD j 0)
    omega
theorem prod_bound {A B : List (List Int)} {n : Nat} (hn : n ≤ 3) (h : ∀ r ∈ A, ∀ a ∈ r, a.natAbs ≤ 5) (k : ∀ r ∈ B, ∀ a ∈ r, a.natAbs ≤ 3) : ∀ r ∈ prodZ A B n, ∀ a ∈ r, a.natAbs ≤ 45 := by
  intro r hr a ha
  unfold prodZ at hr
  obtain ⟨xs, hx, rfl⟩ := List.mem_map.mp hr
  obtain ⟨j, _, rfl⟩ := List.mem_map.mp ha
  have := dot_bound (j := j) (h xs hx) k n
  omega
theorem scale_bound {A : List (List Int)} {f : Int} (hf : f.natAbs ≤ 6) (h : ∀ r ∈ A, ∀ a ∈ r, a.natAbs ≤ 5) : ∀ r ∈ scaleZ f A, ∀ a ∈ r, a.natAbs ≤ 30 := by
  intro r hr a ha
  rcases List.mem_cons.mp hr with rfl | hr
  · obtain ⟨x, hx, rfl⟩ := List.mem_map.mp ha
    exact mulBound hf (row_bound h x hx)
  · have := h r (List.mem_of_mem_drop hr) a ha
    omega
theorem ends_bound {A : List (List Int)} {n x y b : Nat} (h : ∀ r ∈ A, ∀ a ∈ r, a.natAbs ≤ b) : ∀ r ∈ endsZ A n x y, ∀ a ∈ r, a.natAbs ≤ b := by
  intro r hr a ha
  rcases List.mem_cons.mp hr with rfl | hr
  · exact row_bound h a ha
  rcases List.mem_append.mp hr with hr | hr
  · exact h r (List.mem_of_mem_drop (List.mem_of_mem_take hr)) a ha
  · rw [List.mem_singleton.mp hr] at ha
    exact row_bound h a ha

theorem ne_self_int {prog : Program} {w : World} {A : Around} {E : Value → Shared → Prop} {s : Shared} {a : Int} {t u : Tok} {Q : Value → Shared → Prop} (h : Q (.bool false) s) : wpAny (model prog w) A (compareOp .NotEq (.int a t) (.int a u)) Q E s :=
  PyProof.Rows.ne_int (by rw [bne_self_eq_false]; exact h)

theorem cut_app {prog : Program} {w : World} {A : Around} {E : Value → Shared → Prop} {env : Env} {Q : Flow → Shared → Prop} (Mid : Shared → Prop) {b : List Stmt} {Γ : PySem.Ctx} (hΓ : Γ.In A) (r : ∀ s', Mid s' → wpAny (model prog w) A (execs b env) Q E s') : ∀ (a : List Stmt) (p : Pos) (s : Shared),
    Sem.wp (model prog w) Γ (execs a env) (fun f _ s' => NextQ Mid f s') (fun _ _ _ => False) p s → Sem.wp (model prog w) Γ (execs (a ++ b) env) (fun f _ s' => Q f s') (fun e _ s' => E e s') p s
  | [], p, s, h => by
    rw [execs_nil, Sem.wp_pure'] at h
    exact r s h Γ p hΓ
  | st :: a, p, s, h => by
    rw [execs_cons, Sem.wp_bind'] at h
    rw [List.cons_append, execs_cons, Sem.wp_bind']
    refine Sem.wp_mono _ _ _ (fun f p' s' hf => ?_) (fun _ _ _ e => e.elim) p s h
    cases f with
    | next => exact cut_app Mid hΓ r a p' s' hf
    | brk => rw [Sem.wp_pure'] at hf; exact hf.elim
    | cont => rw [Sem.wp_pure'] at hf; exact hf.elim
    | ret v => rw [Sem.wp_pure'] at hf; exact hf.elim
/-- a body cut in two behind its statement k -/
theorem cut9 {prog : Program} {w : World} {A : Around} {E : Value → Shared → Prop} {env : Env} {Q : Flow → Shared → Prop} (Mid : Shared → Prop) (k : Nat) {l a b : List Stmt} {s : Shared} (ea : l.take k = a) (eb : l.drop k = b) (h : wpAny (model prog w) A (execs a env) (NextQ Mid) (fun _ _ => False) s)
    (r : ∀ s', Mid s' → wpAny (model prog w) A (execs b env) Q E s') : wpAny (model prog w) A (execs l env) Q E s := fun Γ p hΓ => by
  have := cut_app Mid hΓ r a p s (h Γ p hΓ)
  rwa [← ea, ← eb, List.take_append_drop] at this

theorem pick_mid {vs : List Value} {n : Nat} (h : vs.length = n) (h1 : 1 < n) : kms_pick vs (some 1) (some ((n : Int) - 1)) = (vs.drop 1).take (n - 2) := by
  unfold kms_pick kms_lo kms_hi
  have e : ((n : Int) - 1).toNat = n - 1 := by omega
  simp only [if_neg (show ¬ ((n : Int) - 1 < 0) by omega), if_neg (show ¬ ((1 : Int) < 0) by decide), e]
  have e1 : min (1 : Int).toNat vs.length = 1 := by
    show min 1 vs.length = 1
    omega
  have e2 : min (n - 1) vs.length = n - 1 := by omega
  rw [e1, e2]
  rfl
end

/- L1 -/
section
theorem fill_L1 : ∀ c f k vs P R, Tell c f k vs P R → True := by
  w_top off
  unfold Tell
  k_fill
  intros
  trivial

local macro_rules | `(tactic| walk_at "call ref") => `(tactic| (k_here; with_reducible refine stop_call ?_))
local macro_rules | `(tactic| walk_at "execs nil") => `(tactic| (k_here; with_reducible refine stop_turn ?_))
local macro_rules | `(tactic| walk_at "newTuple") => `(tactic| (k_here; (fail_if_success (rename Go9 => g9)); (refine Stop9.of ?_)))
local macro_rules | `(tactic| walk_at "newList") => `(tactic| (k_here; (refine Stop9.of ?_)))
local macro_rules | `(tactic| walk_at "newTuple cons") => `(tactic| (k_here; (fail_if_success (rename Go9 => g9)); (refine Stop9.of ?_)))
local macro_rules | `(tactic| walk_at "newList cons") => `(tactic| (k_here; (refine Stop9.of ?_)))
local macro_rules | `(tactic| walk_at "binaryOp Add ref ref") => `(tactic| (k_here; (refine Stop9.of ?_)))
local macro_rules | `(tactic| walk_at "call type:list") => `(tactic| (k_here; (refine Stop9.of ?_)))
local macro_rules | `(tactic| walk_at "storeName") => `(tactic| (k_here; with_reducible refine stop_name (Str.ofString "at") ?_))
local macro_rules | `(tactic| walk_at "compareOp NotEq ref ref") => `(tactic| (k_here; (refine Stop9.of ?_)))
local macro_rules | `(tactic| walk_at "subscriptTail") => `(tactic| (k_here; with_reducible refine stop_item ?_))
local macro_rules | `(tactic| walk_at "subscriptTail Name Slice ref ref") => `(tactic| (k_here; with_reducible refine stop_item ?_))
local macro_rules | `(tactic| walk_at "subscriptTail Subscript Name Name Slice ref ref") => `(tactic| (k_here; with_reducible refine stop_item ?_))
local macro_rules | `(tactic| walk_at "exec For Name Call cons nil") => `(tactic| (k_here; (with_reducible refine at_for (Str.ofString "at") ?_); (rename Fr _ _ _ _ => lF'); (with_unfolding_all refine' For_turns lF' ?_); k_whole))
local macro_rules | `(tactic| walk_at "pyIter ref") => `(tactic| (k_here; with_reducible refine stop_turns ?_))
local macro_rules | `(tactic| walk_at "pyIter ref") => `(tactic| (k_here; with_reducible refine stop_compR (by assumption) ?_))

local macro_rules | `(tactic| walk_at "storeName") => `(tactic| (k_here; with_reducible refine stop_name (Str.ofString "reel") ?_))
local macro_rules | `(tactic| walk_at "storeName") => `(tactic| (k_here; with_reducible refine stop_name (Str.ofString "size") ?_))
local macro_rules | `(tactic| walk_at "storeName") => `(tactic| (k_here; with_reducible refine stop_name (Str.ofString "factor") ?_))
local macro_rules | `(tactic| walk_at "eval Lambda") => `(tactic| (k_here; (refine Stop9.of ?_)))
local macro_rules | `(tactic| walk_at "execs cons") => `(tactic| (k_here; with_reducible refine stop_if .Gt ?_))
local macro_rules | `(tactic| walk_at "compareOp NotEq int int") => `(tactic| (
  k_here
  with_reducible (refine ne_self_int ?_)))
/-- between the two halves of the law -/
noncomputable def LawMid (g : Heap) (L : Addr) (s₁ s' : Shared) : Prop :=
  ∃ (h : Heap) (tk n : Nat) (tn tf tw : Tok) (fac : Int) (MA MB : List (List Int)) (sd : List Int) (o3' o2' : Obj) (ps2 : Array Value) (D20 D30 D40 : Addr) (ys2 ys3 ys4 : List Value) (own2 own3 own4 : Led) (m : Str → Option Value),
    s' = ⟨h, s₁.gens, s₁.drawn, tk, s₁.os⟩ ∧ Fr g L h m ∧ News g L h ((L + 1 + 1 + 1, o3') :: (L + 1 + 1, o2') :: (186, tabObj ps2) :: (D20, lst9 ys2) :: (D30, lst9 ys3) :: (D40, lst9 ys4) :: (own4 ++ (own3 ++ own2))) ∧
    o3'.data = .cell (some (.int fac tf)) ∧ o2'.data = .cell (some (.int n tn)) ∧ fac.natAbs ≤ 6 ∧ 0 < n ∧ n ≤ 3 ∧ ZSq MA n ∧ ZSq MB n ∧ sd.length = n ∧
    (∀ r ∈ MA, ∀ a ∈ r, a.natAbs ≤ 5) ∧ (∀ r ∈ MB, ∀ a ∈ r, a.natAbs ≤ 3) ∧ (∀ x ∈ sd, x.natAbs ≤ 4) ∧ All2 (ZRowIn own2) ys2 MA ∧ ZGridIn ((D30, lst9 ys3) :: own3) (.ref D30) MB ∧ ZRowIn ((D40, lst9 ys4) :: own4) (.ref D40) sd ∧
    m (Str.ofString "one") = some (.ref D20) ∧ m (Str.ofString "other") = some (.ref D30) ∧ m (Str.ofString "sides") = some (.ref D40) ∧ m (Str.ofString "whole") = some (.int (lawSum n MA) tw)
/-- behind the two statements of rows that change places -/
noncomputable def LawMid2 (g : Heap) (L : Addr) (s₁ : Shared) (W : Led) (D20 D30 D40 : Addr) (z : Value) (s' : Shared) : Prop :=
  ∃ h tk m, s' = ⟨h, s₁.gens, s₁.drawn, tk, s₁.os⟩ ∧ Fr g L h m ∧ News g L h W ∧ m (Str.ofString "one") = some (.ref D20) ∧ m (Str.ofString "other") = some (.ref D30) ∧ m (Str.ofString "sides") = some (.ref D40) ∧ m (Str.ofString "whole") = some z
/-- the end -/
noncomputable def LawEnd (g : Heap) (L : Addr) (s₁ : Shared) (v : Value) (s' : Shared) : Prop :=
  ∃ h tk m ps, s' = ⟨h, s₁.gens, s₁.drawn, tk, s₁.os⟩ ∧ Fr g L h m ∧ News g L h [(186, tabObj ps)] ∧ v = .bool true
set_option maxHeartbeats 4000000 in
theorem law_holds : PySem.Challenge.rw_pq0170_01.Holds := Mine.hd (by
  k_go0
  all_goals (try k_fold)
  rename_i w s₀ s₁ mg mb G Y fa o pm doc ho hg X V T B TE TW hcd ns hs hlay0 hL hr hl2 a1 a2 la vs a3 hL2 ra w1 r0 hI hr2 hc1 hc2 hD h₁ tk₁ o3 o2 o1 d3 d2 d1 Y0 X' T' K' F' N' l0
  have e3 : o3.data = .cell none := d3
  have e2 : o2.data = .cell none := d2
  have e1 : o1.data = .cell none := d1
  clear d1 d2 d3 Y0 hs hlay0 hL hr hl2 ra w1 r0 hr2 hD G Y X V TE TW hc2 hL2 hcd T B
  generalize hLE : s₁.heap.objs.size = L at *
  generalize hgE : ghostOf s₁.heap [(188, 186)] = g at *
  replace F' : Fr g L h₁ (fun y => if y = Str.ofString "script" then some (.ref la) else none) := F'
  refine cut9 (LawMid g L s₁) 9 rfl rfl ?part1 ?part2
  case part2 =>
    refine fun s' M64 => end9 (LawEnd g L s₁) ?go ?ret
    case ret =>
      clear F' N'
      rintro v s'' ⟨h, tk, m, ps, rfl, F, N, rfl⟩
      k_steps
    revert M64 s'
    rintro s' ⟨h64, tk64, n, tn, tf, tw, fac, MA, MB, sd, o3', o2', ps2, D20, D30, D40, ys2, ys3, ys4, own2, own3, own4, m, rfl, F64, N64, d3', d2', bf, hn0, hn, SA, SB, lenS, bA, bB, bS, aA, gB, gS, m1, m2, m3, m4⟩
    clear F' N'
    (try dsimp only [List.drop])
    have smA := law_bound SA hn0 hn bA (by decide)
    have smB := law_bound SB hn0 hn bB (by decide)
    have fitA : ZFit MA := fun r hr a ha => Nat.lt_of_le_of_lt (bA r hr a ha) (by decide)
    have gA : ZGridIn ((D20, lst9 ys2) :: own2) (.ref D20) MA := ⟨D20, ys2, _, rfl, .head _, aA.imp fun _ _ r => r.mono fun _ hp => .tail _ hp⟩
    have hmF : ∀ z, IntMulOk fac z := fun z => IntMulOk.of_left (bits_of_natAbs_le (b := 6) bf (by decide))
    have hmFW := hmF (lawSum n MA)
    obtain ⟨row0, z0⟩ : ∃ r0, MA[0]? = some r0 := ⟨_, List.getElem?_eq_getElem (by rw [SA.len]; exact hn0)⟩
    have e0 : MA.getD 0 [] = row0 := by rw [List.getD_eq_getElem?_getD, z0]; rfl
    have len0 : row0.length = n := SA.row _ (List.mem_of_getElem? z0)
    obtain ⟨v0, hv0, Dr0, us0, cr0, rfl, mr0, ar0⟩ := aA.get z0
    have hv0' : ys2[((0 : Int)).toNat]? = some (.ref Dr0) := hv0
    have lenY : ys2.length = n := by rw [aA.1, SA.len]
    have mem0 : ∀ p ∈ (L + 1 + 1 + 1, o3') :: (L + 1 + 1, o2') :: (Dr0, lstObj us0 cr0) :: (186, tabObj ps2) :: (D20, lst9 ys2) :: (D30, lst9 ys3) :: (D40, lst9 ys4) :: (own4 ++ (own3 ++ own2)), p ∈ (L + 1 + 1 + 1, o3') :: (L + 1 + 1, o2') :: (186, tabObj ps2) :: (D20, lst9 ys2) :: (D30, lst9 ys3) :: (D40, lst9 ys4) :: (own4 ++ (own3 ++ own2)) :=
      sub_cons (by walk_at "my mem") (sub_cons (by walk_at "my mem") (sub_cons (List.mem_cons_of_mem _ (List.mem_cons_of_mem _ (List.mem_cons_of_mem _ (List.mem_cons_of_mem _ (List.mem_cons_of_mem _ (List.mem_cons_of_mem _ (List.mem_append_right _ (List.mem_append_right _ mr0)))))))) (by walk_at "my sub")))
    have N66 : News g L h64 ((L + 1 + 1 + 1, o3') :: (L + 1 + 1, o2') :: (Dr0, lstObj us0 cr0) :: (186, tabObj ps2) :: (D20, lst9 ys2) :: (D30, lst9 ys3) :: (D40, lst9 ys4) :: (own4 ++ (own3 ++ own2))) := fun p hp => N64 p (mem0 p hp)
    have L64 := Kept.mk F64 N64
    clear N64
    k_steps
    rename Fr _ _ _ _ => F67
    rename News _ _ _ _ => N67
    rename_i _ _ k9 M9
    (try dsimp only at k9 M9 F67 N67 ⊢)
    have K67 := Kept.mk F67 N67
    refine compAt_pure (fun _ => true) (fun j o y => ∀ x, row0[j]? = some x → IntIs y (fac * x)) trivial (M9 _) k9 ?hszF (binds_name rfl rfl) ?tstF ?eltF ?finF
    case hszF => rw [List.size_toArray, ar0.1, len0]; exact Nat.le_trans (by omega) (by decide : 8 ≤ sizeLine)
    case tstF =>
      intro i h tk C m E' _ _ _ _ _
      exact wpAny_tests_nil ⟨rfl, h, tk, rfl, HLe.refl _⟩
    case eltF =>
      rintro j h5 tk5 C2 mC2 E2 hj - ⟨v2, ⟨_, hv2⟩, mx2⟩ hn2 hC2 hk2
      obtain ⟨oC2, nC2, F6, N6⟩ := elt_ground K67.fr K67.led k9 hk2 hn2 hC2
      rw [List.getElem?_toArray] at hv2
      have jl : j < row0.length := by rw [List.size_toArray, ar0.1] at hj; exact hj
      obtain ⟨t2, rfl⟩ := ar0.2 j v2 _ hv2 (List.getElem?_eq_getElem jl)
      have hmj := hmF row0[j]
      clear F67 N67 K67 k9 M9 hk2
      k_steps
      refine Out.one (own := []) (HLe.refl _) (fun _ h => nomatch h) ?_
      intro x hx
      rw [List.getElem?_eq_getElem jl] at hx
      cases hx
      exact ⟨_, rfl⟩
    case finF =>
      intro D72 h72 tk72 ys72 own72 hb hA hO
      have F72 := Fr.grow K67.fr hb.le
      have N72a := News.grow K67.fr K67.led hb.le hO
      have g72 : ZRowIn ((D72, lst9 ys72) :: own72) (.ref D72) (row0.map (fac * ·)) := acc_zrow hA (by rw [List.length_map, List.size_toArray, ar0.1]) (by
        intro j o y q eq hR
        rw [List.getElem?_map] at eq
        cases e : row0[j]? with
        | none => rw [e] at eq; cases eq
        | some x => rw [e] at eq; cases eq; exact hR x e)
      have N72 : News g L h72 ((L + 1 + 1 + 1, o3') :: (L + 1 + 1, o2') :: (Dr0, lstObj us0 cr0) :: (186, tabObj ps2) :: (D20, lst9 ys2) :: (D72, lst9 ys72) :: (own72 ++ ((D30, lst9 ys3) :: (D40, lst9 ys4) :: (own4 ++ (own3 ++ own2))))) := nsub N72a (by walk_at "my sub")
      clear hA hO hb K67 F67 N67 k9 M9 N72a
      k_steps
      refine Stop9.mk ?_
      refine lst9n (s := ⟨h72, s₁.gens, s₁.drawn, _, s₁.os⟩) F72 N72 ?_ (by show 1 ≤ sizeLine; decide)
      intro D73 h73 k73 O73 F73 N73
      (try clear F72); (try clear N72)
      (try dsimp only at k73 O73 ⊢)
      k_steps
      refine Stop9.mk ?_
      refine slice9 (s := ⟨h73, s₁.gens, s₁.drawn, _, s₁.os⟩) F73 N73 (News.isList N73 (show (D20, lst9 ys2) ∈ _ by walk_at "my mem")) (.int 1 _) .none (pick_from ys2 1) ?_ rfl (fun _ => rfl) (Nat.le_trans (by omega) (by decide : 8 ≤ sizeLine))
      intro D74 h74 k74 O74 F74 N74
      (try clear F73); (try clear N73)
      (try dsimp only at k74 O74 ⊢)
      k_steps
      refine Stop9.mk ?_
      refine addl9 (s := ⟨h74, s₁.gens, s₁.drawn, _, s₁.os⟩) F74 N74 (News.isList N74 (.tail _ (.head _))) (News.isList N74 (.head _)) ?_ (by rw [List.length_drop]; show 1 + _ ≤ 1000; omega)
      intro D75 h75 k75 O75 F75 N75
      (try clear F74); (try clear N74)
      (try dsimp only at k75 O75 ⊢)
      k_steps
      obtain ⟨SSc, eSc⟩ := law_scale fac SA hn0 hn
      have bSc := scale_bound bf bA
      have bigF := mulBound bf smA
      have g75 : ZGridAt h75 (.ref D75) (scaleZ fac MA) := ⟨D75, _, rfl, News.isList N75 (.head _), by
        show All2 (ZRowAt h75) (.ref D72 :: ys2.drop 1) ((MA.getD 0 []).map (fac * ·) :: MA.drop 1)
        rw [e0]
        have inA : ∀ p ∈ own2, h75.get? p.1 = some p.2 := nat9 N75 (by walk_at "my sub")
        exact All2.cons (g72.at (nat9 N75 (by walk_at "my sub"))) ((aA.drop 1).imp fun _ _ r => r.at inA)⟩
      refine Stop9.mk ?_
      rename Fr _ _ _ _ => F76
      rename News _ _ _ _ => N76
      (try dsimp only at F76 N76 ⊢)
      refine' tell_int (t_told _ (.ref D75) (scaleZ fac MA) n (fac * lawSum n MA) SSc hn0 hn (fun r hr a ha => Nat.lt_of_le_of_lt (bSc r hr a ha) (by decide)) (fun t T => by rw [told_law SSc hn0 hn T, eSc]) (Nat.lt_of_le_of_lt bigF (by decide))) ?k1 ?k2 ?k3 ?k4 ?k5 ?kK ?kd ?ku ?kP ?_
      case kP => exact g75
      (case k1 => first | k_asm | ktn_no "tell: the frames below")
      (case k2 => first | k_asm | ktn_no "tell: the frame")
      (case k3 => first | k_asm | ktn_no "tell: the written part")
      (case k4 => first | k_asm | ktn_no "tell: the ledger")
      (case k5 => first | k_asm | ktn_no "tell: the top's facts")
      (case kK => first | exact rfl | assumption | ktn_no "tell: the caller is no def")
      (case kd => first | ktr_room | ktn_no "tell: the frames' room")
      (case ku => first | ktr_units | ktn_no "tell: the C units")
      intro t77 h77 tk77 k77 F77 N77
      replace N77 : News g L h77 ((L + 1 + 1 + 1, o3') :: (L + 1 + 1, o2') :: (Dr0, lstObj us0 cr0) :: (186, tabObj ps2) :: (D20, lst9 ys2) :: (D30, lst9 ys3) :: (D40, lst9 ys4) :: (own4 ++ (own3 ++ own2))) := nsub N77 (by walk_at "my sub")
      (try clear F75); (try clear N75); (try clear F76); (try clear N76)
      (try dsimp only at k77 ⊢)
      k_steps
      refine Stop9.mk ?_
      refine mid9 (LawMid2 g L s₁ ((L + 1 + 1 + 1, o3') :: (L + 1 + 1, o2') :: (Dr0, lstObj us0 cr0) :: (186, tabObj ps2) :: (D20, lst9 ys2) :: (D30, lst9 ys3) :: (D40, lst9 ys4) :: (own4 ++ (own3 ++ own2))) D20 D30 D40 (.int (lawSum n MA) tw)) ?iff ?fin
      case iff =>
        obtain ⟨rowl, zl⟩ : ∃ r0, MA[n - 1]? = some r0 := ⟨_, List.getElem?_eq_getElem (by rw [SA.len]; omega)⟩
        have el : MA.getD (n - 1) [] = rowl := by rw [List.getD_eq_getElem?_getD, zl]; rfl
        obtain ⟨vl, hvl, grl⟩ := aA.get zl
        have grl' := grl
        rw [← el] at grl'
        have gr0 : ZRowIn own2 (.ref Dr0) (MA.getD 0 []) := by rw [e0]; exact ⟨Dr0, us0, cr0, rfl, mr0, ar0⟩
        obtain ⟨Dl, usl, crl, rfl, mrl, arl⟩ := grl
        have hvl' : ys2[((n : Int) - 1).toNat]? = some (.ref Dl) := by rw [show ((n : Int) - 1).toNat = n - 1 by omega]; exact hvl
        k_steps
        · have n1 : 1 < n := by omega
          obtain ⟨SE1, eE1⟩ := law_swap SA n1 hn
          obtain ⟨SE2, eE2⟩ := law_twice SA n1 hn
          have bE1 := ends_bound (n := n) (x := n - 1) (y := 0) bA
          have bE2 := ends_bound (n := n) (x := 0) (y := 0) bA
          refine Stop9.mk ?_
          rename Fr _ _ _ _ => F79
          rename News _ _ _ _ => N79
          (try dsimp only at F79 N79 ⊢)
          refine lst9n (s := ⟨_, s₁.gens, s₁.drawn, _, s₁.os⟩) F79 N79 ?_ (by show 1 ≤ sizeLine; decide)
          intro D80 h80 k80 O80 F80 N80
          (try clear F79); (try clear N79)
          (try dsimp only at k80 O80 ⊢)
          k_steps
          refine Stop9.mk ?_
          refine slice9 (s := ⟨h80, s₁.gens, s₁.drawn, _, s₁.os⟩) F80 N80 (News.isList N80 (show (D20, lst9 ys2) ∈ _ by walk_at "my mem")) (.int 1 _) (.int ((n : Int) - 1) _) (pick_mid lenY n1) ?_ rfl (fun _ => rfl) (Nat.le_trans (by omega) (by decide : 8 ≤ sizeLine))
          intro D81 h81 k81 O81 F81 N81
          (try clear F80); (try clear N80)
          (try dsimp only at k81 O81 ⊢)
          k_steps
          refine Stop9.mk ?_
          refine addl9 (s := ⟨h81, s₁.gens, s₁.drawn, _, s₁.os⟩) F81 N81 (News.isList N81 (.tail _ (.head _))) (News.isList N81 (.head _)) ?_ (by rw [List.length_take, List.length_drop]; show 1 + _ ≤ 1000; omega)
          intro D82 h82 k82 O82 F82 N82
          (try clear F81); (try clear N81)
          (try dsimp only at k82 O82 ⊢)
          k_steps
          refine Stop9.mk ?_
          refine lst9n (s := ⟨h82, s₁.gens, s₁.drawn, _, s₁.os⟩) F82 N82 ?_ (by show 1 ≤ sizeLine; decide)
          intro D83 h83 k83 O83 F83 N83
          (try clear F82); (try clear N82)
          (try dsimp only at k83 O83 ⊢)
          k_steps
          refine Stop9.mk ?_
          refine addl9 (s := ⟨h83, s₁.gens, s₁.drawn, _, s₁.os⟩) F83 N83 (News.isList N83 (.tail _ (.head _))) (News.isList N83 (.head _)) ?_ (by rw [List.length_append, List.length_take, List.length_drop]; show 1 + _ + 1 ≤ 1000; omega)
          intro D84 h84 k84 O84 F84 N84
          (try clear F83); (try clear N83)
          (try dsimp only at k84 O84 ⊢)
          k_steps
          have g84 : ZGridAt h84 (.ref D84) (endsZ MA n (n - 1) 0) := ⟨D84, _, rfl, News.isList N84 (.head _), by
            have inA : ∀ p ∈ own2, h84.get? p.1 = some p.2 := nat9 N84 (by walk_at "my sub")
            show All2 (ZRowAt h84) (.ref Dl :: ((ys2.drop 1).take (n - 2) ++ [.ref Dr0])) (MA.getD (n - 1) [] :: ((MA.drop 1).take (n - 2) ++ [MA.getD 0 []]))
            exact All2.cons (grl'.at inA) (All2.append (((aA.drop 1).take (n - 2)).imp fun _ _ r => r.at inA) (All2.cons (gr0.at inA) All2.nil))⟩
          refine Stop9.mk ?_
          rename Fr _ _ _ _ => F85
          rename News _ _ _ _ => N85
          (try dsimp only at F85 N85 ⊢)
          refine' tell_int (t_told _ (.ref D84) (endsZ MA n (n - 1) 0) n (0 - lawSum n MA) SE1 hn0 hn (fun r hr a ha => Nat.lt_of_le_of_lt (bE1 r hr a ha) (by decide)) (fun t T => by rw [told_law SE1 hn0 hn T, eE1]) (by omega)) ?k1 ?k2 ?k3 ?k4 ?k5 ?kK ?kd ?ku ?kP ?_
          case kP => exact g84
          (case k1 => first | k_asm | ktn_no "tell: the frames below")
          (case k2 => first | k_asm | ktn_no "tell: the frame")
          (case k3 => first | k_asm | ktn_no "tell: the written part")
          (case k4 => first | k_asm | ktn_no "tell: the ledger")
          (case k5 => first | k_asm | ktn_no "tell: the top's facts")
          (case kK => first | exact rfl | assumption | ktn_no "tell: the caller is no def")
          (case kd => first | ktr_room | ktn_no "tell: the frames' room")
          (case ku => first | ktr_units | ktn_no "tell: the C units")
          intro t86 h86 tk86 k86 F86 N86
          replace N86 : News g L h86 ((L + 1 + 1 + 1, o3') :: (L + 1 + 1, o2') :: (Dr0, lstObj us0 cr0) :: (186, tabObj ps2) :: (D20, lst9 ys2) :: (D30, lst9 ys3) :: (D40, lst9 ys4) :: (own4 ++ (own3 ++ own2))) := nsub N86 (by walk_at "my sub")
          (try clear F84); (try clear N84); (try clear F85); (try clear N85)
          (try dsimp only at k86 ⊢)
          k_steps
          refine Stop9.mk ?_
          rename Fr _ _ _ _ => F89
          rename News _ _ _ _ => N89
          (try dsimp only at F89 N89 ⊢)
          refine lst9n (s := ⟨_, s₁.gens, s₁.drawn, _, s₁.os⟩) F89 N89 ?_ (by show 1 ≤ sizeLine; decide)
          intro D90 h90 k90 O90 F90 N90
          (try clear F89); (try clear N89)
          (try dsimp only at k90 O90 ⊢)
          k_steps
          refine Stop9.mk ?_
          refine slice9 (s := ⟨h90, s₁.gens, s₁.drawn, _, s₁.os⟩) F90 N90 (News.isList N90 (show (D20, lst9 ys2) ∈ _ by walk_at "my mem")) (.int 1 _) (.int ((n : Int) - 1) _) (pick_mid lenY n1) ?_ rfl (fun _ => rfl) (Nat.le_trans (by omega) (by decide : 8 ≤ sizeLine))
          intro D91 h91 k91 O91 F91 N91
          (try clear F90); (try clear N90)
          (try dsimp only at k91 O91 ⊢)
          k_steps
          refine Stop9.mk ?_
          refine addl9 (s := ⟨h91, s₁.gens, s₁.drawn, _, s₁.os⟩) F91 N91 (News.isList N91 (.tail _ (.head _))) (News.isList N91 (.head _)) ?_ (by rw [List.length_take, List.length_drop]; show 1 + _ ≤ 1000; omega)
          intro D92 h92 k92 O92 F92 N92
          (try clear F91); (try clear N91)
          (try dsimp only at k92 O92 ⊢)
          k_steps
          refine Stop9.mk ?_
          refine lst9n (s := ⟨h92, s₁.gens, s₁.drawn, _, s₁.os⟩) F92 N92 ?_ (by show 1 ≤ sizeLine; decide)
          intro D93 h93 k93 O93 F93 N93
          (try clear F92); (try clear N92)
          (try dsimp only at k93 O93 ⊢)
          k_steps
          refine Stop9.mk ?_
          refine addl9 (s := ⟨h93, s₁.gens, s₁.drawn, _, s₁.os⟩) F93 N93 (News.isList N93 (.tail _ (.head _))) (News.isList N93 (.head _)) ?_ (by rw [List.length_append, List.length_take, List.length_drop]; show 1 + _ + 1 ≤ 1000; omega)
          intro D94 h94 k94 O94 F94 N94
          (try clear F93); (try clear N93)
          (try dsimp only at k94 O94 ⊢)
          k_steps
          have g94 : ZGridAt h94 (.ref D94) (endsZ MA n 0 0) := ⟨D94, _, rfl, News.isList N94 (.head _), by
            have inA : ∀ p ∈ own2, h94.get? p.1 = some p.2 := nat9 N94 (by walk_at "my sub")
            show All2 (ZRowAt h94) (.ref Dr0 :: ((ys2.drop 1).take (n - 2) ++ [.ref Dr0])) (MA.getD 0 [] :: ((MA.drop 1).take (n - 2) ++ [MA.getD 0 []]))
            exact All2.cons (gr0.at inA) (All2.append (((aA.drop 1).take (n - 2)).imp fun _ _ r => r.at inA) (All2.cons (gr0.at inA) All2.nil))⟩
          refine Stop9.mk ?_
          rename Fr _ _ _ _ => F95
          rename News _ _ _ _ => N95
          (try dsimp only at F95 N95 ⊢)
          refine' tell_int (t_told _ (.ref D94) (endsZ MA n 0 0) n (0) SE2 hn0 hn (fun r hr a ha => Nat.lt_of_le_of_lt (bE2 r hr a ha) (by decide)) (fun t T => by rw [told_law SE2 hn0 hn T, eE2]) (by omega)) ?k1 ?k2 ?k3 ?k4 ?k5 ?kK ?kd ?ku ?kP ?_
          case kP => exact g94
          (case k1 => first | k_asm | ktn_no "tell: the frames below")
          (case k2 => first | k_asm | ktn_no "tell: the frame")
          (case k3 => first | k_asm | ktn_no "tell: the written part")
          (case k4 => first | k_asm | ktn_no "tell: the ledger")
          (case k5 => first | k_asm | ktn_no "tell: the top's facts")
          (case kK => first | exact rfl | assumption | ktn_no "tell: the caller is no def")
          (case kd => first | ktr_room | ktn_no "tell: the frames' room")
          (case ku => first | ktr_units | ktn_no "tell: the C units")
          intro t96 h96 tk96 k96 F96 N96
          replace N96 : News g L h96 ((L + 1 + 1 + 1, o3') :: (L + 1 + 1, o2') :: (Dr0, lstObj us0 cr0) :: (186, tabObj ps2) :: (D20, lst9 ys2) :: (D30, lst9 ys3) :: (D40, lst9 ys4) :: (own4 ++ (own3 ++ own2))) := nsub N96 (by walk_at "my sub")
          (try clear F94); (try clear N94); (try clear F95); (try clear N95)
          (try dsimp only at k96 ⊢)
          k_steps
          exact ⟨h96, _, _, rfl, F96, N96, m1, m2, m3, m4⟩
        · exact ⟨h77, _, _, rfl, F77, N77, m1, m2, m3, m4⟩
      case fin =>
        rintro s' ⟨h100, tk100, m9, rfl, F100, N100, p1, p2, p3, p4⟩
        clear F77 N77
        k_steps
        refine Stop9.mk ?_
        rename Fr _ _ _ _ => F101
        rename News _ _ _ _ => N101
        (try dsimp only at F101 N101 ⊢)
        refine' tell_use (t_right _ (.ref D20) (.ref D40) tw MA sd n SA lenS hn0 hn (fun r hr a ha => Nat.le_trans (bA r hr a ha) (by decide)) (fun x hx => Nat.le_trans (bS x hx) (by decide))) ?k1 ?k2 ?k3 ?k4 ?k5 ?kK ?kd ?ku ?kP ?_
        case kP => exact ⟨gA.at (nat9 N101 (by walk_at "my sub")), gS.at (nat9 N101 (by walk_at "my sub"))⟩
        (case k1 => first | k_asm | ktn_no "tell: the frames below")
        (case k2 => first | k_asm | ktn_no "tell: the frame")
        (case k3 => first | k_asm | ktn_no "tell: the written part")
        (case k4 => first | k_asm | ktn_no "tell: the ledger")
        (case k5 => first | k_asm | ktn_no "tell: the top's facts")
        (case kK => first | exact rfl | assumption | ktn_no "tell: the caller is no def")
        (case kd => first | ktr_room | ktn_no "tell: the frames' room")
        (case ku => first | ktr_units | ktn_no "tell: the C units")
        rintro r102 own102 h102 tk102 ⟨rfl, rfl⟩ k102 O102 F102 N102
        rw [List.nil_append] at N102
        (try clear F100); (try clear N100); (try clear F101); (try clear N101)
        (try dsimp only at k102 O102 ⊢)
        k_steps
        refine Stop9.mk ?_
        rename Fr _ _ _ _ => F103
        rename News _ _ _ _ => N103
        (try dsimp only at F103 N103 ⊢)
        refine' tell_int (t_lawsum _ n MB (.ref D30) SB (fun r hr a ha => Nat.lt_of_le_of_lt (bB r hr a ha) (by decide)) hn) ?k1 ?k2 ?k3 ?k4 ?k5 ?kK ?kd ?ku ?kP ?_
        case kP => exact gB.at (nat9 N103 (by walk_at "my sub"))
        (case k1 => first | k_asm | ktn_no "tell: the frames below")
        (case k2 => first | k_asm | ktn_no "tell: the frame")
        (case k3 => first | k_asm | ktn_no "tell: the written part")
        (case k4 => first | k_asm | ktn_no "tell: the ledger")
        (case k5 => first | k_asm | ktn_no "tell: the top's facts")
        (case kK => first | exact rfl | assumption | ktn_no "tell: the caller is no def")
        (case kd => first | ktr_room | ktn_no "tell: the frames' room")
        (case ku => first | ktr_units | ktn_no "tell: the C units")
        intro t104 h104 tk104 k104 F104 N104
        (try clear F102); (try clear N102); (try clear F103); (try clear N103)
        (try dsimp only at k104 ⊢)
        k_steps
        refine Stop9.mk ?_
        rename Fr _ _ _ _ => F105
        rename News _ _ _ _ => N105
        (try dsimp only at F105 N105 ⊢)
        refine' tell_use (t_right _ (.ref D30) (.ref D40) t104 MB sd n SB lenS hn0 hn (fun r hr a ha => Nat.le_trans (bB r hr a ha) (by decide)) (fun x hx => Nat.le_trans (bS x hx) (by decide))) ?k1 ?k2 ?k3 ?k4 ?k5 ?kK ?kd ?ku ?kP ?_
        case kP => exact ⟨gB.at (nat9 N105 (by walk_at "my sub")), gS.at (nat9 N105 (by walk_at "my sub"))⟩
        (case k1 => first | k_asm | ktn_no "tell: the frames below")
        (case k2 => first | k_asm | ktn_no "tell: the frame")
        (case k3 => first | k_asm | ktn_no "tell: the written part")
        (case k4 => first | k_asm | ktn_no "tell: the ledger")
        (case k5 => first | k_asm | ktn_no "tell: the top's facts")
        (case kK => first | exact rfl | assumption | ktn_no "tell: the caller is no def")
        (case kd => first | ktr_room | ktn_no "tell: the frames' room")
        (case ku => first | ktr_units | ktn_no "tell: the C units")
        rintro r106 own106 h106 tk106 ⟨rfl, rfl⟩ k106 O106 F106 N106
        rw [List.nil_append] at N106
        (try clear F104); (try clear N104); (try clear F105); (try clear N105)
        (try dsimp only at k106 O106 ⊢)
        k_steps
        exact ⟨h106, _, _, ps2, rfl, F106, nsub N106 (by walk_at "my sub"), rfl⟩
  (try dsimp only [List.take])
  k_steps
  refine Stop9.mk ?_
  have aI := ints_all2 hI
  refine slice9 (s := ⟨h₁, s₁.gens, s₁.drawn, _, s₁.os⟩) (vs := vs) F' N' (lifted.at fun o e => F'.keep _ _ e) .none (.int 30 _) (pick_upto vs 30) ?_ rfl (fun _ => rfl) (Nat.le_trans (by rw [aI.1]; omega) (by decide : 100 ≤ sizeLine))
  intro D1 h2 k2 O2 F2 N2
  have K2 := Kept.mk F' N'
  (try clear F'); (try clear N')
  k_steps
  rename_i _ _ k9 M9
  (try dsimp only at k2 O2 k9 M9 ⊢)
  (try rename Fr _ _ _ _ => FX); (try rename News _ _ _ _ => NX); (try clear FX); (try clear NX); (try clear F2); (try clear N2)
  refine compAt_pure (fun _ => true) (fun j o y => ∃ x, IntIs y x ∧ 0 ≤ x) trivial ((M9 _).older k2) (HLe.trans k2 k9) ?hsz1 (binds_name rfl rfl) ?tst1 ?elt1 ?fin1
  case hsz1 => rw [List.size_toArray, List.length_take]; exact Nat.le_trans (by omega) (by decide : 30 ≤ sizeLine)
  case tst1 =>
    intro i h tk C m E' _ _ _ _ _
    exact wpAny_tests_nil ⟨rfl, h, tk, rfl, HLe.refl _⟩
  case elt1 =>
    rintro i h3 tk3 C mC E' hi - ⟨v, ⟨_, hv⟩, mx⟩ hn' hC hk
    obtain ⟨oC, nC, F3, N3⟩ := elt_ground K2.fr K2.led (HLe.trans k2 k9) hk hn' hC
    rw [List.getElem?_toArray] at hv
    obtain ⟨x, hx⟩ : ∃ x, (ns.take 30)[i]? = some x := ⟨_, List.getElem?_eq_getElem (by rw [← (aI.take 30).1]; exact (List.getElem?_eq_some_iff.mp hv).1)⟩
    obtain ⟨t, rfl⟩ := (aI.take 30).2 i _ _ hv hx
    clear K2 k9 M9 hk
    k_steps
    exact Out.one (own := []) (HLe.refl _) (fun _ h => nomatch h) ⟨_, ⟨_, rfl⟩, by split <;> omega⟩
  case fin1 =>
    intro D3 h3 tk3 ys own hb hA hO
    have F3 := Fr.grow K2.fr hb.le
    have N3a := News.grow K2.fr K2.led hb.le hO
    obtain ⟨xs, lx, ax, px⟩ := acc_ex (T := fun _ => IntIs) (P := fun x => 0 ≤ x) (fun _ _ _ _ r _ => r) hA (fun _ _ _ r => r)
    rw [List.size_toArray, List.length_take] at lx
    have N3 : News g L h3 [(L + 1 + 1 + 1, o3), (L + 1 + 1, o2), (L + 1, o1), (186, tabObj #[]), (D3, lst9 ys)] := nsub N3a (by walk_at "my sub")
    have offS := Own.off hO K2.led _ (.head _)
    clear N3a K2 hb hA hO k9 M9
    k_steps
    refine Stop9.mk ?_
    refine lst9n (s := ⟨h3, s₁.gens, s₁.drawn, _, s₁.os⟩) F3 N3 ?_ (by show 2 ≤ sizeLine; decide)
    intro R h4 k4 O4 F4 N4
    have offR : ∀ p ∈ [(L + 1 + 1 + 1, o3), (L + 1 + 1, o2), (L + 1, o1), (186, tabObj #[]), (D3, lst9 ys)], p.1 ≠ R := fun p hp => Ne.symm (Own.off O4 N3 _ (.head _) p hp)
    (try clear F3); (try clear N3)
    (try dsimp only at k4 O4 ⊢)
    k_steps
    refine Stop9.mk ?_
    rename Fr _ _ _ _ => F5
    rename News _ _ _ _ => N5
    refine storeC9 [(R, reelObj 0 tk₁ D3 0), (D3, lstObj ys ys.length), (L + 1 + 1, o2), (L + 1 + 1 + 1, o3), (186, tabObj #[])] F5 N5 (c := L + 1) (o := o1) rfl (.tail _ (.tail _ (.tail _ (.head _)))) e1 ?sub1 ?off1 ?_ rfl rfl
    case sub1 => walk_at "my sub"
    case off1 => exact off_cons (Ne.symm (offR (L + 1, o1) (by walk_at "my mem"))) (off_cons (offS (L + 1, o1) (by walk_at "my mem")) (off_cons (Nat.ne_of_gt (Nat.lt_succ_self _)) (off_cons (Nat.ne_of_gt (Nat.lt_of_lt_of_le (Nat.lt_succ_self _) (Nat.le_succ _))) (off_cons (Nat.ne_of_lt (Nat.lt_of_lt_of_le l0 (Nat.le_succ _))) off_nil))))
    intro h6 o1' F6 N6 d1'
    have off0 : ∀ oA oB oC oT : Obj, ∀ p ∈ [(D3, lst9 ys), (L + 1, oA), (L + 1 + 1, oB), (L + 1 + 1 + 1, oC), (186, oT)], p.1 ≠ R := fun oA oB oC oT => off_cons (offR (D3, lst9 ys) (by walk_at "my mem")) (off_cons (offR (L + 1, o1) (by walk_at "my mem")) (off_cons (offR (L + 1 + 1, o2) (by walk_at "my mem")) (off_cons (offR (L + 1 + 1 + 1, o3) (by walk_at "my mem")) (off_cons (offR (186, tabObj #[]) (by walk_at "my mem")) off_nil))))
    have N7 : News g L h6 ((R, reelObj 0 tk₁ D3 0) :: [(D3, lst9 ys), (L + 1, o1'), (L + 1 + 1, o2), (L + 1 + 1 + 1, o3), (186, tabObj #[])]) := nsub N6 (by walk_at "my sub")
    have lxs : xs.length ≤ 30 := by omega
    (try clear F4); (try clear N4); (try clear F5); (try clear N5); clear N6
    k_steps
    refine Stop9.mk ?_
    rename Fr _ _ _ _ => F8
    rename News _ _ _ _ => N8
    refine' cell_use ?k1 ?k2 ?k3 N8 ?k5 ?kK ?kd ?ku (off0 _ _ _ _) (by decide) px lxs ax ?_
    case k1 => exact K'
    case k2 => exact F8
    case k3 => exact X'
    case k5 => exact T'
    case kK => exact rfl
    case kd => ktr_room
    case ku => ktr_units
    intro x tx t' h9 tk9 hx hb9 F9 N9
    (try clear F6); (try clear N7); (try clear F8); (try clear N8)
    (try dsimp only at hb9 ⊢)
    k_steps
    refine Stop9.mk ?_
    rename Fr _ _ _ _ => F10
    rename News _ _ _ _ => N10
    (try dsimp only at N10 F10 ⊢)
    refine storeC9 [(R, reelObj (0 + 1) t' D3 0), (D3, lst9 ys), (L + 1, o1'), (L + 1 + 1 + 1, o3), (186, tabObj #[])] F10 N10 (c := L + 1 + 1) (o := o2) rfl (.tail _ (.tail _ (.tail _ (.head _)))) e2 ?sub2 ?off2 ?_ rfl rfl
    case sub2 => walk_at "my sub"
    case off2 => exact off_cons (Ne.symm (offR (L + 1 + 1, o2) (by walk_at "my mem"))) (off_cons (offS (L + 1 + 1, o2) (by walk_at "my mem")) (off_cons (Nat.ne_of_lt (Nat.lt_succ_self _)) (off_cons (Nat.ne_of_gt (Nat.lt_succ_self _)) (off_cons (Nat.ne_of_lt (Nat.lt_of_lt_of_le l0 (Nat.le_trans (Nat.le_succ _) (Nat.le_succ _)))) off_nil))))
    intro h11 o2' F11 N11 d2x
    obtain ⟨n, en, hn0, hn⟩ := size_of hx
    obtain ⟨tn, d2'⟩ : ∃ tn, o2'.data = .cell (some (.int n tn)) := ⟨_, by rw [← en]; exact d2x⟩
    have N12 : News g L h11 ((R, reelObj (0 + 1) t' D3 0) :: [(D3, lst9 ys), (L + 1, o1'), (L + 1 + 1, o2'), (L + 1 + 1 + 1, o3), (186, tabObj #[])]) := nsub N11 (by walk_at "my sub")
    have K12 := Kept.mk F11 N12
    have RL : R ≠ L := (K12.led _ (.head _)).2.1
    have Rg : g.get? R = none := (K12.led _ (.head _)).2.2
    have okR : L ∉ [R] ∧ ∀ b ∈ [R], g.get? b = none := ⟨by simpa using Ne.symm RL, fun b hb => by rw [List.mem_singleton.mp hb]; exact Rg⟩
    have hkA : (0 : Int) ≤ 0 + 1 := by decide
    have L12 := K12
    (try clear F9); (try clear N9); (try clear F10); (try clear N10); clear N11 d2x
    k_steps
    refine Stop9.mk ?_
    rename IsRange _ _ _ _ _ _ _ _ => rg
    rename HLe _ _ => kB
    (try rename Fr _ _ _ _ => FX); (try rename News _ _ _ _ => NX); (try clear FX); (try clear NX); (try clear F11); (try clear N12)
    (try dsimp only at kB rg ⊢)
    refine ready_rangeN (n := n) rfl rg (small_up (by omega)) (rangeSize_up (by omega)) ?_
    intro h13 I kI RI
    (try dsimp only at kI RI ⊢)
    refine compAt_wr (R := R) (ReelAt R D3 0) (fun i o y => ∃ is, ZRowIn o y is ∧ is.length = n ∧ ∀ a ∈ is, a.natAbs ≤ 5) ReelAt.there ReelAt.same (reel_in K12.led hkA) okR ((RI _ _).older kB) (HLe.trans kB kI) ?hszA (binds_name rfl rfl) ?eltA ?finA
    case hszA => exact Nat.le_trans (by omega) (by decide : 8 ≤ sizeLine)
    case eltA =>
      rintro i h14 tk14 C mC E' hi ⟨v, ⟨_, t2, ev⟩, mx⟩ hn' hC hb ⟨k, t3, hk0, eR⟩
      obtain ⟨oC, nC, F14, N14, CR⟩ := elt_groundW K12.fr K12.led (off0 o1' o2' o3 (tabObj #[])) (HLe.trans kB kI) hb eR hn' hC
      replace N14 : News g L h14 ((R, reelObj k t3 D3 0) :: [(D3, lst9 ys), (L + 1, o1'), (L + 1 + 1, o2'), (L + 1 + 1 + 1, o3), (186, tabObj #[]), (C, oC)]) := N14
      have off14 := off_app (off0 o1' o2' o3 (tabObj #[])) (off_one (o := oC) CR)
      have K14 := Kept.mk F14 N14
      clear K12 L12 RI kI kB rg hb
      k_steps
      refine Stop9.mk ?_
      rename IsRange _ _ _ _ _ _ _ _ => rgAi
      rename HLe _ _ => kBAi
      (try rename Fr _ _ _ _ => FX); (try rename News _ _ _ _ => NX); (try clear FX); (try clear NX); (try clear F14); (try clear N14)
      (try dsimp only at kBAi rgAi ⊢)
      refine ready_rangeN (n := n) rfl rgAi (small_up (by omega)) (rangeSize_up (by omega)) ?_
      intro h15 IAi kIAi RIAi
      (try dsimp only at kIAi RIAi ⊢)
      refine compAt_wr (R := R) (ReelAt R D3 0) (fun j o y => ∃ a, IntIs y a ∧ a.natAbs ≤ 5) ReelAt.there ReelAt.same (reel_in K14.led hk0) trivial ((RIAi _ _).older kBAi) (HLe.trans kBAi kIAi) ?hszAi (binds_name rfl rfl) ?eltAi ?finAi
      case hszAi => exact Nat.le_trans (by omega) (by decide : 8 ≤ sizeLine)
      case eltAi =>
        rintro j h16 tk16 C2 mC2 E2 hj ⟨v2, ⟨_, t4, ev2⟩, mx2⟩ hn2 hC2 hb2 ⟨k2, t5, hk2, eR2⟩
        obtain ⟨oC2, nC2, F16, N16, CR2⟩ := elt_groundW K14.fr K14.led off14 (HLe.trans kBAi kIAi) hb2 eR2 hn2 hC2
        replace N16 : News g L h16 ((R, reelObj k2 t5 D3 0) :: [(D3, lst9 ys), (L + 1, o1'), (L + 1 + 1, o2'), (L + 1 + 1 + 1, o3), (186, tabObj #[]), (C, oC), (C2, oC2)]) := N16
        have off16 := off_app off14 (off_one (o := oC2) CR2)
        clear K14 RIAi kIAi kBAi rgAi hb2
        k_steps
        refine Stop9.mk ?_
        rename Fr _ _ _ _ => F17
        rename News _ _ _ _ => N17
        refine' cell_use ?k1 ?k2 ?k3 N17 ?k5 ?kK ?kd ?ku off16 hk2 px lxs ax ?_
        case k1 => exact K'
        case k2 => exact F17
        case k3 => exact X'
        case k5 => exact T'
        case kK => exact rfl
        case kd => ktr_room
        case ku => ktr_units
        intro x2 tx2 t6 h18 tk18 hx2 hb18 F18 N18
        (try clear F16); (try clear N16); (try clear F17); (try clear N17)
        (try dsimp only at hb18 ⊢)
        k_steps
        exact ⟨[], h18, _, rfl, hb18, ⟨k2 + 1, t6, by omega, (N18 _ (.head _)).1⟩, (fun _ h => nomatch h), _, ⟨_, rfl⟩, draw_small (m := 11) (c := 5) (b := 5) (by decide) (by decide) (by decide) (by decide)⟩
      case finAi =>
        intro D19 h19 tk19 ys9 own9 hb9 hV9 hA9 hO9
        obtain ⟨xs9, lx9, ax9, px9⟩ := acc_ex (T := fun _ => IntIs) (P := fun a => a.natAbs ≤ 5) (fun _ _ _ _ r _ => r) hA9 (fun _ _ _ r => r)
        exact ⟨(D19, lst9 ys9) :: own9, h19, _, rfl, by simpa using hb9, hV9, hO9, xs9, ⟨D19, ys9, _, rfl, .head _, ax9⟩, lx9, px9⟩
    case finA =>
      intro D20 h20 tk20 ys2 own2 hb hV hA hO F20
      obtain ⟨k20, t20, hkB, eR⟩ := hV
      obtain ⟨MA, lenA, aA, pA⟩ := acc_ex (T := ZRowIn) (P := fun is => is.length = n ∧ ∀ a ∈ is, a.natAbs ≤ 5) (fun _ _ _ _ r k => r.mono k) hA (fun _ _ _ r => r)
      have N20a := News.growW L12.fr L12.led (off0 _ _ _ _) (X := [L] ++ [R]) (fun x hx => by simpa using hx) hb eR hO
      have offA := fun p hp => Own.off hO L12.led p hp (R, reelObj (0 + 1) t' D3 0) (.head _)
      have ne3A := fun p hp => Own.off hO L12.led p hp (L + 1 + 1 + 1, o3) (by walk_at "my mem")
      have neTA := fun p hp => Own.off hO L12.led p hp (186, tabObj #[]) (by walk_at "my mem")
      have SA : ZSq MA n := ⟨lenA, fun r hr => (pA r hr).1⟩
      have bA : ∀ r ∈ MA, ∀ a ∈ r, a.natAbs ≤ 5 := fun r hr => (pA r hr).2
      have gA : ZGridIn ((D20, lst9 ys2) :: own2) (.ref D20) MA := ⟨D20, ys2, _, rfl, .head _, aA.imp fun _ _ r => r.mono fun _ hp => .tail _ hp⟩
      clear hA hO hb K12 L12 RI kI kB rg
      have N20 : News g L h20 ((R, reelObj k20 t20 D3 0) :: [(D3, lst9 ys), (L + 1, o1'), (L + 1 + 1, o2'), (L + 1 + 1 + 1, o3), (186, tabObj #[])]) := fun p hp => N20a p (by
        rcases List.mem_cons.mp hp with rfl | hp
        · exact .head _
        · exact .tail _ (List.mem_append_right _ hp))
      have K20 := Kept.mk F20 N20
      have L20 := Kept.mk F20 N20a
      have off20 : ∀ p ∈ (D20, lst9 ys2) :: own2 ++ [(D3, lst9 ys), (L + 1, o1'), (L + 1 + 1, o2'), (L + 1 + 1 + 1, o3), (186, tabObj #[])], p.1 ≠ R := off_app offA (off0 o1' o2' o3 (tabObj #[]))
      clear N20a
      k_steps
      refine Stop9.mk ?_
      rename IsRange _ _ _ _ _ _ _ _ => rg
      rename HLe _ _ => kB
      (try rename Fr _ _ _ _ => FX); (try rename News _ _ _ _ => NX); (try clear FX); (try clear NX); (try clear F20); (try clear N20)
      (try dsimp only at kB rg ⊢)
      refine ready_rangeN (n := n) rfl rg (small_up (by omega)) (rangeSize_up (by omega)) ?_
      intro h13 I kI RI
      (try dsimp only at kI RI ⊢)
      refine compAt_wr (R := R) (ReelAt R D3 0) (fun i o y => ∃ is, ZRowIn o y is ∧ is.length = n ∧ ∀ a ∈ is, a.natAbs ≤ 3) ReelAt.there ReelAt.same (reel_in K20.led hkB) okR ((RI _ _).older kB) (HLe.trans kB kI) ?hszB (binds_name rfl rfl) ?eltB ?finB
      case hszB => exact Nat.le_trans (by omega) (by decide : 8 ≤ sizeLine)
      case eltB =>
        rintro i h14 tk14 C mC E' hi ⟨v, ⟨_, t2, ev⟩, mx⟩ hn' hC hb ⟨k, t3, hk0, eR⟩
        obtain ⟨oC, nC, F14, N14, CR⟩ := elt_groundW K20.fr K20.led (off0 o1' o2' o3 (tabObj #[])) (HLe.trans kB kI) hb eR hn' hC
        replace N14 : News g L h14 ((R, reelObj k t3 D3 0) :: [(D3, lst9 ys), (L + 1, o1'), (L + 1 + 1, o2'), (L + 1 + 1 + 1, o3), (186, tabObj #[]), (C, oC)]) := N14
        have off14 := off_app (off0 o1' o2' o3 (tabObj #[])) (off_one (o := oC) CR)
        have K14 := Kept.mk F14 N14
        clear K20 L20 RI kI kB rg hb
        k_steps
        refine Stop9.mk ?_
        rename IsRange _ _ _ _ _ _ _ _ => rgBi
        rename HLe _ _ => kBBi
        (try rename Fr _ _ _ _ => FX); (try rename News _ _ _ _ => NX); (try clear FX); (try clear NX); (try clear F14); (try clear N14)
        (try dsimp only at kBBi rgBi ⊢)
        refine ready_rangeN (n := n) rfl rgBi (small_up (by omega)) (rangeSize_up (by omega)) ?_
        intro h15 IBi kIBi RIBi
        (try dsimp only at kIBi RIBi ⊢)
        refine compAt_wr (R := R) (ReelAt R D3 0) (fun j o y => ∃ a, IntIs y a ∧ a.natAbs ≤ 3) ReelAt.there ReelAt.same (reel_in K14.led hk0) trivial ((RIBi _ _).older kBBi) (HLe.trans kBBi kIBi) ?hszBi (binds_name rfl rfl) ?eltBi ?finBi
        case hszBi => exact Nat.le_trans (by omega) (by decide : 8 ≤ sizeLine)
        case eltBi =>
          rintro j h16 tk16 C2 mC2 E2 hj ⟨v2, ⟨_, t4, ev2⟩, mx2⟩ hn2 hC2 hb2 ⟨k2, t5, hk2, eR2⟩
          obtain ⟨oC2, nC2, F16, N16, CR2⟩ := elt_groundW K14.fr K14.led off14 (HLe.trans kBBi kIBi) hb2 eR2 hn2 hC2
          replace N16 : News g L h16 ((R, reelObj k2 t5 D3 0) :: [(D3, lst9 ys), (L + 1, o1'), (L + 1 + 1, o2'), (L + 1 + 1 + 1, o3), (186, tabObj #[]), (C, oC), (C2, oC2)]) := N16
          have off16 := off_app off14 (off_one (o := oC2) CR2)
          clear K14 RIBi kIBi kBBi rgBi hb2
          k_steps
          refine Stop9.mk ?_
          rename Fr _ _ _ _ => F17
          rename News _ _ _ _ => N17
          refine' cell_use ?k1 ?k2 ?k3 N17 ?k5 ?kK ?kd ?ku off16 hk2 px lxs ax ?_
          case k1 => exact K'
          case k2 => exact F17
          case k3 => exact X'
          case k5 => exact T'
          case kK => exact rfl
          case kd => ktr_room
          case ku => ktr_units
          intro x2 tx2 t6 h18 tk18 hx2 hb18 F18 N18
          (try clear F16); (try clear N16); (try clear F17); (try clear N17)
          (try dsimp only at hb18 ⊢)
          k_steps
          exact ⟨[], h18, _, rfl, hb18, ⟨k2 + 1, t6, by omega, (N18 _ (.head _)).1⟩, (fun _ h => nomatch h), _, ⟨_, rfl⟩, draw_small (m := 7) (c := 3) (b := 3) (by decide) (by decide) (by decide) (by decide)⟩
        case finBi =>
          intro D19 h19 tk19 ys9 own9 hb9 hV9 hA9 hO9
          obtain ⟨xs9, lx9, ax9, px9⟩ := acc_ex (T := fun _ => IntIs) (P := fun a => a.natAbs ≤ 3) (fun _ _ _ _ r _ => r) hA9 (fun _ _ _ r => r)
          exact ⟨(D19, lst9 ys9) :: own9, h19, _, rfl, by simpa using hb9, hV9, hO9, xs9, ⟨D19, ys9, _, rfl, .head _, ax9⟩, lx9, px9⟩
      case finB =>
        intro D30 h30 tk30 ys3 own3 hb hV hA hO F30
        obtain ⟨k30, t30, hkC, eR3⟩ := hV
        obtain ⟨MB, lenB, aB, pB⟩ := acc_ex (T := ZRowIn) (P := fun is => is.length = n ∧ ∀ a ∈ is, a.natAbs ≤ 3) (fun _ _ _ _ r k => r.mono k) hA (fun _ _ _ r => r)
        have N30a := News.growW L20.fr L20.led off20 (X := [L] ++ [R]) (fun x hx => by simpa using hx) hb eR3 hO
        have offB := fun p hp => Own.off hO L20.led p hp (R, reelObj k20 t20 D3 0) (.head _)
        have ne3B := fun p hp => Own.off hO L20.led p hp (L + 1 + 1 + 1, o3) (by walk_at "my mem")
        have neTB := fun p hp => Own.off hO L20.led p hp (186, tabObj #[]) (by walk_at "my mem")
        have SB : ZSq MB n := ⟨lenB, fun r hr => (pB r hr).1⟩
        have bB : ∀ r ∈ MB, ∀ a ∈ r, a.natAbs ≤ 3 := fun r hr => (pB r hr).2
        have gB : ZGridIn ((D30, lst9 ys3) :: own3) (.ref D30) MB := ⟨D30, ys3, _, rfl, .head _, aB.imp fun _ _ r => r.mono fun _ hp => .tail _ hp⟩
        clear hA hO hb K20 L20 RI kI kB rg
        have N30 : News g L h30 ((R, reelObj k30 t30 D3 0) :: [(D3, lst9 ys), (L + 1, o1'), (L + 1 + 1, o2'), (L + 1 + 1 + 1, o3), (186, tabObj #[])]) := fun p hp => N30a p (by
          rcases List.mem_cons.mp hp with rfl | hp
          · exact .head _
          · exact .tail _ (List.mem_append_right _ (List.mem_append_right _ hp)))
        have K30 := Kept.mk F30 N30
        have L30 := Kept.mk F30 N30a
        have off30 := off_app offB off20
        clear N30a
        k_steps
        have hk0 := hkC
        refine Stop9.mk ?_
        rename IsRange _ _ _ _ _ _ _ _ => rgS
        rename HLe _ _ => kBS
        (try rename Fr _ _ _ _ => FX); (try rename News _ _ _ _ => NX); (try clear FX); (try clear NX); (try clear F30); (try clear N30)
        (try dsimp only at kBS rgS ⊢)
        refine ready_rangeN (n := n) rfl rgS (small_up (by omega)) (rangeSize_up (by omega)) ?_
        intro h15 IS kIS RIS
        (try dsimp only at kIS RIS ⊢)
        refine compAt_wr (R := R) (ReelAt R D3 0) (fun j o y => ∃ a, IntIs y a ∧ a.natAbs ≤ 4) ReelAt.there ReelAt.same (reel_in K30.led hk0) trivial ((RIS _ _).older kBS) (HLe.trans kBS kIS) ?hszS (binds_name rfl rfl) ?eltS ?finS
        case hszS => exact Nat.le_trans (by omega) (by decide : 8 ≤ sizeLine)
        case eltS =>
          rintro j h16 tk16 C2 mC2 E2 hj ⟨v2, ⟨_, t4, ev2⟩, mx2⟩ hn2 hC2 hb2 ⟨k2, t5, hk2, eR2⟩
          obtain ⟨oC2, nC2, F16, N16, CR2⟩ := elt_groundW K30.fr K30.led (off0 o1' o2' o3 (tabObj #[])) (HLe.trans kBS kIS) hb2 eR2 hn2 hC2
          replace N16 : News g L h16 ((R, reelObj k2 t5 D3 0) :: [(D3, lst9 ys), (L + 1, o1'), (L + 1 + 1, o2'), (L + 1 + 1 + 1, o3), (186, tabObj #[]), (C2, oC2)]) := N16
          have off16 := off_app (off0 o1' o2' o3 (tabObj #[])) (off_one (o := oC2) CR2)
          clear K30 RIS kIS kBS rgS hb2
          k_steps
          refine Stop9.mk ?_
          rename Fr _ _ _ _ => F17
          rename News _ _ _ _ => N17
          refine' cell_use ?k1 ?k2 ?k3 N17 ?k5 ?kK ?kd ?ku off16 hk2 px lxs ax ?_
          case k1 => exact K'
          case k2 => exact F17
          case k3 => exact X'
          case k5 => exact T'
          case kK => exact rfl
          case kd => ktr_room
          case ku => ktr_units
          intro x2 tx2 t6 h18 tk18 hx2 hb18 F18 N18
          (try clear F16); (try clear N16); (try clear F17); (try clear N17)
          (try dsimp only at hb18 ⊢)
          k_steps
          exact ⟨[], h18, _, rfl, hb18, ⟨k2 + 1, t6, by omega, (N18 _ (.head _)).1⟩, (fun _ h => nomatch h), _, ⟨_, rfl⟩, draw_small (m := 9) (c := 4) (b := 4) (by decide) (by decide) (by decide) (by decide)⟩
        case finS =>
          intro D40 h40 tk40 ys4 own4 hb hV hA hO
          obtain ⟨k40, t40, hkD, eR4⟩ := hV
          obtain ⟨sd, lenS, aS, pS⟩ := acc_ex (T := fun _ => IntIs) (P := fun a => a.natAbs ≤ 4) (fun _ _ _ _ r _ => r) hA (fun _ _ _ r => r)
          have N40a := News.growW L30.fr L30.led off30 (X := [R]) (fun x hx => .inr (by simpa using hx)) (by simpa using hb) eR4 hO
          have F40 : Fr g L h40 _ := HBut.fr L30.fr (X := [R]) (by simpa using hb) okR.1 okR.2
          have offC := fun p hp => Own.off hO L30.led p hp (R, reelObj k30 t30 D3 0) (.head _)
          have ne3S := fun p hp => Own.off hO L30.led p hp (L + 1 + 1 + 1, o3) (by walk_at "my mem")
          have neTS := fun p hp => Own.off hO L30.led p hp (186, tabObj #[]) (by walk_at "my mem")
          have off40 := off_app offC off30
          have gS : ZRowIn ((D40, lst9 ys4) :: own4) (.ref D40) sd := ⟨D40, ys4, _, rfl, .head _, aS⟩
          have N40 : News g L h40 ((R, reelObj k40 t40 D3 0) :: (L + 1, o1') :: (L + 1 + 1, o2') :: (L + 1 + 1 + 1, o3) :: (186, tabObj #[]) :: (D3, lst9 ys) :: (D20, lst9 ys2) :: (D30, lst9 ys3) :: (D40, lst9 ys4) :: (own4 ++ (own3 ++ own2))) := nsub N40a (by walk_at "my sub")
          have offF : ∀ p ∈ (D3, lst9 ys) :: (L + 1, o1') :: (L + 1 + 1, o2') :: (L + 1 + 1 + 1, o3) :: (186, tabObj #[]) :: (D20, lst9 ys2) :: (D30, lst9 ys3) :: (D40, lst9 ys4) :: (own4 ++ (own3 ++ own2)), p.1 ≠ R := off_sub off40 (by walk_at "my sub")
          clear hA hO hb K30 L30 N40a RIS kIS kBS rgS
          k_steps
          refine Stop9.mk ?_
          (try rename Fr _ _ _ _ => F41)
          (try rename News _ _ _ _ => N41)
          refine' cell_use (cR := 0) (cS := ys.length) (t := t40) (k := k40) (rest := (L + 1, o1') :: (L + 1 + 1, o2') :: (L + 1 + 1 + 1, o3) :: (186, tabObj #[]) :: (D20, lst9 ys2) :: (D30, lst9 ys3) :: (D40, lst9 ys4) :: (own4 ++ (own3 ++ own2))) ?k1 ?k2 ?k3 ?k4 ?k5 ?kK ?kd ?ku offF hkD px lxs ax ?_
          case k1 => exact K'
          case k2 => exact F41
          case k3 => exact X'
          case k4 => exact nsub N41 (by walk_at "my sub")
          case k5 => exact T'
          case kK => exact rfl
          case kd => ktr_room
          case ku => ktr_units
          intro x42 tx42 t42 h42 tk42 hx42 hb42 F42 N42a
          have N42 : News g L h42 ((R, reelObj (k40 + 1) t42 D3 0) :: (L + 1, o1') :: (L + 1 + 1, o2') :: (L + 1 + 1 + 1, o3) :: (186, tabObj #[]) :: (D3, lst9 ys) :: (D20, lst9 ys2) :: (D30, lst9 ys3) :: (D40, lst9 ys4) :: (own4 ++ (own3 ++ own2))) := nsub N42a (by walk_at "my sub")
          (try clear F40); (try clear N40); (try clear F41); (try clear N41); clear N42a
          (try dsimp only at hb42 ⊢)
          k_steps
          refine Stop9.mk ?_
          rename Fr _ _ _ _ => F43
          rename News _ _ _ _ => N43
          (try dsimp only at F43 N43 ⊢)
          refine tup9 (s := ⟨_, s₁.gens, s₁.drawn, _, s₁.os⟩) F43 N43 ?_ (by show 2 ≤ sizeLine; decide)
          intro D44 h44 k44 O44 F44 N44
          (try dsimp only at k44 O44 ⊢)
          (try clear F42); (try clear N42); (try clear F43); (try clear N43)
          k_steps
          refine Stop9.mk ?_
          rename Fr _ _ _ _ => F45
          rename News _ _ _ _ => N45
          (try dsimp only at F45 N45 ⊢)
          refine storeC9 ((L + 1 + 1, o2') :: (186, tabObj #[]) :: (D20, lst9 ys2) :: (D30, lst9 ys3) :: (D40, lst9 ys4) :: (own4 ++ (own3 ++ own2))) F45 N45 (c := L + 1 + 1 + 1) (o := o3) rfl (by walk_at "my mem") e3 ?sub3 ?off3 ?_ rfl rfl
          case sub3 => walk_at "my sub"
          case off3 => exact off_cons (Nat.ne_of_lt (Nat.lt_succ_self _)) (off_cons (Nat.ne_of_lt (Nat.lt_of_lt_of_le l0 (Nat.le_trans (Nat.le_succ _) (Nat.le_trans (Nat.le_succ _) (Nat.le_succ _))))) (off_cons (off_head ne3A) (off_cons (off_head ne3B) (off_cons (off_head ne3S) (off_app (off_rest ne3S) (off_app (off_rest ne3B) (off_rest ne3A)))))))
          intro h46 o3' F46 N46 d3x
          obtain ⟨fac, tf, d3', bf⟩ : ∃ fac tf, o3'.data = .cell (some (.int fac tf)) ∧ fac.natAbs ≤ 6 := ⟨_, _, d3x, draw_small (m := 13) (c := 6) (b := 6) (by decide) (by decide) (by decide) (by decide)⟩
          have memA : ∀ p ∈ (D20, lst9 ys2) :: own2, p ∈ (L + 1 + 1 + 1, o3') :: (L + 1 + 1, o2') :: (186, tabObj #[]) :: (D20, lst9 ys2) :: (D30, lst9 ys3) :: (D40, lst9 ys4) :: (own4 ++ (own3 ++ own2)) := by walk_at "my sub"
          have memB : ∀ p ∈ (D30, lst9 ys3) :: own3, p ∈ (L + 1 + 1 + 1, o3') :: (L + 1 + 1, o2') :: (186, tabObj #[]) :: (D20, lst9 ys2) :: (D30, lst9 ys3) :: (D40, lst9 ys4) :: (own4 ++ (own3 ++ own2)) := by walk_at "my sub"
          have memS : ∀ p ∈ (D40, lst9 ys4) :: own4, p ∈ (L + 1 + 1 + 1, o3') :: (L + 1 + 1, o2') :: (186, tabObj #[]) :: (D20, lst9 ys2) :: (D30, lst9 ys3) :: (D40, lst9 ys4) :: (own4 ++ (own3 ++ own2)) := by walk_at "my sub"
          have smA := law_bound SA hn0 hn bA (by decide)
          have smB := law_bound SB hn0 hn bB (by decide)
          clear d3x F45 N45 k44 O44
          (try clear F44); (try clear N44)
          clear off40 offF offC off30 offB off20 offA ne3A ne3B ne3S aS aB pA
          k_steps
          refine Stop9.mk ?_
          rename Fr _ _ _ _ => F47
          rename News _ _ _ _ => N47
          refine' tell_int (t_lawsum _ n MA (.ref D20) SA (fun r hr a ha => Nat.lt_of_le_of_lt (bA r hr a ha) (by decide)) hn) ?k1 ?k2 ?k3 ?k4 ?k5 ?kK ?kd ?ku ?kP ?_
          case kP => exact gA.at fun p hp => (N47 p (memA p hp)).1
          (case k1 => first | k_asm | ktn_no "tell: the frames below")
          (case k2 => first | k_asm | ktn_no "tell: the frame")
          (case k3 => first | k_asm | ktn_no "tell: the written part")
          (case k4 => first | k_asm | ktn_no "tell: the ledger")
          (case k5 => first | k_asm | ktn_no "tell: the top's facts")
          (case kK => first | exact rfl | assumption | ktn_no "tell: the caller is no def")
          (case kd => first | ktr_room | ktn_no "tell: the frames' room")
          (case ku => first | ktr_units | ktn_no "tell: the C units")
          intro tw h48 tk48 k48 F48 N48
          (try clear F46); (try clear N46); (try clear F47); (try clear N47)
          (try dsimp only at k48 ⊢)
          k_steps
          have fitA : ZFit MA := fun r hr a ha => Nat.lt_of_le_of_lt (bA r hr a ha) (by decide)
          have fitB : ZFit MB := fun r hr a ha => Nat.lt_of_le_of_lt (bB r hr a ha) (by decide)
          refine Stop9.mk ?_
          rename Fr _ _ _ _ => F50
          rename News _ _ _ _ => N50
          (try dsimp only at F50 N50 ⊢)
          refine' tell_int (t_told _ (.ref D20) MA n (lawSum n MA) SA hn0 hn fitA (fun t T => told_law SA hn0 hn T) (by omega)) ?k1 ?k2 ?k3 ?k4 ?k5 ?kK ?kd ?ku ?kP ?_
          case kP => exact gA.at fun p hp => (N50 p (memA p hp)).1
          (case k1 => first | k_asm | ktn_no "tell: the frames below")
          (case k2 => first | k_asm | ktn_no "tell: the frame")
          (case k3 => first | k_asm | ktn_no "tell: the written part")
          (case k4 => first | k_asm | ktn_no "tell: the ledger")
          (case k5 => first | k_asm | ktn_no "tell: the top's facts")
          (case kK => first | exact rfl | assumption | ktn_no "tell: the caller is no def")
          (case kd => first | ktr_room | ktn_no "tell: the frames' room")
          (case ku => first | ktr_units | ktn_no "tell: the C units")
          intro t51 h51 tk51 k51 F51 N51
          (try clear F48); (try clear N48); (try clear F50); (try clear N50)
          (try dsimp only at k51 ⊢)
          k_steps
          all_goals (try (first | contradiction | (exfalso; omega)))
          refine Stop9.mk ?_
          rename Fr _ _ _ _ => F52
          rename News _ _ _ _ => N52
          (try dsimp only at F52 N52 ⊢)
          refine' tell_use (t_turned _ (.ref D20) MA n SA hn0 hn) ?k1 ?k2 ?k3 ?k4 ?k5 ?kK ?kd ?ku ?kP ?_
          case kP => exact gA.at fun p hp => (N52 p (memA p hp)).1
          (case k1 => first | k_asm | ktn_no "tell: the frames below")
          (case k2 => first | k_asm | ktn_no "tell: the frame")
          (case k3 => first | k_asm | ktn_no "tell: the written part")
          (case k4 => first | k_asm | ktn_no "tell: the ledger")
          (case k5 => first | k_asm | ktn_no "tell: the top's facts")
          (case kK => first | exact rfl | assumption | ktn_no "tell: the caller is no def")
          (case kd => first | ktr_room | ktn_no "tell: the frames' room")
          (case ku => first | ktr_units | ktn_no "tell: the C units")
          rintro r53 own53 h53 tk53 g53 k53 O53 F53 N53
          have g53' := g53.at fun p hp => (N53 p (List.mem_append_left _ hp)).1
          replace N53 : News g L h53 ((L + 1 + 1 + 1, o3') :: (L + 1 + 1, o2') :: (186, tabObj #[]) :: (D20, lst9 ys2) :: (D30, lst9 ys3) :: (D40, lst9 ys4) :: (own4 ++ (own3 ++ own2))) := fun p hp => N53 p (List.mem_append_right _ hp)
          (try clear F51); (try clear N51); (try clear F52); (try clear N52)
          (try dsimp only at k53 O53 ⊢)
          obtain ⟨ST, eT⟩ := law_turn SA hn0 hn
          k_steps
          refine Stop9.mk ?_
          rename Fr _ _ _ _ => F54
          rename News _ _ _ _ => N54
          (try dsimp only at F54 N54 ⊢)
          refine' tell_int (t_told _ r53 (turnZ MA n) n (lawSum n MA) ST hn0 hn (fun r hr a ha => Nat.lt_of_le_of_lt (turn_bound bA r hr a ha) (by decide)) (fun t T => by rw [told_law ST hn0 hn T, eT]) (by omega)) ?k1 ?k2 ?k3 ?k4 ?k5 ?kK ?kd ?ku ?kP ?_
          case kP => exact g53'
          (case k1 => first | k_asm | ktn_no "tell: the frames below")
          (case k2 => first | k_asm | ktn_no "tell: the frame")
          (case k3 => first | k_asm | ktn_no "tell: the written part")
          (case k4 => first | k_asm | ktn_no "tell: the ledger")
          (case k5 => first | k_asm | ktn_no "tell: the top's facts")
          (case kK => first | exact rfl | assumption | ktn_no "tell: the caller is no def")
          (case kd => first | ktr_room | ktn_no "tell: the frames' room")
          (case ku => first | ktr_units | ktn_no "tell: the C units")
          intro t55 h55 tk55 k55 F55 N55
          (try clear F53); (try clear N53); (try clear F54); (try clear N54)
          (try dsimp only at k55 ⊢)
          k_steps
          all_goals (try (first | contradiction | (exfalso; omega)))
          have n3T : L + 1 + 1 + 1 ≠ 186 := Nat.ne_of_gt (Nat.lt_of_lt_of_le l0 (Nat.le_trans (Nat.le_succ _) (Nat.le_trans (Nat.le_succ _) (Nat.le_succ _))))
          have n2T : L + 1 + 1 ≠ 186 := Nat.ne_of_gt (Nat.lt_of_lt_of_le l0 (Nat.le_trans (Nat.le_succ _) (Nat.le_succ _)))
          have nRT : ∀ p ∈ (D20, lst9 ys2) :: (D30, lst9 ys3) :: (D40, lst9 ys4) :: (own4 ++ (own3 ++ own2)), p.1 ≠ 186 := off_cons (off_head neTA) (off_cons (off_head neTB) (off_cons (off_head neTS) (off_app (off_rest neTS) (off_app (off_rest neTB) (off_rest neTA)))))
          refine Stop9.mk ?_
          refine' kla_eval (by exact rfl) ?_
          rename Fr _ _ _ _ => F56
          rename News _ _ _ _ => N56
          (try dsimp only at F56 N56 ⊢)
          refine' kla_nest (P := 186) (ps := #[]) F56 N56 T' codeHd (by exact rfl) (.tail n3T (.tail n2T (.head nRT))) ?tri ?amo ?clo ?_
          case tri => kn_triples
          case amo => kn_among
          case clo => exact rfl
          intro f1 c1 oc1 vs1 q1 ct1 h57 tk57 F57 N57 d57 v57 lt57 cf57
          (try clear F53); (try clear N53); (try clear F55); (try clear N55); (try clear F56); (try clear N56)
          (try dsimp only at N57 ⊢)
          k_steps
          refine Stop9.mk ?_
          refine' kla_eval (by exact rfl) ?_
          (try rename Fr _ _ _ _ => F58)
          (try rename News _ _ _ _ => N58)
          have nc1 : c1 ≠ 186 := Nat.ne_of_gt (lt57 (186, tabObj #[]) (by walk_at "my mem"))
          have nf1 : f1 ≠ 186 := Nat.ne_of_gt (Nat.lt_trans (lt57 (186, tabObj #[]) (by walk_at "my mem")) cf57)
          refine' kla_nest (P := 186) F58 N58 T' codeHd (by exact rfl) (.tail nf1 (.tail nc1 (.tail n3T (.tail n2T (.head nRT))))) ?tri ?amo ?clo ?_
          case tri => kn_triples
          case amo => kn_among
          case clo => exact rfl
          intro f2 c2 oc2 vs2 q2 ct2 h59 tk59 F59 N59 d59 v59 lt59 cf59
          (try dsimp only at N59 ⊢)
          k_steps
          refine Stop9.mk ?_
          (try rename Fr _ _ _ _ => F60)
          (try rename News _ _ _ _ => N60)
          have mf1 := (N60 _ (.tail _ (.tail _ (.head _))))
          have mf2 := (N60 _ (.head _))
          have cr1 := codeRec_news N60 (.tail _ (.tail _ (.tail _ (.head _)))) d57 v57
          have cr2 := codeRec_news N60 (.tail _ (.head _)) d59 v59
          have H1 : ∀ c : Cx, LamAt c f1 1 (fun a b => a + b) (fun _ _ => True) h59 := by
            clear F60 N60
            refine fun c => ⟨⟨_, _, _, _, mf1.1⟩, fun a t b u _ => ?_⟩
            refine' lam_tell (binds := [(Str.ofString "a", .int a t), (Str.ofString "b", .int b u)]) mf1.1 cr1 (by exact rfl) (locs rfl) rfl rfl rfl (by decide) ?_
            intro dp un gd cn cs a' ccd cl outer base g2 L2 L3 h₁' s' tk' hd' hu' hke' B2 F2 X2 N2 T2
            clear X' T' K'
            k_steps
            exact Out.intro [] (by assumption) (by assumption) (fun _ h => nomatch h) ⟨rfl, _, rfl⟩
          have H2 : ∀ c : Cx, LamAt c f2 1 (fun a b => a * b) IntMulOk h59 := by
            clear F60 N60
            refine fun c => ⟨⟨_, _, _, _, mf2.1⟩, fun a t b u hm => ?_⟩
            refine' lam_tell (binds := [(Str.ofString "a", .int a t), (Str.ofString "b", .int b u)]) mf2.1 cr2 (by exact rfl) (locs rfl) rfl rfl rfl (by decide) ?_
            intro dp un gd cn cs a' ccd cl outer base g2 L2 L3 h₁' s' tk' hd' hu' hke' B2 F2 X2 N2 T2
            clear X' T' K'
            k_steps
            exact Out.intro [] (by assumption) (by assumption) (fun _ h => nomatch h) ⟨rfl, _, rfl⟩
          generalize hT : tabObj (_ ++ _) = oT at N60
          obtain ⟨ps2, rfl⟩ : ∃ ps, oT = tabObj ps := ⟨_, hT.symm⟩
          clear hT
          have N61 : News g L h59 ((L + 1 + 1 + 1, o3') :: (L + 1 + 1, o2') :: (186, tabObj ps2) :: (D20, lst9 ys2) :: (D30, lst9 ys3) :: (D40, lst9 ys4) :: (own4 ++ (own3 ++ own2))) := fun p hp => N60 p (.tail _ (.tail _ (.tail _ (.tail _ hp))))
          have memA2 : ∀ p ∈ (D20, lst9 ys2) :: own2, p ∈ (L + 1 + 1 + 1, o3') :: (L + 1 + 1, o2') :: (186, tabObj ps2) :: (D20, lst9 ys2) :: (D30, lst9 ys3) :: (D40, lst9 ys4) :: (own4 ++ (own3 ++ own2)) := by walk_at "my sub"
          have memB2 : ∀ p ∈ (D30, lst9 ys3) :: own3, p ∈ (L + 1 + 1 + 1, o3') :: (L + 1 + 1, o2') :: (186, tabObj ps2) :: (D20, lst9 ys2) :: (D30, lst9 ys3) :: (D40, lst9 ys4) :: (own4 ++ (own3 ++ own2)) := by walk_at "my sub"
          have memS2 : ∀ p ∈ (D40, lst9 ys4) :: own4, p ∈ (L + 1 + 1 + 1, o3') :: (L + 1 + 1, o2') :: (186, tabObj ps2) :: (D20, lst9 ys2) :: (D30, lst9 ys3) :: (D40, lst9 ys4) :: (own4 ++ (own3 ++ own2)) := by walk_at "my sub"
          refine' tell_use (t_product _ f1 f2 h59 (.ref D20) (.ref D30) MA MB n (H1 _) (H2 _) SA SB hn0 hn (fun r hr a ha => Nat.lt_of_le_of_lt (bA r hr a ha) (by decide))) ?k1 ?k2 ?k3 ?k4 ?k5 ?kK ?kd ?ku ?kP ?_
          case kP => exact ⟨HLe.refl _, gA.at fun p hp => (N61 p (memA2 p hp)).1, gB.at fun p hp => (N61 p (memB2 p hp)).1⟩
          (case k1 => first | k_asm | ktn_no "tell: the frames below")
          (case k2 => first | k_asm | ktn_no "tell: the frame")
          (case k3 => first | k_asm | ktn_no "tell: the written part")
          (case k4 => first | k_asm | ktn_no "tell: the ledger")
          (case k5 => first | k_asm | ktn_no "tell: the top's facts")
          (case kK => first | exact rfl | assumption | ktn_no "tell: the caller is no def")
          (case kd => first | ktr_room | ktn_no "tell: the frames' room")
          (case ku => first | ktr_units | ktn_no "tell: the C units")
          rintro r62 own62 h62 tk62 g62 k62 O62 F62 N62
          have g62' := g62.at fun p hp => (N62 p (List.mem_append_left _ hp)).1
          replace N62 : News g L h62 ((L + 1 + 1 + 1, o3') :: (L + 1 + 1, o2') :: (186, tabObj ps2) :: (own62 ++ ((D20, lst9 ys2) :: (D30, lst9 ys3) :: (D40, lst9 ys4) :: (own4 ++ (own3 ++ own2))))) := nsub N62 (by walk_at "my sub")
          obtain ⟨SP, eP⟩ := law_prod SA SB hn0 hn
          have bP := prod_bound hn bA bB
          clear memA memB memS H1 H2 mf1 mf2 cr1 cr2 N61 lt57 cf57 lt59 cf59 d57 v57 d59 v59 nc1 nf1 neTA neTB neTS nRT
          (try clear F57); (try clear N57); (try clear F58); (try clear N58); (try clear F59); (try clear N59); (try clear F60); (try clear N60)
          (try dsimp only at k62 O62 ⊢)
          k_steps
          have bigP := mulBound smA smB
          refine Stop9.mk ?_
          rename Fr _ _ _ _ => F63
          rename News _ _ _ _ => N63
          (try dsimp only at F63 N63 ⊢)
          refine' tell_int (t_told _ r62 (prodZ MA MB n) n (lawSum n MA * lawSum n MB) SP hn0 hn (fun r hr a ha => Nat.lt_of_le_of_lt (bP r hr a ha) (by decide)) (fun t T => by rw [told_law SP hn0 hn T, eP]) (Nat.lt_of_le_of_lt bigP (by decide))) ?k1 ?k2 ?k3 ?k4 ?k5 ?kK ?kd ?ku ?kP ?_
          case kP => exact g62.at (nat9 N63 (by walk_at "my sub"))
          (case k1 => first | k_asm | ktn_no "tell: the frames below")
          (case k2 => first | k_asm | ktn_no "tell: the frame")
          (case k3 => first | k_asm | ktn_no "tell: the written part")
          (case k4 => first | k_asm | ktn_no "tell: the ledger")
          (case k5 => first | k_asm | ktn_no "tell: the top's facts")
          (case kK => first | exact rfl | assumption | ktn_no "tell: the caller is no def")
          (case kd => first | ktr_room | ktn_no "tell: the frames' room")
          (case ku => first | ktr_units | ktn_no "tell: the C units")
          intro t64 h64 tk64 k64 F64 N64
          replace N64 : News g L h64 ((L + 1 + 1 + 1, o3') :: (L + 1 + 1, o2') :: (186, tabObj ps2) :: (D20, lst9 ys2) :: (D30, lst9 ys3) :: (D40, lst9 ys4) :: (own4 ++ (own3 ++ own2))) := nsub N64 (by walk_at "my sub")
          (try clear F62); (try clear N62); (try clear F63); (try clear N63)
          (try dsimp only at k64 ⊢)
          k_steps
          refine Stop9.mk ?_
          rename Fr _ _ _ _ => F65
          rename News _ _ _ _ => N65
          (try dsimp only at F65 N65 ⊢)
          refine' tell_int (t_lawsum _ n MB (.ref D30) SB (fun r hr a ha => Nat.lt_of_le_of_lt (bB r hr a ha) (by decide)) hn) ?k1 ?k2 ?k3 ?k4 ?k5 ?kK ?kd ?ku ?kP ?_
          case kP => exact gB.at fun p hp => (N65 p (memB2 p hp)).1
          (case k1 => first | k_asm | ktn_no "tell: the frames below")
          (case k2 => first | k_asm | ktn_no "tell: the frame")
          (case k3 => first | k_asm | ktn_no "tell: the written part")
          (case k4 => first | k_asm | ktn_no "tell: the ledger")
          (case k5 => first | k_asm | ktn_no "tell: the top's facts")
          (case kK => first | exact rfl | assumption | ktn_no "tell: the caller is no def")
          (case kd => first | ktr_room | ktn_no "tell: the frames' room")
          (case ku => first | ktr_units | ktn_no "tell: the C units")
          intro t66 h66 tk66 k66 F66 N66
          (try clear F64); (try clear N64); (try clear F65); (try clear N65)
          (try dsimp only at k66 ⊢)
          have hmW : IntMulOk (lawSum n MA) (lawSum n MB) := IntMulOk.of_left (bits_of_natAbs_le (b := 750) smA (by decide))
          k_steps
          exact ⟨h66, _, n, tn, tf, tw, fac, MA, MB, sd, o3', o2', ps2, D20, D30, D40, ys2, ys3, ys4, own2, own3, own4, _, rfl, F66, N66, d3', d2', bf, hn0, hn, SA, SB, lenS, bA, bB, pS, aA, gB, gS, by with_unfolding_all rfl, by with_unfolding_all rfl, by with_unfolding_all rfl, by with_unfolding_all rfl⟩)
end

end Mine
theorem PySem.Challenge.cw_pq0170_01_holds : PySem.Challenge.rw_pq0170_01.Holds :=
  Mine.law_holds
