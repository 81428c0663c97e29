import Derived.Test.YtcceojbcegmdnaaMS
/- Plain lemmas: loops, numbers. Conditions: as each lemma states. -/
namespace Go.Ab

section
variable {σ β : Type} {f : σ → Option (σ ⊕ β)}

theorem iterN_more : ∀ (n m : Nat) (s : σ) {b : β}, iterN f n s = some b → iterN f (n + m) s = some b
  | 0, _, s, b, h => by simp [iterN] at h
  | n + 1, m, s, b, h => by
    rw [show n + 1 + m = n + m + 1 from by omega]
    simp only [iterN] at h ⊢
    split at h
    · cases h
    · rename_i s' hs
      exact iterN_more n m s' h
    · exact h

theorem iterN_det {n m : Nat} {s : σ} {b b' : β} (h : iterN f n s = some b) (h' : iterN f m s = some b') : b = b' := by
  have h1 := iterN_more n m s h
  have h2 := iterN_more m n s h'
  rw [Nat.add_comm, h1] at h2
  exact Option.some.inj h2

theorem iter_of {n : Nat} {s : σ} {b : β} (h : iterN f n s = some b) : iter f s = some b := by
  unfold iter
  have hx : ∃ n b, iterN f n s = some b := ⟨n, b, h⟩
  rw [dif_pos hx]
  exact congrArg some (iterN_det hx.choose_spec.choose_spec h)

theorem iter_none {s : σ} (h : ∀ n, iterN f n s = none) : iter f s = none := by
  unfold iter
  rw [dif_neg]
  rintro ⟨n, b, hn⟩
  rw [h n] at hn; cases hn

theorem iter_done {s : σ} {b : β} (h : f s = some (.inr b)) : iter f s = some b := iter_of (n := 1) (by simp [iterN, h])

theorem iter_step {s s' : σ} (h : f s = some (.inl s')) : iter f s = iter f s' := by
  by_cases hx : ∃ n b, iterN f n s' = some b
  · obtain ⟨n, b, hb⟩ := hx
    rw [iter_of hb]
    exact iter_of (n := n + 1) (by simp [iterN, h, hb])
  · have h' : ∀ n, iterN f n s' = none := fun n => by
      cases hn : iterN f n s' with
      | none => rfl
      | some b => exact absurd ⟨n, b, hn⟩ hx
    rw [iter_none h']
    refine iter_none fun n => ?_
    cases n with
    | zero => rfl
    | succ n => simp [iterN, h, h' n]

/-- A loop that counts up to n, where it is left. -/
theorem iter_up (S : Nat → σ) (n : Nat) {b : β} (hstep : ∀ i, i < n → f (S i) = some (.inl (S (i + 1)))) (hexit : f (S n) = some (.inr b)) : ∀ (k : Nat), k ≤ n → iter f (S (n - k)) = some b
  | 0, _ => iter_done hexit
  | k + 1, hk => by
    rw [iter_step (hstep (n - (k + 1)) (by omega)), show n - (k + 1) + 1 = n - k from by omega]
    exact iter_up S n hstep hexit k (by omega)

theorem iter_count (S : Nat → σ) (n : Nat) {b : β} (hstep : ∀ i, i < n → f (S i) = some (.inl (S (i + 1)))) (hexit : f (S n) = some (.inr b)) : iter f (S 0) = some b := by
  have := iter_up S n hstep hexit n (Nat.le_refl _)
  rwa [Nat.sub_self] at this
end

theorem wrap64 {n : Int} (h : -9223372036854775808 ≤ n ∧ n ≤ 9223372036854775807) : IntKind.wrap .i64 n = n := by
  simp only [IntKind.wrap, IntKind.bits, IntKind.signed]
  simp
  split <;> omega

theorem wrapu64 {n : Int} (h : 0 ≤ n ∧ n < 18446744073709551616) : IntKind.wrap .u64 n = n := by
  simp only [IntKind.wrap, IntKind.bits, IntKind.signed]
  simp
  omega

theorem wrapu8 (n : Int) : IntKind.wrap .u8 n = n % 256 := by
  simp [IntKind.wrap, IntKind.bits, IntKind.signed]

/-- The k lowest bytes of n, the lowest first. -/
def leB : Nat → Nat → List Int
  | 0, _ => []
  | k + 1, n => ((n % 256 : Nat) : Int) :: leB k (n / 256)

theorem leB_length : ∀ k n, (leB k n).length = k
  | 0, _ => rfl
  | k + 1, n => by simp [leB, leB_length k]

theorem leB_snoc : ∀ (k n : Nat), leB (k + 1) n = leB k n ++ [((n / 256 ^ k % 256 : Nat) : Int)]
  | 0, n => by simp [leB]
  | k + 1, n => by
    rw [leB, leB_snoc k (n / 256), leB, Nat.div_div_eq_div_mul, Nat.pow_succ, Nat.mul_comm (256 ^ k)]
    rfl

theorem imin_eq (x y : Int) : imin x y = min x y := by
  simp only [imin, cond_eq_ite, decide_eq_true_eq]
  split <;> omega

theorem imax_eq (x y : Int) : imax x y = max x y := by
  simp only [imax, cond_eq_ite, decide_eq_true_eq]
  split <;> omega

theorem lim_of {n : Nat} (h : n < 2147483648) : lim n = true := by simp [lim, h]

end Go.Ab

/- Plain lemmas: numbers as bytes. Conditions: as each lemma states. -/
namespace Go.Ab

theorem octet_Small {n k : Nat} (hn : n < 18446744073709551616) (hk : k ≤ 8) : F_octet_Small ((n : Int), (k : Int)) = some (leB k n) := by
  have hc : F_octet_clamp (k : Int) = some (k : Int) := by
    simp only [F_octet_clamp, imin_eq, imax_eq]
    congr 1; omega
  simp only [F_octet_Small, hc, Option.bind_some]
  have hloop := iter_count (f := F_octet_Small_l0) (fun i => (((n / 256 ^ i : Nat) : Int), ((k : Int), ((i : Int), (leB i n, ()))))) k (b := (leB k n, ())) (fun i hi => by
      simp only [F_octet_Small_l0]
      have h1 : decide ((i : Int) < (k : Int)) = true := by simp; omega
      have h2 : lim (List.length (leB i n) + 1) = true := lim_of (by rw [leB_length]; omega)
      have h3 : IntKind.wrap .u64 (Int.tdiv ((n / 256 ^ i : Nat) : Int) 256) = ((n / 256 ^ (i + 1) : Nat) : Int) := by
        have e : Int.tdiv ((n / 256 ^ i : Nat) : Int) 256 = ((n / 256 ^ i / 256 : Nat) : Int) := rfl
        rw [e, Nat.div_div_eq_div_mul, ← Nat.pow_succ]
        have := Nat.div_le_self n (256 ^ (i + 1))
        revert this
        generalize n / 256 ^ (i + 1) = m
        intro this
        exact wrapu64 (by omega)
      have h4 : IntKind.wrap .i64 ((i : Int) + 1) = ((i + 1 : Nat) : Int) := wrap64 (by omega)
      have h5 : IntKind.wrap .u8 (Int.tmod ((n / 256 ^ i : Nat) : Int) 256) = ((n / 256 ^ i % 256 : Nat) : Int) := by
        have e : Int.tmod ((n / 256 ^ i : Nat) : Int) 256 = ((n / 256 ^ i % 256 : Nat) : Int) := rfl
        rw [e, wrapu8]; omega
      rw [h1, h2, h3, h4, h5, leB_snoc]
      rfl) (by
      simp only [F_octet_Small_l0]
      have h1 : decide ((k : Int) < (k : Int)) = false := by simp
      rw [h1]; rfl)
  simp only [Nat.pow_zero, Nat.div_one, leB] at hloop
  rw [show ((0 : Nat) : Int) = 0 from rfl] at hloop
  rw [hloop]; rfl

theorem ref2_Small {n k : Nat} (hk : k ≤ 8) : F_kinoraref2_Small ((n : Int), (k : Int)) = some (leB k n) := by
  simp only [F_kinoraref2_Small]
  have hloop := iter_count (f := F_kinoraref2_Small_l0) (fun i => ((n : Int), ((k : Int), ((i : Int), (leB i n, ()))))) k (b := (leB k n, ())) (fun i hi => by
      simp only [F_kinoraref2_Small_l0]
      have h1 : decide ((i : Int) < (k : Int)) = true := by simp; omega
      have h1' : decide ((i : Int) < (8 : Int)) = true := by simp; omega
      have h2 : lim (List.length (leB i n) + 1) = true := lim_of (by rw [leB_length]; omega)
      have h3 : IntKind.wrap .u64 (IntKind.wrap .i64 ((8 : Int) * (i : Int))) = ((8 * i : Nat) : Int) := by
        rw [wrap64 (by omega), wrapu64 (by omega)]; omega
      have h3' : decide (((8 * i : Nat) : Int) < 0) = false := by simp; omega
      have h4 : IntKind.wrap .i64 ((i : Int) + 1) = ((i + 1 : Nat) : Int) := wrap64 (by omega)
      have h5 : IntKind.wrap .u8 (gshr .u64 (n : Int) ((8 * i : Nat) : Int)) = ((n / 256 ^ i % 256 : Nat) : Int) := by
        have e : gshr .u64 (n : Int) ((8 * i : Nat) : Int) = ((n / 256 ^ i : Nat) : Int) := by
          have hm : min (Int.toNat ((8 * i : Nat) : Int)) (IntKind.bits .u64) = 8 * i := by
            simp only [Int.toNat_natCast, IntKind.bits]; omega
          unfold gshr
          rw [hm, show (256 : Nat) = 2 ^ 8 from rfl, ← Nat.pow_mul]
          rw [Int.fdiv_eq_ediv_of_nonneg _ (by exact_mod_cast Nat.zero_le _)]
          norm_cast
        rw [e, wrapu8]; omega
      rw [h1, h1', h2, h3, h3', h4, h5, leB_snoc]
      rfl) (by
      simp only [F_kinoraref2_Small_l0]
      have h1 : decide ((k : Int) < (k : Int)) = false := by simp
      rw [h1]; rfl)
  simp only [leB] at hloop
  rw [show ((0 : Nat) : Int) = 0 from rfl] at hloop
  rw [hloop]; rfl

end Go.Ab

/- Plain lemmas: what fits. Conditions: as each lemma states. -/
namespace Go.Ab

/-- x fits into b bits with a sign. -/
def fit (b x : Int) : Bool := decide (1 ≤ b ∧ b ≤ 31) && decide (-(2 ^ (b.toNat - 1) : Int) ≤ x ∧ x < (2 ^ (b.toNat - 1) : Int))

theorem low_all : ∀ b : Fin 32, 1 ≤ b.1 → F_sample_Low (b.1 : Int) = some (-(2 ^ (b.1 - 1) : Int)) ∧ F_sample_High (b.1 : Int) = some (2 ^ (b.1 - 1) - 1 : Int) ∧
    F_kinoraref2_Low (b.1 : Int) = some (-(2 ^ (b.1 - 1) : Int)) ∧ F_kinoraref2_High (b.1 : Int) = some (2 ^ (b.1 - 1) - 1 : Int) := by decide +kernel

theorem low_of {b : Int} (h : 1 ≤ b ∧ b ≤ 31) : F_sample_Low b = some (-(2 ^ (b.toNat - 1) : Int)) ∧ F_sample_High b = some (2 ^ (b.toNat - 1) - 1 : Int) ∧
    F_kinoraref2_Low b = some (-(2 ^ (b.toNat - 1) : Int)) ∧ F_kinoraref2_High b = some (2 ^ (b.toNat - 1) - 1 : Int) := by
  obtain ⟨n, rfl⟩ : ∃ n : Nat, b = n := ⟨b.toNat, by omega⟩
  have := low_all ⟨n, by omega⟩ (by show 1 ≤ n; omega)
  simpa using this

theorem sample_Fits (x b : Int) : F_sample_Fits (x, b) = some (fit b x) := by
  simp only [F_sample_Fits, fit]
  by_cases h : 1 ≤ b ∧ b ≤ 31
  · obtain ⟨h1, h2, -, -⟩ := low_of h
    have e1 : decide (b ≥ 1) = true := by simpa using h.1
    have e2 : decide (b ≤ 31) = true := by simpa using h.2
    rw [e1, e2]
    simp only [cond_true, h1, h2, Option.bind_some, h, and_self, decide_true, Bool.true_and]
    generalize (2 : Int) ^ (b.toNat - 1) = p
    by_cases hx : -p ≤ x
    · simp only [hx, decide_true, cond_true, true_and]
      congr 2
      exact propext ⟨fun _ => by omega, fun _ => by omega⟩
    · simp [hx]
  · rw [decide_eq_false h, Bool.false_and]
    by_cases e1 : 1 ≤ b
    · have e2 : decide (b ≤ 31) = false := by simp; omega
      simp [e1, e2]
    · have e2 : decide (b ≥ 1) = false := by simp; omega
      simp [e2]

theorem ref2_Fits (x b : Int) : F_kinoraref2_Fits (x, b) = some (fit b x) := by
  simp only [F_kinoraref2_Fits, fit]
  by_cases h : 1 ≤ b ∧ b ≤ 31
  · obtain ⟨-, -, h1, h2⟩ := low_of h
    have e1 : decide (b ≥ 1) = true := by simpa using h.1
    have e2 : decide (b ≤ 31) = true := by simpa using h.2
    rw [e1, e2]
    simp only [cond_true, h1, h2, Option.bind_some, h, and_self, decide_true, Bool.true_and]
    generalize (2 : Int) ^ (b.toNat - 1) = p
    by_cases hx : -p ≤ x
    · simp only [hx, decide_true, cond_true, true_and]
      congr 2
      exact propext ⟨fun _ => by omega, fun _ => by omega⟩
    · simp [hx]
  · rw [decide_eq_false h, Bool.false_and]
    by_cases e1 : 1 ≤ b
    · have e2 : decide (b ≤ 31) = false := by simp; omega
      simp [e1, e2]
    · have e2 : decide (b ≥ 1) = false := by simp; omega
      simp [e2]

theorem gidx_of {α : Type} (l : List α) {i : Nat} (h : i < l.length) : gidx l (i : Int) = some l[i] := by
  unfold gidx
  rw [if_pos (by omega)]
  simp [h]

/-- The low k bytes of a number with a sign. -/
def sB (k : Nat) (x : Int) : List Int := leB k (x % 18446744073709551616).toNat

theorem wrapU (x : Int) : IntKind.wrap .u64 x = ((x % 18446744073709551616).toNat : Int) := by
  simp only [IntKind.wrap, IntKind.bits, IntKind.signed]
  simp
  omega

theorem ref2_SmallS (x : Int) {k : Nat} (hk : k ≤ 8) : F_kinoraref2_Small (IntKind.wrap .u64 x, (k : Int)) = some (sB k x) := by
  rw [wrapU]
  exact ref2_Small hk

theorem octet_SmallS (x : Int) {k : Nat} (hk : k ≤ 8) : F_octet_Small (IntKind.wrap .u64 x, (k : Int)) = some (sB k x) := by
  rw [wrapU]
  exact octet_Small (by omega) hk

/-- Byte j of a number with a sign. -/
theorem byte_of (x : Int) (j : Nat) (hj : j < 8) : ((((x % 18446744073709551616).toNat) / 256 ^ j % 256 : Nat) : Int) = x.fdiv (256 ^ j) % 256 := by
  have h : j = 0 ∨ j = 1 ∨ j = 2 ∨ j = 3 ∨ j = 4 ∨ j = 5 ∨ j = 6 ∨ j = 7 := by omega
  rcases h with rfl | rfl | rfl | rfl | rfl | rfl | rfl | rfl <;> rw [Int.fdiv_eq_ediv_of_nonneg _ (by decide)] <;> simp only [Nat.reducePow, Int.reducePow] <;> omega

end Go.Ab

/- Plain lemmas: samples as bytes. Conditions: as each lemma states. -/
namespace Go.Ab

theorem and255 (y : Int) : bits .i64 .and y 255 = y % 256 := by
  have h : ((BitVec.ofInt 64 y) &&& (BitVec.ofInt 64 255)).toNat = (y % 18446744073709551616).toNat % 256 := by
    rw [BitVec.toNat_and, BitVec.toNat_ofInt]
    have e : (BitVec.ofInt 64 255).toNat = 2 ^ 8 - 1 := by decide
    rw [e, Nat.and_two_pow_sub_one_eq_mod]
    rfl
  show IntKind.wrap .i64 ((((BitVec.ofInt 64 y) &&& (BitVec.ofInt 64 255)).toNat : Nat) : Int) = _
  rw [h, wrap64 (by omega)]
  omega

theorem shr8 (x : Int) {j : Nat} (hj : j < 8) : gshr .i64 x ((8 * j : Nat) : Int) = x.fdiv (256 ^ j) := by
  have hm : min (Int.toNat ((8 * j : Nat) : Int)) (IntKind.bits .i64) = 8 * j := by
    simp only [Int.toNat_natCast, IntKind.bits]; omega
  unfold gshr
  rw [hm, show (256 : Int) = 2 ^ 8 from rfl, ← Int.pow_mul]

theorem sB_length (k : Nat) (x : Int) : (sB k x).length = k := leB_length _ _

theorem sB_snoc (k : Nat) (hk : k < 8) (x : Int) : sB (k + 1) x = sB k x ++ [x.fdiv (256 ^ k) % 256] := by
  unfold sB
  rw [leB_snoc, byte_of x k hk]

theorem sample_Pack_l0 (b x n : Int) (i : Int) (l : List Int) {k : Nat} (hk : k ≤ 8) (out : List Int) (ho : out.length < 1000000) :
    iter F_sample_Pack_l0 (b, ((k : Int), (x, (l, (n, (i, ((k : Int), ((0 : Int), (out, ()))))))))) = some (b, ((k : Int), (l, (n, (i, (out ++ sB k x, ())))))) := by
  have hloop := iter_count (f := F_sample_Pack_l0) (fun j => (b, ((k : Int), (x, (l, (n, (i, ((k : Int), ((j : Int), (out ++ sB j x, ()))))))))))
    k (b := (b, ((k : Int), (l, (n, (i, (out ++ sB k x, ()))))))) (fun j hj => by
      simp only [F_sample_Pack_l0]
      have h1 : decide ((j : Int) < (k : Int)) = true := by simp; omega
      have h3 : IntKind.wrap .i64 ((8 : Int) * (j : Int)) = ((8 * j : Nat) : Int) := by rw [wrap64 (by omega)]; omega
      have h3' : decide (((8 * j : Nat) : Int) < 0) = false := by simp; omega
      have h2 : lim (List.length (out ++ sB j x) + 1) = true := lim_of (by rw [List.length_append, sB_length]; omega)
      have h4 : IntKind.wrap .i64 ((j : Int) + 1) = ((j + 1 : Nat) : Int) := wrap64 (by omega)
      rw [h1, h2, h3, h3', h4, and255, shr8 x (by omega), wrapu8, Int.emod_emod_of_dvd _ (by decide), sB_snoc j (by omega), ← List.append_assoc]
      rfl) (by
      simp only [F_sample_Pack_l0]
      have h1 : decide ((k : Int) < (k : Int)) = false := by simp
      rw [h1]; rfl)
  have h0 : out ++ sB 0 x = out := by simp [sB, leB]
  simp only [h0] at hloop
  exact hloop

theorem flatMap_take {g : Int → List Int} (l : List Int) {i : Nat} (h : i < l.length) : (l.take (i + 1)).flatMap g = (l.take i).flatMap g ++ g l[i] := by
  rw [List.take_succ_eq_append_getElem h, List.flatMap_append]
  simp

theorem flatMap_len {k : Nat} {g : Int → List Int} (hg : ∀ x, (g x).length = k) : ∀ (l : List Int), (l.flatMap g).length = l.length * k
  | [] => by simp
  | x :: l => by
    rw [List.flatMap_cons, List.length_append, hg, flatMap_len hg l, List.length_cons, Nat.add_mul]; omega

/-- Where a row is first left. -/
theorem first_bad (p : Int → Bool) (l : List Int) : ∃ m, m ≤ l.length ∧ (∀ (i : Nat) (h : i < l.length), i < m → p l[i] = true) ∧ ((l.all p = true ∧ m = l.length) ∨ (l.all p = false ∧ ∃ h : m < l.length, p l[m] = false)) := by
  induction l with
  | nil => exact ⟨0, Nat.le_refl _, fun i h => by simp at h, .inl ⟨rfl, rfl⟩⟩
  | cons x l ih =>
    obtain ⟨m, h1, h2, h3⟩ := ih
    cases hx : p x with
    | false => exact ⟨0, Nat.zero_le _, fun i _ h => by omega, .inr ⟨by simp [hx], by simp, by simpa using hx⟩⟩
    | true =>
      refine ⟨m + 1, by simp; omega, fun i hi him => ?_, ?_⟩
      · cases i with
        | zero => simpa using hx
        | succ i => simpa using h2 i (by simpa using hi) (by omega)
      · rcases h3 with ⟨h3, rfl⟩ | ⟨h3, h4, h5⟩
        · exact .inl ⟨by simp only [List.all_cons, hx, h3]; rfl, by simp⟩
        · exact .inr ⟨by simp only [List.all_cons, hx, h3]; rfl, by simpa using h4, by simpa using h5⟩

/-- Samples of b bits, each as k bytes. -/
def packed (b : Int) (l : List Int) : List Int × Int :=
  if l.all (fit b) = true then (l.flatMap (sB ((b + 7) / 8).toNat), 0) else ([], 6)

theorem sample_Pack {b : Int} (hb : 4 ≤ b ∧ b ≤ 24) {l : List Int} (hl : l.length ≤ 100000) : F_sample_Pack (l, b) = some (packed b l) := by
  obtain ⟨k, hk⟩ : ∃ k : Nat, k = ((b + 7) / 8).toNat := ⟨_, rfl⟩
  have hk3 : k ≤ 3 := by omega
  have e1 : decide (b < (4 : Int)) = false := by simp; omega
  have e2 : decide (b > (24 : Int)) = false := by simp; omega
  have e3 : IntKind.wrap .i64 (Int.tdiv (IntKind.wrap .i64 (b + (7 : Int))) (8 : Int)) = (k : Int) := by
    rw [wrap64 (n := b + 7) (by omega), Int.tdiv_eq_ediv_of_nonneg (by omega), wrap64 (by omega)]; omega
  obtain ⟨m, hm, hfit, hend⟩ := first_bad (fit b) l
  let S : Nat → (Int × (Int × ((List Int) × (Int × (Int × ((List Int) × Unit)))))) := fun i => (b, ((k : Int), (l, (((List.length l : Nat) : Int), ((i : Int), ((l.take i).flatMap (sB k), ()))))))
  have hlen : ∀ i, ((l.take i).flatMap (sB k)).length < 1000000 := fun i => by
    rw [flatMap_len (sB_length k)]
    have : (l.take i).length ≤ 100000 := by rw [List.length_take]; omega
    calc (l.take i).length * k ≤ 100000 * 3 := Nat.mul_le_mul this hk3
      _ < 1000000 := by decide
  have hstep : ∀ i, i < m → F_sample_Pack_l1 (S i) = some (.inl (S (i + 1))) := fun i hi => by
    have hil : i < l.length := by omega
    simp only [S, F_sample_Pack_l1]
    have h1 : decide ((i : Int) < ((List.length l : Nat) : Int)) = true := by simp; omega
    have h4 : IntKind.wrap .i64 ((i : Int) + 1) = ((i + 1 : Nat) : Int) := wrap64 (by omega)
    rw [h1, gidx_of l hil]
    simp only [cond_true, Option.bind_some, sample_Fits, hfit i hil hi, Bool.not_true, cond_false, sample_Pack_l0 b l[i] _ _ l (show k ≤ 8 by omega) _ (hlen i), h4, flatMap_take l hil]
  have hS0 : S 0 = (b, ((k : Int), (l, (((List.length l : Nat) : Int), ((0 : Int), (([] : List Int), ())))))) := rfl
  simp only [F_sample_Pack, e1, cond_false, Option.bind_some, e2, e3, packed]
  rcases hend with ⟨hall, rfl⟩ | ⟨hall, hlt, hbad⟩
  · rw [if_pos hall, ← hS0, iter_count (f := F_sample_Pack_l1) S l.length (b := .inl (l.flatMap (sB k), ())) hstep (by
      simp only [S, F_sample_Pack_l1]
      have h1 : decide ((l.length : Int) < ((List.length l : Nat) : Int)) = false := by simp
      rw [h1, List.take_length]; rfl)]
    rw [← hk]; rfl
  · rw [hall, if_neg (by simp), ← hS0, iter_count (f := F_sample_Pack_l1) S m (b := .inr (6, ([], ()))) hstep (by
      simp only [S, F_sample_Pack_l1]
      have h1 : decide ((m : Int) < ((List.length l : Nat) : Int)) = true := by simp; omega
      rw [h1, gidx_of l hlt]
      simp only [cond_true, Option.bind_some, sample_Fits, hbad, Bool.not_false])]
    rfl

end Go.Ab

/- Plain lemmas: samples as bytes, the wave's way. Conditions: as each lemma states. -/
namespace Go.Ab

theorem ref2_Pack {b : Int} (hb : 4 ≤ b ∧ b ≤ 24) {l : List Int} (hl : l.length ≤ 100000) : F_kinoraref2_Pack (l, b) = some (packed b l) := by
  obtain ⟨k, hk⟩ : ∃ k : Nat, k = ((b + 7) / 8).toNat := ⟨_, rfl⟩
  have hk3 : k ≤ 3 := by omega
  have e1 : F_kinoraref2_depth b = some true := by
    simp only [F_kinoraref2_depth]
    have h1 : decide (b ≥ 4) = true := by simp; omega
    have h2 : decide (b ≤ 24) = true := by simp; omega
    rw [h1, h2]; rfl
  have e3 : IntKind.wrap .i64 (Int.tdiv (IntKind.wrap .i64 (b + (7 : Int))) (8 : Int)) = (k : Int) := by
    rw [wrap64 (n := b + 7) (by omega), Int.tdiv_eq_ediv_of_nonneg (by omega), wrap64 (by omega)]; omega
  obtain ⟨m, hm, hfit, hend⟩ := first_bad (fit b) l
  let S : Nat → ((List Int) × (Int × (Int × ((List Int) × Unit)))) := fun i => (l, (b, ((i : Int), ((l.take i).flatMap (sB k), ()))))
  have hlen : ∀ i, ((l.take i).flatMap (sB k)).length < 1000000 := fun i => by
    rw [flatMap_len (sB_length k)]
    have : (l.take i).length ≤ 100000 := by rw [List.length_take]; omega
    calc (l.take i).length * k ≤ 100000 * 3 := Nat.mul_le_mul this hk3
      _ < 1000000 := by decide
  have hstep : ∀ i, i < m → F_kinoraref2_Pack_l0 (S i) = some (.inl (S (i + 1))) := fun i hi => by
    have hil : i < l.length := by omega
    simp only [S, F_kinoraref2_Pack_l0]
    have h1 : decide ((i : Int) < ((List.length l : Nat) : Int)) = true := by simp; omega
    have h4 : IntKind.wrap .i64 ((i : Int) + 1) = ((i + 1 : Nat) : Int) := wrap64 (by omega)
    have h5 : lim (((l.take i).flatMap (sB k)).length + (sB k l[i]).length) = true := lim_of (by rw [sB_length]; have := hlen i; omega)
    rw [h1, gidx_of l hil]
    simp only [cond_true, Option.bind_some, ref2_Fits, hfit i hil hi, Bool.not_true, cond_false, e3, ref2_SmallS l[i] (show k ≤ 8 by omega), h4, h5, flatMap_take l hil]
    rfl
  have hS0 : S 0 = (l, (b, ((0 : Int), (([] : List Int), ())))) := rfl
  simp only [F_kinoraref2_Pack, e1, Option.bind_some, Bool.not_true, cond_false, packed]
  rcases hend with ⟨hall, rfl⟩ | ⟨hall, hlt, hbad⟩
  · rw [if_pos hall, ← hS0, iter_count (f := F_kinoraref2_Pack_l0) S l.length (b := .inl (l.flatMap (sB k), ())) hstep (by
      simp only [S, F_kinoraref2_Pack_l0]
      have h1 : decide ((l.length : Int) < ((List.length l : Nat) : Int)) = false := by simp
      rw [h1, List.take_length]; rfl)]
    rw [← hk]; rfl
  · rw [hall, if_neg (by simp), ← hS0, iter_count (f := F_kinoraref2_Pack_l0) S m (b := .inr (6, ([], ()))) hstep (by
      simp only [S, F_kinoraref2_Pack_l0]
      have h1 : decide ((m : Int) < ((List.length l : Nat) : Int)) = true := by simp; omega
      rw [h1, gidx_of l hlt]
      simp only [cond_true, Option.bind_some, ref2_Fits, hbad, Bool.not_false])]
    rfl

/-- What a wave's data hold. -/
def dataB (b : Int) (l : List Int) : List Int := if b = 8 then l.map (fun x => (x + 128) % 256) else l.flatMap (sB ((b + 7) / 8).toNat)

theorem map_take {g : Int → Int} (l : List Int) {i : Nat} (h : i < l.length) : (l.take (i + 1)).map g = (l.take i).map g ++ [g l[i]] := by
  rw [List.take_succ_eq_append_getElem h, List.map_append]
  rfl

theorem wave_printData {b : Int} (hb : b = 8 ∨ b = 16 ∨ b = 24) {l : List Int} (hl : l.length ≤ 100000) (hfit : l.all (fit b) = true) : F_wave_printData (l, b) = some (dataB b l, 0) := by
  simp only [F_wave_printData]
  by_cases h8 : b = 8
  · subst h8
    have e1 : ((8 : Int) != 8) = false := rfl
    have e2 : (decide ((0 : Int) ≤ ((List.length l : Nat) : Int)) && lim (Int.toNat ((List.length l : Nat) : Int))) = true := by
      rw [Int.toNat_natCast, lim_of (by omega)]; simp
    rw [e1, e2]
    simp only [cond_false, cond_true]
    have hL : iter F_wave_printData_l0 (l, (((List.length l : Nat) : Int), ((0 : Int), (([] : List Int), ())))) = some (l.map (fun x => (x + 128) % 256), ()) := iter_count (f := F_wave_printData_l0) (fun i => (l, (((List.length l : Nat) : Int), ((i : Int), ((l.take i).map (fun x => (x + 128) % 256), ()))))) l.length (b := (l.map (fun x => (x + 128) % 256), ())) (fun i hi => by
      simp only [F_wave_printData_l0]
      have h1 : decide ((i : Int) < ((List.length l : Nat) : Int)) = true := by simp; omega
      have h4 : IntKind.wrap .i64 ((i : Int) + 1) = ((i + 1 : Nat) : Int) := wrap64 (by omega)
      have hx : fit 8 l[i] = true := List.all_eq_true.1 hfit _ (List.getElem_mem hi)
      have hx' : -128 ≤ l[i] ∧ l[i] < 128 := by
        simp only [fit, Bool.and_eq_true, decide_eq_true_eq] at hx
        simpa using hx.2
      have h5 : lim (List.length ((l.take i).map (fun x => (x + 128) % 256)) + 1) = true := lim_of (by rw [List.length_map, List.length_take]; omega)
      rw [h1, gidx_of l hi]
      simp only [cond_true, Option.bind_some, h4, h5, map_take l hi, wrap64 (n := l[i] + 128) (by omega), wrapu8]
      rfl) (by
      simp only [F_wave_printData_l0]
      have h1 : decide ((l.length : Int) < ((List.length l : Nat) : Int)) = false := by simp
      rw [h1, List.take_length]; rfl)
    rw [hL]
    rfl
  · have e1 : (b != 8) = true := by simpa using h8
    rw [e1, cond_true, sample_Pack (by omega) hl]
    simp only [packed, hfit, if_true, dataB, if_neg h8, Option.bind_some]

theorem xor128 : ∀ y : Fin 256, bits .u8 .xor (y.1 : Int) 128 = ((y.1 : Int) + 128) % 256 := by decide +kernel

theorem set_map {g : Int → Int} (d : List Int) {i : Nat} (h : i < d.length) : ((d.take i).map g ++ d.drop i).set i (g d[i]) = (d.take (i + 1)).map g ++ d.drop (i + 1) := by
  have h1 : ((d.take i).map g).length = i := by rw [List.length_map, List.length_take]; omega
  rw [map_take d h, List.drop_eq_getElem_cons h, List.set_append, if_neg (by omega), h1, Nat.sub_self, List.set_cons_zero, List.append_assoc]
  rfl

theorem ref19_data {f : Int × (Int × (Int × Unit))} {b : Int} (hf : f.2.2.1 = b) (hb : b = 8 ∨ b = 16 ∨ b = 24) {l : List Int} (hl : l.length ≤ 100000) :
    iter F_kinoraref19_WavePrint_l0 ((0 : Int), (l.flatMap (sB ((b + 7) / 8).toNat), (f, ()))) = some (dataB b l, (f, ())) := by
  by_cases h8 : b = 8
  · subst h8
    have hmap : l.flatMap (sB ((8 + 7) / 8 : Int).toNat) = l.map (fun x => x % 256) := by
      have : ∀ x, sB ((8 + 7) / 8 : Int).toNat x = [x % 256] := fun x => by
        show leB 1 _ = _
        simp only [leB]
        congr 1; omega
      induction l with
      | nil => rfl
      | cons x l ih => rw [List.flatMap_cons, this, ih (by simp at hl; omega)]; rfl
    rw [hmap]
    obtain ⟨d, hd⟩ : ∃ d, d = l.map (fun x => x % 256) := ⟨_, rfl⟩
    have hr : ∀ y ∈ d, 0 ≤ y ∧ y < 256 := fun y hy => by
      rw [hd] at hy
      obtain ⟨x, -, rfl⟩ := List.mem_map.1 hy
      omega
    have hdl : d.length = l.length := by rw [hd, List.length_map]
    rw [← hd]
    have hx : ∀ y ∈ d, bits .u8 .xor y 128 = (y + 128) % 256 := fun y hy => by
      have h := hr y hy
      have := xor128 ⟨y.toNat, by omega⟩
      simpa [Int.toNat_of_nonneg h.1] using this
    have hS : iter F_kinoraref19_WavePrint_l0 ((0 : Int), (d, (f, ()))) = some (d.map (fun y => (y + 128) % 256), (f, ())) :=
      iter_count (f := F_kinoraref19_WavePrint_l0) (fun i => ((i : Int), ((d.take i).map (fun y => (y + 128) % 256) ++ d.drop i, (f, ())))) d.length (b := (d.map (fun y => (y + 128) % 256), (f, ()))) (fun i hi => by
        have hlen : (((d.take i).map (fun y => (y + 128) % 256) ++ d.drop i).length : Int) = (d.length : Int) := by
          rw [List.length_append, List.length_map, List.length_take, List.length_drop]; omega
        have hget : ((d.take i).map (fun y => (y + 128) % 256) ++ d.drop i).getD (Int.toNat (i : Int)) (0 : Int) = d[i] := by
          have h1 : ((d.take i).map (fun y => (y + 128) % 256)).length = i := by rw [List.length_map, List.length_take]; omega
          rw [Int.toNat_natCast, List.getD_eq_getElem?_getD, List.getElem?_append_right (by omega), h1, Nat.sub_self, List.getElem?_drop]
          simp [hi]
        simp only [F_kinoraref19_WavePrint_l0, hlen, hf, hget]
        have h1 : decide ((i : Int) < (d.length : Int)) = true := by simp; omega
        have h2 : decide ((0 : Int) ≤ (i : Int)) = true := by simp
        have h4 : IntKind.wrap .i64 ((i : Int) + 1) = ((i + 1 : Nat) : Int) := wrap64 (by omega)
        rw [h1, h2, h4, hx _ (List.getElem_mem hi), Int.toNat_natCast, set_map (g := fun y => (y + 128) % 256) d hi]
        rfl) (by
        simp only [F_kinoraref19_WavePrint_l0, List.take_length, List.drop_length, List.append_nil, List.length_map]
        have h1 : decide ((d.length : Int) < (d.length : Int)) = false := by simp
        rw [h1]; rfl)
    rw [hS, hd, List.map_map]
    simp only [dataB, if_true, Option.some.injEq, Prod.mk.injEq, and_true]
    refine List.map_congr_left fun x _ => ?_
    show (x % 256 + 128) % 256 = _
    omega
  · have h : ∀ d : List Int, iter F_kinoraref19_WavePrint_l0 ((0 : Int), (d, (f, ()))) = some (d, (f, ())) := fun d => iter_done (by
      simp only [F_kinoraref19_WavePrint_l0, hf]
      have e1 : (b == (8 : Int)) = false := by simpa using h8
      rw [e1]
      cases decide ((0 : Int) < ((List.length d : Nat) : Int)) <;> rfl)
    rw [h]
    simp only [dataB, if_neg h8]

end Go.Ab

/- Plain lemmas: what is printed as a wave. Conditions: as each lemma states. -/
namespace Go.Ab

@[reducible] def Fmt := Int × (Int × (Int × Unit))

def chunkB (name d : List Int) : List Int := name ++ sB 4 (d.length : Int) ++ d ++ (if d.length % 2 = 1 then [0] else [])

theorem chunkB_length (name d : List Int) : (chunkB name d).length = name.length + 4 + d.length + d.length % 2 := by
  unfold chunkB
  simp only [List.length_append, sB_length]
  split <;> simp <;> omega

theorem wave_chunk {name d : List Int} (h : name.length + d.length < 1000000000) : F_wave_chunk (name, d) = some (chunkB name d) := by
  simp only [F_wave_chunk, List.append_eq]
  have e0 : F_octet_Small (IntKind.wrap .u64 ((List.length d : Nat) : Int), (4 : Int)) = some (sB 4 (d.length : Int)) := octet_SmallS _ (by decide)
  rw [e0, lim_of (by omega)]
  simp only [cond_true, Option.bind_some, sB_length, List.length_append]
  rw [lim_of (by omega), lim_of (by omega), lim_of (by omega)]
  simp only [cond_true]
  have e1 : Int.tmod ((List.length d : Nat) : Int) 2 = ((d.length % 2 : Nat) : Int) := rfl
  rw [e1]
  unfold chunkB
  by_cases hp : d.length % 2 = 1
  · rw [hp, if_pos rfl]; rfl
  · have : d.length % 2 = 0 := by omega
    rw [this, if_neg (by decide), List.append_nil]; rfl

theorem ref19_small (x : Int) {k : Nat} (hk : k ≤ 8) : F_kinoraref19_small (x, (k : Int)) = some (sB k x) := by
  simp only [F_kinoraref19_small, ref2_SmallS x hk, Option.bind_some]

theorem law18_small (x : Int) : F_kinoralaw18_small x = some (sB 4 x) := by
  have := ref2_SmallS x (k := 4) (by decide)
  simp only [F_kinoralaw18_small]
  rw [show (4 : Int) = ((4 : Nat) : Int) from rfl, this]; rfl

theorem ref19_chunk {name d : List Int} (h : name.length + d.length < 1000000000) : F_kinoraref19_chunk (name, d) = some (chunkB name d) := by
  simp only [F_kinoraref19_chunk, List.append_eq]
  have e0 : F_kinoraref19_small (((List.length d : Nat) : Int), (4 : Int)) = some (sB 4 (d.length : Int)) := ref19_small _ (by decide)
  rw [e0, lim_of (by omega)]
  simp only [cond_true, Option.bind_some, sB_length, List.length_append]
  rw [lim_of (by omega), lim_of (by omega), lim_of (by omega)]
  simp only [cond_true]
  have e1 : Int.tmod ((List.length d : Nat) : Int) 2 = ((d.length % 2 : Nat) : Int) := rfl
  rw [e1]
  unfold chunkB
  by_cases hp : d.length % 2 = 1
  · rw [hp, if_pos rfl]; rfl
  · have : d.length % 2 = 0 := by omega
    rw [this, if_neg (by decide), List.append_nil]; rfl

def right (f : Fmt) : Bool := decide (1 ≤ f.1 ∧ f.1 ≤ 1048576 ∧ 1 ≤ f.2.1 ∧ f.2.1 ≤ 8 ∧ 4 ≤ f.2.2.1 ∧ f.2.2.1 ≤ 24)
def waveOk (f : Fmt) : Bool := right f && decide (f.2.2.1 = 8 ∨ f.2.2.1 = 16 ∨ f.2.2.1 = 24)

theorem block_Right (f : Fmt) : F_block_Right f = some (right f) := by
  simp only [F_block_Right, F_block_depth, right]
  by_cases h1 : 1 ≤ f.1
  · by_cases h2 : f.1 ≤ 1048576
    · by_cases h3 : 1 ≤ f.2.1
      · by_cases h4 : f.2.1 ≤ 8
        · by_cases h5 : 4 ≤ f.2.2.1
          · simp [h1, h2, h3, h4, h5]
          · simp [h1, h2, h3, h4, h5]
        · simp [h1, h2, h3, h4]
      · simp [h1, h2, h3]
    · simp [h1, h2]
  · simp [h1]

theorem ref14_Right (f : Fmt) : F_kinoraref14_Right f = some (right f) := by
  simp only [F_kinoraref14_Right, right]
  by_cases h1 : 1 ≤ f.1
  · by_cases h2 : f.1 ≤ 1048576
    · by_cases h3 : 1 ≤ f.2.1
      · by_cases h4 : f.2.1 ≤ 8
        · by_cases h5 : 4 ≤ f.2.2.1
          · simp [h1, h2, h3, h4, h5]
          · simp [h1, h2, h3, h4, h5]
        · simp [h1, h2, h3, h4]
      · simp [h1, h2, h3]
    · simp [h1, h2]
  · simp [h1]

theorem wave_possible (f : Fmt) : F_wave_possible f = some (waveOk f) := by
  simp only [F_wave_possible, block_Right, Option.bind_some, waveOk]
  cases right f
  · simp
  · by_cases h1 : f.2.2.1 = 8
    · simp [h1]
    · by_cases h2 : f.2.2.1 = 16
      · simp [h2]
      · have e1 : (f.2.2.1 == 8) = false := by simpa using h1
        have e2 : (f.2.2.1 == 16) = false := by simpa using h2
        rw [e1, e2]
        simp only [cond_true, cond_false, h1, h2, false_or, Bool.true_and]
        rfl

theorem ref19_containers (b : Int) : F_kinoraref19_containers b = some (decide (b = 8 ∨ b = 16 ∨ b = 24)) := by
  simp only [F_kinoraref19_containers]
  by_cases h1 : b = 8
  · simp [h1]
  · by_cases h2 : b = 16
    · simp [h2]
    · have e1 : (b == 8) = false := by simpa using h1
      have e2 : (b == 16) = false := by simpa using h2
      rw [e1, e2]
      simp only [cond_false, h1, h2, false_or]
      rfl

/-- Bytes of a sample of each channel. -/
def frameOf (f : Fmt) : Int := f.2.1 * f.2.2.1 / 8

def fmtB (f : Fmt) : List Int := sB 2 1 ++ sB 2 f.2.1 ++ sB 4 f.1 ++ sB 4 (f.1 * frameOf f) ++ sB 2 (frameOf f) ++ sB 2 f.2.2.1

theorem fmtB_length (f : Fmt) : (fmtB f).length = 16 := by
  simp only [fmtB, List.length_append, sB_length]

theorem frame_eq {f : Fmt} (h : right f = true) : IntKind.wrap .i64 (Int.tdiv (IntKind.wrap .i64 (f.2.1 * f.2.2.1)) 8) = frameOf f ∧ 0 ≤ frameOf f ∧ frameOf f ≤ 24 ∧ IntKind.wrap .i64 (f.1 * frameOf f) = f.1 * frameOf f ∧ 0 ≤ f.1 * frameOf f ∧ f.1 * frameOf f ≤ 25165824 := by
  simp only [right, decide_eq_true_eq] at h
  obtain ⟨h1, h2, h3, h4, h5, h6⟩ := h
  have hm : 0 ≤ f.2.1 * f.2.2.1 ∧ f.2.1 * f.2.2.1 ≤ 192 := by
    constructor
    · exact Int.mul_nonneg (by omega) (by omega)
    · exact Int.le_trans (Int.mul_le_mul h4 h6 (by omega) (by omega)) (by decide)
  have hf : 0 ≤ frameOf f ∧ frameOf f ≤ 24 := by unfold frameOf; omega
  have hp : 0 ≤ f.1 * frameOf f ∧ f.1 * frameOf f ≤ 25165824 := by
    constructor
    · exact Int.mul_nonneg (by omega) hf.1
    · exact Int.le_trans (Int.mul_le_mul h2 hf.2 hf.1 (by omega)) (by decide)
  refine ⟨?_, hf.1, hf.2, wrap64 (by omega), hp.1, hp.2⟩
  rw [wrap64 (n := f.2.1 * f.2.2.1) (by omega), Int.tdiv_eq_ediv_of_nonneg hm.1]
  exact wrap64 (by unfold frameOf at hf; omega)

theorem wave_printFormat {f : Fmt} (h : right f = true) : F_wave_printFormat f = some (fmtB f) := by
  obtain ⟨e1, -, -, e2, -, -⟩ := frame_eq h
  simp only [F_wave_printFormat, List.append_eq, e1, e2]
  have s2 : ∀ x : Int, F_octet_Small (IntKind.wrap .u64 x, (2 : Int)) = some (sB 2 x) := fun x => octet_SmallS x (k := 2) (by decide)
  have s4 : ∀ x : Int, F_octet_Small (IntKind.wrap .u64 x, (4 : Int)) = some (sB 4 x) := fun x => octet_SmallS x (k := 4) (by decide)
  have s1 : F_octet_Small ((1 : Int), (2 : Int)) = some (sB 2 1) := octet_SmallS 1 (k := 2) (by decide)
  simp only [s1, s2, s4, Option.bind_some, List.length_append, sB_length]
  rfl

end Go.Ab

/- Plain lemmas: the wave that is printed. Conditions: as each lemma states. -/
namespace Go.Ab

def bodyB (f : Fmt) (l : List Int) : List Int := [87, 65, 86, 69] ++ chunkB [102, 109, 116, 32] (fmtB f) ++ chunkB [100, 97, 116, 97] (dataB f.2.2.1 l)
def riff (d : List Int) : List Int := [82, 73, 70, 70] ++ sB 4 (d.length : Int) ++ d

def printed (f : Fmt) (l : List Int) : List Int × Int :=
  if waveOk f = false then ([], 1)
  else if Int.tmod (l.length : Int) f.2.1 ≠ 0 then ([], 3)
  else if l.all (fit f.2.2.1) = false then ([], 6)
  else (riff (bodyB f l), 0)

theorem dataB_length {b : Int} (hb : b = 8 ∨ b = 16 ∨ b = 24) (l : List Int) : (dataB b l).length = l.length * (b / 8).toNat := by
  unfold dataB
  split
  · rename_i h; subst h; simp
  · rw [flatMap_len (sB_length _)]
    congr 1
    omega

theorem waveOk_right {f : Fmt} (h : waveOk f = true) : right f = true ∧ (f.2.2.1 = 8 ∨ f.2.2.1 = 16 ∨ f.2.2.1 = 24) ∧ 1 ≤ f.2.1 := by
  simp only [waveOk, Bool.and_eq_true, decide_eq_true_eq] at h
  refine ⟨h.1, h.2, ?_⟩
  have := h.1
  simp only [right, decide_eq_true_eq] at this
  exact this.2.2.1

theorem few {n : Nat} {c : Int} (hc : 1 ≤ c) (hn : n ≤ 100000) : decide (IntKind.wrap .i64 (Int.tdiv (n : Int) c) > (4194304 : Int)) = false := by
  rw [Int.tdiv_eq_ediv_of_nonneg (by omega)]
  have h1 : 0 ≤ (n : Int) / c := Int.ediv_nonneg (by omega) (by omega)
  have h2 : (n : Int) / c ≤ n := Int.ediv_le_self _ (by omega)
  rw [wrap64 (by omega)]
  simp; omega

theorem bodyB_length {f : Fmt} (hb : f.2.2.1 = 8 ∨ f.2.2.1 = 16 ∨ f.2.2.1 = 24) {l : List Int} (hl : l.length ≤ 100000) : (bodyB f l).length < 1000000 := by
  unfold bodyB
  simp only [List.length_append, chunkB_length, fmtB_length, dataB_length hb, List.length_cons, List.length_nil]
  have : l.length * (f.2.2.1 / 8).toNat ≤ 100000 * 3 := Nat.mul_le_mul hl (by omega)
  omega

theorem wave_Print (f : Fmt) {l : List Int} (hl : l.length ≤ 100000) : F_wave_Print (f, l) = some (printed f l) := by
  simp only [F_wave_Print, wave_possible, Option.bind_some, printed]
  cases hw : waveOk f with
  | false => simp
  | true =>
    obtain ⟨hr, hb, hc⟩ := waveOk_right hw
    have e1 : (f.2.1 == (0 : Int)) = false := by
      simp only [beq_eq_false_iff_ne, ne_eq]; omega
    simp only [Bool.not_true, cond_false, e1, few hc hl]
    by_cases hm : Int.tmod (l.length : Int) f.2.1 = 0
    · have e2 : (Int.tmod (l.length : Int) f.2.1 != 0) = false := by simpa using hm
      rw [e2, if_neg (by simp), if_neg (by simpa using hm)]
      simp only [cond_false]
      obtain ⟨m, hm', hfit, hend⟩ := first_bad (fit f.2.2.1) l
      have hstep : ∀ i, i < m → F_wave_Print_l0 (l, (l, (((List.length l : Nat) : Int), ((i : Int), (f, ()))))) = some (.inl (l, (l, (((List.length l : Nat) : Int), (((i + 1 : Nat) : Int), (f, ())))))) := fun i hi => by
        have hil : i < l.length := by omega
        simp only [F_wave_Print_l0]
        have h1 : decide ((i : Int) < ((List.length l : Nat) : Int)) = true := by simp; omega
        have h4 : IntKind.wrap .i64 ((i : Int) + 1) = ((i + 1 : Nat) : Int) := wrap64 (by omega)
        rw [h1, gidx_of l hil, h4]
        simp only [cond_true, Option.bind_some, sample_Fits, hfit i hil hi, Bool.not_true, cond_false]
      rcases hend with ⟨hall, rfl⟩ | ⟨hall, hlt, hbad⟩
      · have hL : iter F_wave_Print_l0 (l, (l, (((List.length l : Nat) : Int), ((0 : Int), (f, ()))))) = some (.inl (l, (f, ()))) :=
          iter_count (f := F_wave_Print_l0) (fun i => (l, (l, (((List.length l : Nat) : Int), ((i : Int), (f, ())))))) l.length hstep (by
            simp only [F_wave_Print_l0]
            have h1 : decide ((l.length : Int) < ((List.length l : Nat) : Int)) = false := by simp
            rw [h1]; rfl)
        have hd := dataB_length hb l
        have h3 : l.length * (f.2.2.1 / 8).toNat ≤ 100000 * 3 := Nat.mul_le_mul hl (by omega)
        have hbody := bodyB_length hb hl
        unfold bodyB at hbody
        rw [hL, hall, if_neg (by simp)]
        simp only [Option.bind_some, wave_printData hb hl hall, wave_printFormat hr]
        have c1 : F_wave_chunk (([102, 109, 116, 32] : List Int), fmtB f) = some (chunkB [102, 109, 116, 32] (fmtB f)) := wave_chunk (by rw [fmtB_length]; decide)
        have c2 : F_wave_chunk (([100, 97, 116, 97] : List Int), dataB f.2.2.1 l) = some (chunkB [100, 97, 116, 97] (dataB f.2.2.1 l)) := wave_chunk (by rw [hd]; simp only [List.length_cons, List.length_nil]; omega)
        have s4 : ∀ x : Int, F_octet_Small (IntKind.wrap .u64 x, (4 : Int)) = some (sB 4 x) := fun x => octet_SmallS x (k := 4) (by decide)
        simp only [c1, c2, Option.bind_some, List.append_eq, s4]
        have e3 : ((0 : Int) != 0) = false := rfl
        rw [e3]
        simp only [cond_false]
        simp only [List.length_append, chunkB_length, fmtB_length, List.length_cons, List.length_nil, sB_length] at hbody ⊢
        repeat rw [lim_of (by omega)]
        simp only [cond_true]
        unfold riff bodyB
        simp only [List.length_append, chunkB_length, fmtB_length, List.length_cons, List.length_nil]
      · have hL : iter F_wave_Print_l0 (l, (l, (((List.length l : Nat) : Int), ((0 : Int), (f, ()))))) = some (.inr (6, ([], ()))) :=
          iter_count (f := F_wave_Print_l0) (fun i => (l, (l, (((List.length l : Nat) : Int), ((i : Int), (f, ())))))) m hstep (by
            simp only [F_wave_Print_l0]
            have h1 : decide ((m : Int) < ((List.length l : Nat) : Int)) = true := by simp; omega
            rw [h1, gidx_of l hlt]
            simp only [cond_true, Option.bind_some, sample_Fits, hbad, Bool.not_false])
        rw [hL, hall, if_pos rfl]
        rfl
    · have e2 : (Int.tmod (l.length : Int) f.2.1 != 0) = true := by simpa using hm
      rw [e2, if_neg (by simp), if_pos hm]
      rfl

theorem ref19_WavePrint (f : Fmt) {l : List Int} (hl : l.length ≤ 100000) : F_kinoraref19_WavePrint (f, l) = some (printed f l) := by
  simp only [F_kinoraref19_WavePrint, ref14_Right, ref19_containers, Option.bind_some, printed]
  cases hr : right f with
  | false => simp [waveOk, hr]
  | true =>
    by_cases hb : f.2.2.1 = 8 ∨ f.2.2.1 = 16 ∨ f.2.2.1 = 24
    · have hw : waveOk f = true := by simp only [waveOk, hr, hb, decide_true, Bool.and_self]
      obtain ⟨-, -, hc⟩ := waveOk_right hw
      have e1 : (f.2.1 == (0 : Int)) = false := by
        simp only [beq_eq_false_iff_ne, ne_eq]; omega
      simp only [hw, hb, decide_true, Bool.not_true, cond_false, Option.bind_some, e1, few hc hl]
      by_cases hm : Int.tmod (l.length : Int) f.2.1 = 0
      · have e2 : (Int.tmod (l.length : Int) f.2.1 != 0) = false := by simpa using hm
        rw [e2, if_neg (by simp), if_neg (by simpa using hm), cond_false]
        rw [ref2_Pack (by omega) hl]
        simp only [packed]
        cases hall : l.all (fit f.2.2.1) with
        | false => rfl
        | true =>
          have hd := dataB_length hb l
          have h3 : l.length * (f.2.2.1 / 8).toNat ≤ 100000 * 3 := Nat.mul_le_mul hl (by omega)
          have hbody := bodyB_length hb hl
          unfold bodyB at hbody
          obtain ⟨q1, -, -, q2, -, -⟩ := frame_eq hr
          have e3 : ((0 : Int) != 0) = false := rfl
          simp only [if_true, Option.bind_some, e3, cond_false, ref19_data (f := f) rfl hb hl]
          have s2 : ∀ x : Int, F_kinoraref19_small (x, (2 : Int)) = some (sB 2 x) := fun x => ref19_small x (k := 2) (by decide)
          have s4 : ∀ x : Int, F_kinoraref19_small (x, (4 : Int)) = some (sB 4 x) := fun x => ref19_small x (k := 4) (by decide)
          simp only [s2, s4, q1, q2, Option.bind_some, List.append_eq, List.length_append, sB_length]
          have c1 : F_kinoraref19_chunk (([102, 109, 116, 32] : List Int), sB 2 1 ++ sB 2 f.2.1 ++ sB 4 f.1 ++ sB 4 (f.1 * frameOf f) ++ sB 2 (frameOf f) ++ sB 2 f.2.2.1) = some (chunkB [102, 109, 116, 32] (fmtB f)) := ref19_chunk (by
            show 4 + (fmtB f).length < _
            rw [fmtB_length]; decide)
          have c2 : F_kinoraref19_chunk (([100, 97, 116, 97] : List Int), dataB f.2.2.1 l) = some (chunkB [100, 97, 116, 97] (dataB f.2.2.1 l)) := ref19_chunk (by rw [hd]; simp only [List.length_cons, List.length_nil]; omega)
          simp only [c1, c2, Option.bind_some]
          simp only [List.length_append, chunkB_length, fmtB_length, List.length_cons, List.length_nil] at hbody ⊢
          repeat rw [lim_of (by omega)]
          simp only [cond_true]
          unfold riff bodyB
          simp only [List.length_append, chunkB_length, fmtB_length, List.length_cons, List.length_nil]
          rfl
      · have e2 : (Int.tmod (l.length : Int) f.2.1 != 0) = true := by simpa using hm
        rw [e2, if_neg (by simp), if_pos hm]
        rfl
    · have hw : waveOk f = false := by simp only [waveOk, hb, decide_false, Bool.and_false]
      simp only [hw, if_true, hb, decide_false, Bool.not_true, Bool.not_false, cond_false, Option.bind_some, cond_true]

end Go.Ab

/- Plain lemmas: bytes as numbers. Conditions: as each lemma states. -/
namespace Go.Ab

def Bytes (l : List Int) : Prop := ∀ b ∈ l, 0 ≤ b ∧ b < 256

/-- The number that bytes are, the lowest first. -/
def leN : List Int → Nat
  | [] => 0
  | b :: r => b.toNat + 256 * leN r

theorem leN_append : ∀ (l r : List Int), leN (l ++ r) = leN l + 256 ^ l.length * leN r
  | [], r => by simp [leN]
  | b :: l, r => by
    simp only [List.cons_append, leN, leN_append l r, List.length_cons, Nat.pow_succ]
    rw [Nat.mul_add, Nat.mul_comm (256 ^ l.length) 256, Nat.mul_assoc]; omega

theorem leN_lt : ∀ (l : List Int), Bytes l → leN l < 256 ^ l.length
  | [], _ => by simp [leN]
  | b :: l, h => by
    have h1 := h b (by simp)
    have h2 := leN_lt l fun x hx => h x (by simp [hx])
    simp only [leN, List.length_cons, Nat.pow_succ]
    omega

theorem or_low {a b : Nat} {i : Nat} (ha : a < 2 ^ i) : a ||| (b * 2 ^ i) = a + b * 2 ^ i := by
  have := Nat.two_pow_add_eq_or_of_lt ha b
  rw [Nat.or_comm, Nat.mul_comm b, ← this]; omega

theorem or_u64 {a b : Nat} (ha : a < 18446744073709551616) (hb : b < 18446744073709551616) : bits .u64 .or (a : Int) (b : Int) = ((a ||| b : Nat) : Int) := by
  show IntKind.wrap .u64 (((BitVec.ofInt 64 (a : Int) ||| BitVec.ofInt 64 (b : Int)).toNat : Nat) : Int) = _
  have h1 : (BitVec.ofInt 64 (a : Int)).toNat = a := by rw [BitVec.toNat_ofInt]; omega
  have h2 : (BitVec.ofInt 64 (b : Int)).toNat = b := by rw [BitVec.toNat_ofInt]; omega
  rw [BitVec.toNat_or, h1, h2]
  have h3 : a ||| b < 2 ^ 64 := Nat.or_lt_two_pow ha hb
  exact wrapu64 (by omega)

theorem pow_le8 {i : Nat} (hi : i ≤ 8) : 256 ^ i ≤ 18446744073709551616 := by
  have : 256 ^ i ≤ 256 ^ 8 := Nat.pow_le_pow_right (by decide) hi
  simpa using this

theorem take_leN {l : List Int} {i : Nat} (h : i < l.length) : leN (l.take (i + 1)) = leN (l.take i) + l[i].toNat * 256 ^ i := by
  rw [List.take_succ_eq_append_getElem h, leN_append, List.length_take, Nat.min_eq_left (by omega)]
  simp only [leN, Nat.mul_zero, Nat.add_zero]
  rw [Nat.mul_comm]

/-- The reader's sum of bytes. -/
theorem octet_sum {l : List Int} (hl : l.length ≤ 8) (hb : Bytes l) (r : (List Int) × (Int × (Int × Unit))) :
    iter F_octet_Reader_Small_l0 ((0 : Int), (((List.length l : Nat) : Int), ((0 : Int), (l, (r, ()))))) = some ((leN l : Int), (r, ())) := by
  have := iter_count (f := F_octet_Reader_Small_l0) (fun i => ((leN (l.take i) : Int), (((List.length l : Nat) : Int), ((i : Int), (l, (r, ())))))) l.length (b := ((leN l : Int), (r, ()))) (fun i hi => by
    simp only [F_octet_Reader_Small_l0]
    have h1 : decide ((i : Int) < ((List.length l : Nat) : Int)) = true := by simp; omega
    have h2 : decide ((0 : Int) ≤ (i : Int)) = true := by simp
    have h3 : IntKind.wrap .i64 ((8 : Int) * (i : Int)) = ((8 * i : Nat) : Int) := by rw [wrap64 (by omega)]; omega
    have h3' : decide (((8 * i : Nat) : Int) < 0) = false := by simp; omega
    have h4 : IntKind.wrap .i64 ((i : Int) + 1) = ((i + 1 : Nat) : Int) := wrap64 (by omega)
    have h5 : List.getD l (Int.toNat (i : Int)) (0 : Int) = l[i] := by
      rw [Int.toNat_natCast, List.getD_eq_getElem?_getD, List.getElem?_eq_getElem hi]; rfl
    have hbi := hb _ (List.getElem_mem hi)
    obtain ⟨c, hc⟩ : ∃ c : Nat, l[i] = (c : Int) := ⟨l[i].toNat, by omega⟩
    have hp : 256 ^ (i + 1) ≤ 18446744073709551616 := pow_le8 (by omega)
    have hlow : leN (l.take i) < 256 ^ i := by
      have := leN_lt (l.take i) (fun b hb' => hb b (List.mem_of_mem_take hb'))
      rwa [List.length_take, Nat.min_eq_left (by omega)] at this
    have hpow : (256 : Nat) ^ i = 2 ^ (8 * i) := by rw [show (256 : Nat) = 2 ^ 8 from rfl, ← Nat.pow_mul]
    have hc' : c * 256 ^ i < 18446744073709551616 := by
      have : c * 256 ^ i < 256 ^ (i + 1) := by
        rw [Nat.pow_succ, Nat.mul_comm]
        exact Nat.mul_lt_mul_of_pos_left (by omega) (Nat.pow_pos (by decide))
      omega
    have h6 : gshl .u64 (IntKind.wrap .u64 (c : Int)) ((8 * i : Nat) : Int) = ((c * 256 ^ i : Nat) : Int) := by
      have hm : min (Int.toNat ((8 * i : Nat) : Int)) (IntKind.bits .u64) = 8 * i := by
        simp only [Int.toNat_natCast, IntKind.bits]; omega
      unfold gshl
      rw [hm, wrapu64 (n := (c : Int)) (by omega)]
      have : (c : Int) * 2 ^ (8 * i) = ((c * 256 ^ i : Nat) : Int) := by rw [hpow]; norm_cast
      rw [this]
      exact wrapu64 (by omega)
    have h7 : bits .u64 .or (leN (l.take i) : Int) ((c * 256 ^ i : Nat) : Int) = (leN (l.take (i + 1)) : Int) := by
      have hp' : 256 ^ i ≤ 18446744073709551616 := pow_le8 (by omega)
      rw [or_u64 (by omega) hc', take_leN hi, hc, Int.toNat_natCast]
      rw [hpow] at hlow ⊢
      rw [or_low hlow]
    rw [h1, h2, h3, h3', h4, h5, hc, h6, h7]
    rfl) (by
    simp only [F_octet_Reader_Small_l0]
    have h1 : decide ((l.length : Int) < ((List.length l : Nat) : Int)) = false := by simp
    rw [h1, List.take_length]; rfl)
  exact this

end Go.Ab

/- Plain lemmas: readers of bytes. Conditions: as each lemma states. -/
namespace Go.Ab

theorem octet_Take {l : List Int} {p n : Nat} (hl : l.length < 1000000) (hn : n < 1000000) (hp : p ≤ l.length) :
    F_octet_Reader_Take ((l, ((p : Int), ((0 : Int), ()))), (n : Int)) =
      some (if n ≤ l.length - p then ((l.drop p).take n, (l, (((p + n : Nat) : Int), ((0 : Int), ())))) else ([], (l, ((p : Int), ((3 : Int), ()))))) := by
  simp only [F_octet_Reader_Take, F_octet_Reader_Left, Option.bind_some, imax_eq]
  have e0 : ((0 : Int) != 0) = false := rfl
  have e1 : max (n : Int) 0 = (n : Int) := by omega
  have e2 : IntKind.wrap .i64 ((l.length : Int) - (p : Int)) = ((l.length - p : Nat) : Int) := by rw [wrap64 (by omega)]; omega
  have e3 : IntKind.wrap .i64 ((p : Int) + (n : Int)) = ((p + n : Nat) : Int) := by rw [wrap64 (by omega)]; omega
  rw [e0, e1, e2, e3]
  by_cases h : n ≤ l.length - p
  · have h1 : decide ((n : Int) > ((l.length - p : Nat) : Int)) = false := by simp; omega
    have h2 : decide ((0 : Int) ≤ ((p + n : Nat) : Int)) = true := by simp; omega
    have h3 : decide (((p + n : Nat) : Int) ≤ (l.length : Int)) = true := by simp; omega
    have h4 : decide ((0 : Int) ≤ (p : Int)) = true := by simp
    have h5 : decide ((p : Int) ≤ ((Int.toNat ((p + n : Nat) : Int) : Nat) : Int)) = true := by rw [Int.toNat_natCast]; simp; omega
    have h6 : List.drop (Int.toNat (p : Int)) (List.take (Int.toNat ((p + n : Nat) : Int)) l) = (l.drop p).take n := by
      rw [Int.toNat_natCast, Int.toNat_natCast, List.drop_take, Nat.add_sub_cancel_left]
    have h7 : lim (List.length ((l.drop p).take n)) = true := lim_of (by rw [List.length_take, List.length_drop]; omega)
    rw [h1, h2, h3, h4, h5, h6, h7, if_pos h]
    rfl
  · have h1 : decide ((n : Int) > ((l.length - p : Nat) : Int)) = true := by simp; omega
    rw [h1, if_neg h]
    rfl

theorem octets_Take {l : List Int} {p n : Nat} (hl : l.length < 1000000) (hn : n < 1000000000000) (hp : p ≤ l.length) :
    F_kinoraref2_Octets_Take ((l, ((p : Int), ((0 : Int), ()))), (n : Int)) =
      some (if n ≤ l.length - p then ((l.drop p).take n, (l, (((p + n : Nat) : Int), ((0 : Int), ())))) else ([], (l, ((p : Int), ((3 : Int), ()))))) := by
  simp only [F_kinoraref2_Octets_Take, F_kinoraref2_Octets_Left, Option.bind_some, imax_eq]
  have e0 : ((0 : Int) != 0) = false := rfl
  have e1 : max (n : Int) 0 = (n : Int) := by omega
  have e2 : IntKind.wrap .i64 ((l.length : Int) - (p : Int)) = ((l.length - p : Nat) : Int) := by rw [wrap64 (by omega)]; omega
  have e3 : IntKind.wrap .i64 ((p : Int) + (n : Int)) = ((p + n : Nat) : Int) := by rw [wrap64 (by omega)]; omega
  rw [e0, e1, e2, e3]
  by_cases h : n ≤ l.length - p
  · have h1 : decide ((n : Int) > ((l.length - p : Nat) : Int)) = false := by simp; omega
    have h2 : decide ((0 : Int) ≤ ((p + n : Nat) : Int)) = true := by simp; omega
    have h3 : decide (((p + n : Nat) : Int) ≤ (l.length : Int)) = true := by simp; omega
    have h4 : decide ((0 : Int) ≤ (p : Int)) = true := by simp
    have h5 : decide ((p : Int) ≤ ((Int.toNat ((p + n : Nat) : Int) : Nat) : Int)) = true := by rw [Int.toNat_natCast]; simp; omega
    have h6 : List.drop (Int.toNat (p : Int)) (List.take (Int.toNat ((p + n : Nat) : Int)) l) = (l.drop p).take n := by
      rw [Int.toNat_natCast, Int.toNat_natCast, List.drop_take, Nat.add_sub_cancel_left]
    have h7 : lim (0 + List.length ((l.drop p).take n)) = true := lim_of (by rw [List.length_take, List.length_drop]; omega)
    rw [h1, h2, h3, h4, h5, h6, h7, if_pos h]
    rfl
  · have h1 : decide ((n : Int) > ((l.length - p : Nat) : Int)) = true := by simp; omega
    rw [h1, if_neg h]
    rfl

/-- Once it has failed, it hands out nothing. -/
theorem octets_Take_bad {l : List Int} {p : Int} {e n : Int} (he : e ≠ 0) : F_kinoraref2_Octets_Take ((l, (p, (e, ()))), n) = some ([], (l, (p, (e, ())))) := by
  simp only [F_kinoraref2_Octets_Take]
  have : (e != 0) = true := by simpa using he
  rw [this]; rfl

theorem wave_number {l : List Int} (hl : l.length ≤ 7) (hb : Bytes l) : F_wave_number l = some (leN l : Int) := by
  have hn := leN_lt l hb
  have h7 : 256 ^ l.length ≤ 256 ^ 7 := Nat.pow_le_pow_right (by decide) hl
  have h7' : (256 : Nat) ^ 7 = 72057594037927936 := by decide
  have hc : F_octet_clamp ((l.length : Nat) : Int) = some ((l.length : Nat) : Int) := by
    simp only [F_octet_clamp, imin_eq, imax_eq]
    congr 1; omega
  have ht := octet_Take (l := l) (p := 0) (n := l.length) (by omega) (by omega) (Nat.zero_le _)
  rw [if_pos (by omega), List.drop_zero, List.take_length] at ht
  rw [show ((0 : Nat) : Int) = 0 from rfl] at ht
  simp only [F_wave_number, F_octet_New, F_octet_Reader_Small]
  rw [lim_of (by omega)]
  simp only [cond_true, Option.bind_some, hc, ht, octet_sum (by omega : l.length ≤ 8) hb]
  rw [wrap64 (by omega)]

/-- The reference's sum of bytes, from the highest. -/
theorem octets_sum {l : List Int} (hl : l.length ≤ 8) (hb : Bytes l) (r : (List Int) × (Int × (Int × Unit))) :
    iter F_kinoraref2_Octets_Small_l0 ((0 : Int), (IntKind.wrap .i64 (((List.length l : Nat) : Int) - (1 : Int)), (l, (r, ())))) = some ((leN l : Int), (r, ())) := by
  have e0 : IntKind.wrap .i64 (((List.length l : Nat) : Int) - (1 : Int)) = (l.length : Int) - 1 := wrap64 (by omega)
  rw [e0]
  have := iter_count (f := F_kinoraref2_Octets_Small_l0) (fun i => ((leN (l.drop (l.length - i)) : Int), ((l.length : Int) - 1 - (i : Int), (l, (r, ()))))) l.length (b := ((leN l : Int), (r, ()))) (fun i hi => by
    simp only [F_kinoraref2_Octets_Small_l0]
    obtain ⟨j, hj⟩ : ∃ j, j = l.length - (i + 1) := ⟨_, rfl⟩
    have hjl : j < l.length := by omega
    have ej : (l.length : Int) - 1 - (i : Int) = (j : Int) := by omega
    have h1 : decide ((j : Int) ≥ (0 : Int)) = true := by simp
    have h2 : decide ((j : Int) < ((List.length l : Nat) : Int)) = true := by simp; omega
    have h4 : IntKind.wrap .i64 ((j : Int) - 1) = (l.length : Int) - 1 - ((i + 1 : Nat) : Int) := by rw [wrap64 (by omega)]; omega
    have h5 : List.getD l (Int.toNat (j : Int)) (0 : Int) = l[j] := by
      rw [Int.toNat_natCast, List.getD_eq_getElem?_getD, List.getElem?_eq_getElem hjl]; rfl
    have hbi := hb _ (List.getElem_mem hjl)
    obtain ⟨c, hc⟩ : ∃ c : Nat, l[j] = (c : Int) := ⟨l[j].toNat, by omega⟩
    obtain ⟨a, ha⟩ : ∃ a, a = leN (l.drop (l.length - i)) := ⟨_, rfl⟩
    have halt : a < 256 ^ i := by
      have := leN_lt (l.drop (l.length - i)) (fun b hb' => hb b (List.mem_of_mem_drop hb'))
      rw [List.length_drop, show l.length - (l.length - i) = i from by omega] at this
      rw [ha]; exact this
    have h256 : 256 ^ i ≤ 256 ^ 7 := Nat.pow_le_pow_right (by decide) (by omega)
    have h7' : (256 : Nat) ^ 7 = 72057594037927936 := by decide
    have hdrop : leN (l.drop j) = c + 256 * a := by
      rw [List.drop_eq_getElem_cons hjl, leN, hc, Int.toNat_natCast, show j + 1 = l.length - i from by omega, ha]
    have h6 : gshl .u64 (a : Int) (8 : Int) = ((a * 2 ^ 8 : Nat) : Int) := by
      unfold gshl
      have hm : min (Int.toNat (8 : Int)) (IntKind.bits .u64) = 8 := by decide
      rw [hm, show (a : Int) * 2 ^ 8 = ((a * 2 ^ 8 : Nat) : Int) from by norm_cast]
      exact wrapu64 (by omega)
    have h7 : bits .u64 .or ((a * 2 ^ 8 : Nat) : Int) (c : Int) = ((c + 256 * a : Nat) : Int) := by
      rw [or_u64 (by omega) (by omega), Nat.or_comm, or_low (by omega)]
      congr 1; omega
    rw [← ha, ej, h1, h2, h4, h5, hc, wrapu64 (n := (c : Int)) (by omega), h6, h7, ← hj, hdrop]
    rfl) (by
    simp only [F_kinoraref2_Octets_Small_l0]
    have h1 : decide ((l.length : Int) - 1 - (l.length : Int) ≥ (0 : Int)) = false := by simp; omega
    rw [h1, Nat.sub_self, List.drop_zero]; rfl)
  rw [Nat.sub_zero, List.drop_length] at this
  have e : (l.length : Int) - 1 - ((0 : Nat) : Int) = (l.length : Int) - 1 := by omega
  rw [e] at this
  exact this

theorem octets_Small {l : List Int} {p k : Nat} (hl : l.length < 1000000) (hk : k ≤ 8) (hb : Bytes l) (hp : p ≤ l.length) :
    F_kinoraref2_Octets_Small ((l, ((p : Int), ((0 : Int), ()))), (k : Int)) =
      some (if k ≤ l.length - p then ((leN ((l.drop p).take k) : Int), (l, (((p + k : Nat) : Int), ((0 : Int), ())))) else (0, (l, ((p : Int), ((3 : Int), ()))))) := by
  simp only [F_kinoraref2_Octets_Small, imin_eq]
  rw [show min (k : Int) 8 = (k : Int) from by omega, octets_Take hl (by omega) hp]
  by_cases h : k ≤ l.length - p
  · rw [if_pos h, if_pos h]
    simp only [Option.bind_some]
    rw [octets_sum (by rw [List.length_take]; omega) (fun b hb' => hb b (List.mem_of_mem_drop (List.mem_of_mem_take hb')))]
    rfl
  · rw [if_neg h, if_neg h]
    simp only [Option.bind_some]
    rw [octets_sum (by simp) (fun b hb' => by simp at hb')]
    rfl

end Go.Ab

/- Plain lemmas: the format that is parsed. Conditions: as each lemma states. -/
namespace Go.Ab

/-- n bytes from place a on. -/
def sl (x : List Int) (a n : Nat) : List Int := (x.drop a).take n

theorem sl_length {x : List Int} {a n : Nat} (h : a + n ≤ x.length) : (sl x a n).length = n := by
  unfold sl
  rw [List.length_take, List.length_drop]; omega

theorem sl_bytes {x : List Int} (h : Bytes x) (a n : Nat) : Bytes (sl x a n) := fun b hb => h b (List.mem_of_mem_drop (List.mem_of_mem_take hb))

theorem sl_le {x : List Int} (a n : Nat) : (sl x a n).length ≤ n := by
  unfold sl
  rw [List.length_take]; omega

theorem sl_lt4 {x : List Int} (h : Bytes x) (a : Nat) {n : Nat} (hn : n ≤ 4) : leN (sl x a n) < 4294967296 := by
  have h1 := leN_lt _ (sl_bytes h a n)
  have h2 : 256 ^ (sl x a n).length ≤ 256 ^ 4 := Nat.pow_le_pow_right (by decide) (Nat.le_trans (sl_le a n) hn)
  have h3 : (256 : Nat) ^ 4 = 4294967296 := by decide
  omega

theorem drop_take_sl (x : List Int) (a b : Nat) : List.drop a (List.take b x) = sl x a (b - a) := by
  unfold sl; rw [List.drop_take]

theorem take_sl (x : List Int) (b : Nat) : List.take b x = sl x 0 b := rfl

def zeroF : Fmt := (0, (0, (0, ())))

def fmtOf (b : List Int) : Fmt := ((leN (sl b 4 4) : Int), ((leN (sl b 2 2) : Int), ((leN (sl b 14 2) : Int), ())))

def fmtOk (b : List Int) : Bool :=
  decide (16 ≤ b.length) && (decide (leN (sl b 0 2) = 1) && (waveOk (fmtOf b) && (decide ((leN (sl b 8 4) : Int) = (fmtOf b).1 * frameOf (fmtOf b)) && decide ((leN (sl b 12 2) : Int) = frameOf (fmtOf b)))))

def parseF (b : List Int) : Fmt × Bool := if fmtOk b = true then (fmtOf b, true) else (zeroF, false)

theorem number_sl {b : List Int} (hb : Bytes b) (a : Nat) {n : Nat} (hn : n ≤ 4) : F_wave_number (sl b a n) = some (leN (sl b a n) : Int) :=
  wave_number (Nat.le_trans (sl_le a n) (by omega)) (sl_bytes hb a n)

theorem wave_parseFormat {b : List Int} (hb : Bytes b) : F_wave_parseFormat b = some (parseF b) := by
  simp only [F_wave_parseFormat, drop_take_sl, parseF, fmtOk]
  simp only [take_sl]
  by_cases hl : 16 ≤ b.length
  · have e1 : decide (((List.length b : Nat) : Int) < (16 : Int)) = false := by simp; omega
    have e2 : decide ((2 : Int) ≤ ((List.length b : Nat) : Int)) = true := by simp; omega
    have e3 : decide ((8 : Int) ≤ ((List.length b : Nat) : Int)) = true := by simp; omega
    have e4 : decide ((4 : Int) ≤ ((List.length b : Nat) : Int)) = true := by simp; omega
    have e5 : decide ((16 : Int) ≤ ((List.length b : Nat) : Int)) = true := by simp; omega
    have e6 : decide ((12 : Int) ≤ ((List.length b : Nat) : Int)) = true := by simp; omega
    have e7 : decide ((14 : Int) ≤ ((List.length b : Nat) : Int)) = true := by simp; omega
    rw [e1]
    simp only [cond_false, e2, cond_true, number_sl hb 0 (show 2 ≤ 4 by decide), Option.bind_some, hl, decide_true, Bool.true_and]
    by_cases h1 : leN (sl b 0 2) = 1
    · have c1 : ((leN (sl b 0 2) : Int) != 1) = false := by rw [h1]; rfl
      rw [c1]
      simp only [cond_false, e3, cond_true, number_sl hb 4 (show 8 - 4 ≤ 4 by decide), Option.bind_some, e4, number_sl hb 2 (show 4 - 2 ≤ 4 by decide), e5, number_sl hb 14 (show 16 - 14 ≤ 4 by decide), h1, decide_true, Bool.true_and]
      have hw : F_wave_possible ((leN (sl b 4 (8 - 4)) : Int), ((leN (sl b 2 (4 - 2)) : Int), ((leN (sl b 14 (16 - 14)) : Int), ()))) = some (waveOk (fmtOf b)) := wave_possible (fmtOf b)
      simp only [hw, Option.bind_some]
      cases hok : waveOk (fmtOf b) with
      | false => simp [zeroF]
      | true =>
        obtain ⟨q1, -, -, q2, -, -⟩ := frame_eq (waveOk_right hok).1
        have q1' : IntKind.wrap .i64 (Int.tdiv (IntKind.wrap .i64 ((leN (sl b 2 (4 - 2)) : Int) * (leN (sl b 14 (16 - 14)) : Int))) 8) = frameOf (fmtOf b) := q1
        have q2' : IntKind.wrap .i64 ((leN (sl b 4 (8 - 4)) : Int) * frameOf (fmtOf b)) = (fmtOf b).1 * frameOf (fmtOf b) := q2
        simp only [Bool.not_true, cond_false, e6, cond_true, number_sl hb 8 (show 12 - 8 ≤ 4 by decide), Option.bind_some, q1', q2', e7, number_sl hb 12 (show 14 - 12 ≤ 4 by decide), Bool.true_and]
        by_cases h2 : (leN (sl b 8 4) : Int) = (fmtOf b).1 * frameOf (fmtOf b)
        · have c2 : ((leN (sl b 8 (12 - 8)) : Int) != (fmtOf b).1 * frameOf (fmtOf b)) = false := by simpa using h2
          rw [c2]
          by_cases h3 : (leN (sl b 12 2) : Int) = frameOf (fmtOf b)
          · have c3 : ((leN (sl b 12 (14 - 12)) : Int) != frameOf (fmtOf b)) = false := by simpa using h3
            rw [c3]
            simp only [h2, h3, decide_true, Bool.and_self, if_true]
            rfl
          · have c3 : ((leN (sl b 12 (14 - 12)) : Int) != frameOf (fmtOf b)) = true := by simpa using h3
            rw [c3]
            simp only [h3, decide_false, Bool.and_false]
            rfl
        · have c2 : ((leN (sl b 8 (12 - 8)) : Int) != (fmtOf b).1 * frameOf (fmtOf b)) = true := by simpa using h2
          rw [c2]
          simp only [h2, decide_false, Bool.false_and]
          rfl
    · have c1 : ((leN (sl b 0 2) : Int) != 1) = true := by
        simp only [bne_iff_ne, ne_eq]; omega
      simp only [c1, cond_true, h1, decide_false, Bool.false_and]
      rfl
  · have e1 : decide (((List.length b : Nat) : Int) < (16 : Int)) = true := by simp; omega
    rw [e1]
    simp only [hl, decide_false, Bool.false_and]
    rfl

theorem ref19_format {b : List Int} (hb : Bytes b) (hlen : b.length < 1000000) : F_kinoraref19_format b = some (parseF b) := by
  simp only [F_kinoraref19_format, F_kinoraref2_NewOctets, Option.bind_some, parseF, fmtOk]
  by_cases hl : 16 ≤ b.length
  · have e1 : decide (((List.length b : Nat) : Int) < (16 : Int)) = false := by simp; omega
    have s : ∀ p k : Nat, p + k ≤ 16 → k ≤ 4 → F_kinoraref2_Octets_Small ((b, ((p : Int), ((0 : Int), ()))), (k : Int)) = some ((leN (sl b p k) : Int), (b, (((p + k : Nat) : Int), ((0 : Int), ())))) := fun p k h1 h2 => by
      rw [octets_Small hlen (by omega) hb (by omega), if_pos (by omega)]; rfl
    have w : ∀ p k : Nat, k ≤ 4 → IntKind.wrap .i64 (leN (sl b p k) : Int) = (leN (sl b p k) : Int) := fun p k h => wrap64 (by
      have := sl_lt4 hb p h
      omega)
    have s0 := s 0 2 (by decide) (by decide)
    have s1 := s 2 2 (by decide) (by decide)
    have s2 := s 4 4 (by decide) (by decide)
    have s3 := s 8 4 (by decide) (by decide)
    have s4 := s 12 2 (by decide) (by decide)
    have s5 := s 14 2 (by decide) (by decide)
    rw [e1]
    simp only [cond_false]
    have s0' : F_kinoraref2_Octets_Small ((b, ((0 : Int), ((0 : Int), ()))), (2 : Int)) = some ((leN (sl b 0 2) : Int), (b, ((2 : Int), ((0 : Int), ())))) := s0
    have s1' : F_kinoraref2_Octets_Small ((b, ((2 : Int), ((0 : Int), ()))), (2 : Int)) = some ((leN (sl b 2 2) : Int), (b, ((4 : Int), ((0 : Int), ())))) := s1
    have s2' : F_kinoraref2_Octets_Small ((b, ((4 : Int), ((0 : Int), ()))), (4 : Int)) = some ((leN (sl b 4 4) : Int), (b, ((8 : Int), ((0 : Int), ())))) := s2
    have s3' : F_kinoraref2_Octets_Small ((b, ((8 : Int), ((0 : Int), ()))), (4 : Int)) = some ((leN (sl b 8 4) : Int), (b, ((12 : Int), ((0 : Int), ())))) := s3
    have s4' : F_kinoraref2_Octets_Small ((b, ((12 : Int), ((0 : Int), ()))), (2 : Int)) = some ((leN (sl b 12 2) : Int), (b, ((14 : Int), ((0 : Int), ())))) := s4
    have s5' : F_kinoraref2_Octets_Small ((b, ((14 : Int), ((0 : Int), ()))), (2 : Int)) = some ((leN (sl b 14 2) : Int), (b, ((16 : Int), ((0 : Int), ())))) := s5
    simp only [s0', s1', s2', s3', s4', s5', Option.bind_some, w 2 2 (by decide), w 4 4 (by decide), w 8 4 (by decide), w 12 2 (by decide), w 14 2 (by decide), hl, decide_true, Bool.true_and]
    by_cases h1 : leN (sl b 0 2) = 1
    · have c1 : ((leN (sl b 0 2) : Int) != 1) = false := by rw [h1]; rfl
      have hR : F_kinoraref14_Right ((leN (sl b 4 4) : Int), ((leN (sl b 2 2) : Int), ((leN (sl b 14 2) : Int), ()))) = some (right (fmtOf b)) := ref14_Right (fmtOf b)
      have hC : F_kinoraref19_containers (leN (sl b 14 2) : Int) = some (decide ((fmtOf b).2.2.1 = 8 ∨ (fmtOf b).2.2.1 = 16 ∨ (fmtOf b).2.2.1 = 24)) := ref19_containers _
      rw [c1]
      simp only [cond_false, hR, hC, Option.bind_some, h1, decide_true, Bool.true_and, waveOk]
      cases hr : right (fmtOf b) with
      | false => simp [zeroF]
      | true =>
        cases hc : decide ((fmtOf b).2.2.1 = 8 ∨ (fmtOf b).2.2.1 = 16 ∨ (fmtOf b).2.2.1 = 24) with
        | false => simp [zeroF]
        | true =>
          obtain ⟨q1, -, -, q2, -, -⟩ := frame_eq hr
          have q1' : IntKind.wrap .i64 (Int.tdiv (IntKind.wrap .i64 ((leN (sl b 2 2) : Int) * (leN (sl b 14 2) : Int))) 8) = frameOf (fmtOf b) := q1
          simp only [Bool.not_true, cond_false, q1', Bool.true_and]
          by_cases h3 : (leN (sl b 12 2) : Int) = frameOf (fmtOf b)
          · have q2' : IntKind.wrap .i64 ((leN (sl b 4 4) : Int) * (leN (sl b 12 2) : Int)) = (fmtOf b).1 * frameOf (fmtOf b) := by rw [h3]; exact q2
            have c3 : ((leN (sl b 12 2) : Int) != frameOf (fmtOf b)) = false := by simpa using h3
            rw [c3, q2']
            by_cases h2 : (leN (sl b 8 4) : Int) = (fmtOf b).1 * frameOf (fmtOf b)
            · have c2 : ((leN (sl b 8 4) : Int) != (fmtOf b).1 * frameOf (fmtOf b)) = false := by simpa using h2
              rw [c2]
              simp only [h2, h3, decide_true, Bool.and_self, if_true]
              rfl
            · have c2 : ((leN (sl b 8 4) : Int) != (fmtOf b).1 * frameOf (fmtOf b)) = true := by simpa using h2
              rw [c2]
              simp only [h2, decide_false, Bool.false_and]
              rfl
          · have c3 : ((leN (sl b 12 2) : Int) != frameOf (fmtOf b)) = true := by simpa using h3
            rw [c3]
            simp only [h3, decide_false, Bool.and_false]
            rfl
    · have c1 : ((leN (sl b 0 2) : Int) != 1) = true := by
        simp only [bne_iff_ne, ne_eq]; omega
      simp only [c1, cond_true, h1, decide_false, Bool.false_and]
      rfl
  · have e1 : decide (((List.length b : Nat) : Int) < (16 : Int)) = true := by simp; omega
    rw [e1]
    simp only [hl, decide_false, Bool.false_and]
    rfl

end Go.Ab

/- Plain lemmas: bytes as samples. Conditions: as each lemma states. -/
namespace Go.Ab

theorem or_i64 {a b : Nat} (ha : a < 4294967296) (hb : b < 4294967296) : bits .i64 .or (a : Int) (b : Int) = ((a ||| b : Nat) : Int) := by
  show IntKind.wrap .i64 (((BitVec.ofInt 64 (a : Int) ||| BitVec.ofInt 64 (b : Int)).toNat : Nat) : Int) = _
  have h1 : (BitVec.ofInt 64 (a : Int)).toNat = a := by rw [BitVec.toNat_ofInt]; omega
  have h2 : (BitVec.ofInt 64 (b : Int)).toNat = b := by rw [BitVec.toNat_ofInt]; omega
  rw [BitVec.toNat_or, h1, h2]
  have h3 : a ||| b < 2 ^ 32 := Nat.or_lt_two_pow ha hb
  exact wrap64 (by omega)

/-- A number of k bytes with its sign. -/
def sgn (k : Nat) (n : Nat) : Int := if n < 2 ^ (8 * k - 1) then (n : Int) else (n : Int) - 2 ^ (8 * k)

def group (k : Nat) (c : List Int) (i : Nat) : Int := sgn k (leN (sl c (i * k) k))

def samplesOf (k : Nat) (c : List Int) : List Int := (List.range (c.length / k)).map (group k c)

theorem unpack_in {c : List Int} (hb : Bytes c) (hc : c.length < 1000000) {k p : Nat} (hk : k ≤ 3) (hp : p + k ≤ c.length) (b : Int) (out : List Int) :
    iter F_sample_Unpack_l0 (c, (b, ((k : Int), ((p : Int), ((0 : Int), ((k : Int), ((0 : Int), (out, ())))))))) = some (c, (b, ((k : Int), ((p : Int), ((leN (sl c p k) : Int), (out, ())))))) := by
  have hsl : (sl c p k).length = k := sl_length hp
  have := iter_count (f := F_sample_Unpack_l0) (fun i => (c, (b, ((k : Int), ((p : Int), ((leN ((sl c p k).take i) : Int), ((k : Int), ((i : Int), (out, ()))))))))) k (b := (c, (b, ((k : Int), ((p : Int), ((leN (sl c p k) : Int), (out, ()))))))) (fun i hi => by
    simp only [F_sample_Unpack_l0]
    have h1 : decide ((i : Int) < (k : Int)) = true := by simp; omega
    have h0 : IntKind.wrap .i64 ((p : Int) + (i : Int)) = ((p + i : Nat) : Int) := by rw [wrap64 (by omega)]; omega
    have h3 : IntKind.wrap .i64 ((8 : Int) * (i : Int)) = ((8 * i : Nat) : Int) := by rw [wrap64 (by omega)]; omega
    have h3' : decide (((8 * i : Nat) : Int) < 0) = false := by simp; omega
    have h4 : IntKind.wrap .i64 ((i : Int) + 1) = ((i + 1 : Nat) : Int) := wrap64 (by omega)
    have hpi : p + i < c.length := by omega
    have hii : i < (sl c p k).length := by omega
    have hcg : (sl c p k)[i] = c[p + i] := by simp [sl]
    have hbi := hb _ (List.getElem_mem hpi)
    obtain ⟨x, hx⟩ : ∃ x : Nat, c[p + i] = (x : Int) := ⟨c[p + i].toNat, by omega⟩
    have hlow : leN ((sl c p k).take i) < 256 ^ i := by
      have := leN_lt ((sl c p k).take i) (fun b hb' => sl_bytes hb p k b (List.mem_of_mem_take hb'))
      rwa [List.length_take, Nat.min_eq_left (by omega)] at this
    have hpow : (256 : Nat) ^ i = 2 ^ (8 * i) := by rw [show (256 : Nat) = 2 ^ 8 from rfl, ← Nat.pow_mul]
    have hp3 : 256 ^ i ≤ 256 ^ 2 := Nat.pow_le_pow_right (by decide) (by omega)
    have hp3' : (256 : Nat) ^ 2 = 65536 := by decide
    have hxl : x * 256 ^ i < 4294967296 := by
      have : x * 256 ^ i ≤ 256 * 65536 := Nat.mul_le_mul (by omega) (by omega)
      omega
    have h6 : gshl .i64 (IntKind.wrap .i64 (x : Int)) ((8 * i : Nat) : Int) = ((x * 256 ^ i : Nat) : Int) := by
      have hm : min (Int.toNat ((8 * i : Nat) : Int)) (IntKind.bits .i64) = 8 * i := by
        simp only [Int.toNat_natCast, IntKind.bits]; omega
      unfold gshl
      rw [hm, wrap64 (n := (x : Int)) (by omega)]
      have : (x : Int) * 2 ^ (8 * i) = ((x * 256 ^ i : Nat) : Int) := by rw [hpow]; norm_cast
      rw [this]
      exact wrap64 (by omega)
    have h7 : bits .i64 .or (leN ((sl c p k).take i) : Int) ((x * 256 ^ i : Nat) : Int) = (leN ((sl c p k).take (i + 1)) : Int) := by
      rw [or_i64 (by omega) hxl, take_leN hii, hcg, hx, Int.toNat_natCast]
      rw [hpow] at hlow ⊢
      rw [or_low hlow]
    rw [h1, h0, gidx_of c hpi]
    simp only [cond_true, Option.bind_some]
    rw [h3, h3', h4, hx, h6, h7]
    rfl) (by
    simp only [F_sample_Unpack_l0]
    have h1 : decide ((k : Int) < (k : Int)) = false := by simp
    rw [h1, List.take_of_length_le (by omega)]; rfl)
  exact this

theorem sgn_fit {k n : Nat} (hk : 1 ≤ k ∧ k ≤ 3) (hn : n < 256 ^ k) : fit ((8 * k : Nat) : Int) (sgn k n) = true := by
  have h : k = 1 ∨ k = 2 ∨ k = 3 := by omega
  rcases h with rfl | rfl | rfl <;> simp only [fit, sgn] <;> simp at hn ⊢ <;> split <;> omega

theorem sample_Unpack {c : List Int} (hb : Bytes c) (hc : c.length < 100000) {k : Nat} (hk : 1 ≤ k ∧ k ≤ 3) :
    F_sample_Unpack (c, ((8 * k : Nat) : Int)) = some (if c.length % k = 0 then (samplesOf k c, 0) else ([], 3)) := by
  have e1 : decide (((8 * k : Nat) : Int) < (4 : Int)) = false := by simp; omega
  have e2 : decide (((8 * k : Nat) : Int) > (24 : Int)) = false := by simp; omega
  have e3 : IntKind.wrap .i64 (Int.tdiv (IntKind.wrap .i64 (((8 * k : Nat) : Int) + (7 : Int))) (8 : Int)) = (k : Int) := by
    rw [wrap64 (n := ((8 * k : Nat) : Int) + 7) (by omega), Int.tdiv_eq_ediv_of_nonneg (by omega), wrap64 (by omega)]; omega
  have e4 : ((k : Int) == 0) = false := by simp only [beq_eq_false_iff_ne, ne_eq]; omega
  have e5 : Int.tmod ((List.length c : Nat) : Int) (k : Int) = ((c.length % k : Nat) : Int) := rfl
  simp only [F_sample_Unpack, e1, cond_false, Option.bind_some, e2, e3, e4, e5]
  by_cases hm : c.length % k = 0
  · have e6 : (((c.length % k : Nat) : Int) != 0) = false := by rw [hm]; rfl
    rw [e6, if_pos hm]
    simp only [cond_false]
    obtain ⟨n, hn⟩ : ∃ n, n = c.length / k := ⟨_, rfl⟩
    have hnk : c.length = n * k := by rw [hn, Nat.mul_comm]; have := Nat.div_add_mod c.length k; omega
    have hL : iter F_sample_Unpack_l1 (c, (((8 * k : Nat) : Int), ((k : Int), ((0 : Int), (([] : List Int), ()))))) = some (.inl (samplesOf k c, ())) := by
      have := iter_count (f := F_sample_Unpack_l1) (fun i => (c, (((8 * k : Nat) : Int), ((k : Int), (((i * k : Nat) : Int), ((List.range i).map (group k c), ())))))) n (b := .inl ((List.range n).map (group k c), ())) (fun i hi => by
        have hik : i * k + k ≤ c.length := by
          rw [hnk, ← Nat.succ_mul]; exact Nat.mul_le_mul_right _ hi
        simp only [F_sample_Unpack_l1]
        have h1 : decide (((i * k : Nat) : Int) < ((List.length c : Nat) : Int)) = true := by simp only [decide_eq_true_eq]; omega
        rw [h1]
        simp only [cond_true, unpack_in hb (by omega) hk.2 hik, Option.bind_some]
        have h2 : IntKind.wrap .i64 ((8 : Int) * (k : Int)) = ((8 * k : Nat) : Int) := by rw [wrap64 (by omega)]; omega
        have hH : F_sample_High ((8 * k : Nat) : Int) = some ((2 : Int) ^ (8 * k - 1) - 1) := by
          have := (low_of (b := ((8 * k : Nat) : Int)) (by omega)).2.1
          rw [Int.toNat_natCast] at this
          exact this
        have hlt := leN_lt (sl c (i * k) k) (sl_bytes hb _ _)
        rw [sl_length hik] at hlt
        have h3 : decide (((8 * k : Nat) : Int) < 0) = false := by simp; omega
        have hnat : i < 100000 := by
          have : i * 1 ≤ i * k := Nat.mul_le_mul_left _ hk.1
          omega
        have h5 : lim (List.length ((List.range i).map (group k c)) + 1) = true := lim_of (by rw [List.length_map, List.length_range]; omega)
        have h6 : IntKind.wrap .i64 (((i * k : Nat) : Int) + (k : Int)) = (((i + 1) * k : Nat) : Int) := by
          rw [Nat.succ_mul, wrap64 (by omega)]; omega
        have hfit : F_sample_Fits (group k c i, ((8 * k : Nat) : Int)) = some true := by
          rw [sample_Fits]; exact congrArg some (sgn_fit hk hlt)
        have hsign : (bif decide ((leN (sl c (i * k) k) : Int) > (2 : Int) ^ (8 * k - 1) - 1) then (bif decide (((8 * k : Nat) : Int) < 0) then (none : Option Int) else some (IntKind.wrap .i64 ((leN (sl c (i * k) k) : Int) - gshl .i64 1 ((8 * k : Nat) : Int)))) else some (leN (sl c (i * k) k) : Int)) = some (group k c i) := by
          rw [h3]
          simp only [group, cond_false]
          revert hlt
          generalize leN (sl c (i * k) k) = n
          intro hlt
          have h : k = 1 ∨ k = 2 ∨ k = 3 := by omega
          rcases h with rfl | rfl | rfl <;> simp only [sgn, Bool.cond_eq_ite, decide_eq_true_eq] <;> simp at hlt ⊢ <;> split <;> split <;> first | omega | rfl | skip
          all_goals first | (congr 1; rw [show gshl .i64 1 8 = 256 from by decide, wrap64 (by omega)]) | (congr 1; rw [show gshl .i64 1 16 = 65536 from by decide, wrap64 (by omega)]) | (congr 1; rw [show gshl .i64 1 24 = 16777216 from by decide, wrap64 (by omega)]) | skip
        rw [h2]
        simp only [hH, Option.bind_some]
        cases hd : decide ((leN (sl c (i * k) k) : Int) > (2 : Int) ^ (8 * k - 1) - 1) with
        | true =>
          rw [hd, h3] at hsign
          simp only [cond_true, cond_false, Option.some.injEq] at hsign
          simp only [h3, cond_true, cond_false, Option.bind_some, hsign, hfit, Bool.not_true, h5, h6, List.range_succ, List.map_append]
          rfl
        | false =>
          rw [hd] at hsign
          simp only [cond_false, Option.some.injEq] at hsign
          simp only [cond_true, cond_false, Option.bind_some, hsign, hfit, Bool.not_true, h5, h6, List.range_succ, List.map_append]
          rfl) (by
        simp only [F_sample_Unpack_l1]
        have h1 : decide (((n * k : Nat) : Int) < ((List.length c : Nat) : Int)) = false := by rw [hnk]; simp
        rw [h1]; rfl)
      rw [Nat.zero_mul] at this
      rw [samplesOf, ← hn]
      exact this
    rw [hL]; rfl
  · have e6 : (((c.length % k : Nat) : Int) != 0) = true := by
      simp only [bne_iff_ne, ne_eq]; omega
    rw [e6, if_neg hm]; rfl

end Go.Ab

/- Plain lemmas: bytes as samples, the reference's way; a wave's data. Conditions: as each lemma states. -/
namespace Go.Ab

theorem octets_Left {l : List Int} {p : Nat} {e : Int × Unit} (hl : l.length < 1000000) (hp : p ≤ l.length) : F_kinoraref2_Octets_Left (l, ((p : Int), e)) = some (((l.length - p : Nat) : Int), (l, ((p : Int), e))) := by
  simp only [F_kinoraref2_Octets_Left]
  rw [wrap64 (by omega), Int.ofNat_sub hp]

theorem sgn_shift {k n : Nat} (hk : 1 ≤ k ∧ k ≤ 3) (hn : n < 256 ^ k) :
    gshr .i64 (IntKind.wrap .i64 (gshl .u64 (n : Int) ((64 - 8 * k : Nat) : Int))) ((64 - 8 * k : Nat) : Int) = sgn k n := by
  have h : k = 1 ∨ k = 2 ∨ k = 3 := by omega
  rcases h with rfl | rfl | rfl
  · have h1 : gshl .u64 (n : Int) ((64 - 8 * 1 : Nat) : Int) = (n : Int) * 72057594037927936 := by
      unfold gshl
      exact wrapu64 (by show 0 ≤ (n : Int) * 72057594037927936 ∧ (n : Int) * 72057594037927936 < 18446744073709551616; simp at hn; omega)
    rw [h1]
    unfold gshr sgn
    show ((IntKind.wrap .i64 ((n : Int) * 72057594037927936)).fdiv 72057594037927936) = _
    rw [Int.fdiv_eq_ediv_of_nonneg _ (by decide)]
    simp only [IntKind.wrap, IntKind.bits, IntKind.signed]
    simp at hn ⊢
    split <;> split <;> omega
  · have h1 : gshl .u64 (n : Int) ((64 - 8 * 2 : Nat) : Int) = (n : Int) * 281474976710656 := by
      unfold gshl
      exact wrapu64 (by show 0 ≤ (n : Int) * 281474976710656 ∧ (n : Int) * 281474976710656 < 18446744073709551616; simp at hn; omega)
    rw [h1]
    unfold gshr sgn
    show ((IntKind.wrap .i64 ((n : Int) * 281474976710656)).fdiv 281474976710656) = _
    rw [Int.fdiv_eq_ediv_of_nonneg _ (by decide)]
    simp only [IntKind.wrap, IntKind.bits, IntKind.signed]
    simp at hn ⊢
    split <;> split <;> omega
  · have h1 : gshl .u64 (n : Int) ((64 - 8 * 3 : Nat) : Int) = (n : Int) * 1099511627776 := by
      unfold gshl
      exact wrapu64 (by show 0 ≤ (n : Int) * 1099511627776 ∧ (n : Int) * 1099511627776 < 18446744073709551616; simp at hn; omega)
    rw [h1]
    unfold gshr sgn
    show ((IntKind.wrap .i64 ((n : Int) * 1099511627776)).fdiv 1099511627776) = _
    rw [Int.fdiv_eq_ediv_of_nonneg _ (by decide)]
    simp only [IntKind.wrap, IntKind.bits, IntKind.signed]
    simp at hn ⊢
    split <;> split <;> omega

theorem ref2_Unpack {c : List Int} (hb : Bytes c) (hc : c.length < 100000) {k : Nat} (hk : 1 ≤ k ∧ k ≤ 3) :
    F_kinoraref2_Unpack (c, ((8 * k : Nat) : Int)) = some (if c.length % k = 0 then (samplesOf k c, 0) else ([], 3)) := by
  have e1 : F_kinoraref2_depth ((8 * k : Nat) : Int) = some true := by
    simp only [F_kinoraref2_depth]
    have h1 : decide (((8 * k : Nat) : Int) ≥ 4) = true := by simp; omega
    have h2 : decide (((8 * k : Nat) : Int) ≤ 24) = true := by simp; omega
    rw [h1, h2]; rfl
  have e3 : IntKind.wrap .i64 (Int.tdiv (IntKind.wrap .i64 (((8 * k : Nat) : Int) + (7 : Int))) (8 : Int)) = (k : Int) := by
    rw [wrap64 (n := ((8 * k : Nat) : Int) + 7) (by omega), Int.tdiv_eq_ediv_of_nonneg (by omega), wrap64 (by omega)]; omega
  have e4 : ((k : Int) == 0) = false := by simp only [beq_eq_false_iff_ne, ne_eq]; omega
  have e5 : Int.tmod ((List.length c : Nat) : Int) (k : Int) = ((c.length % k : Nat) : Int) := rfl
  simp only [F_kinoraref2_Unpack, e1, Option.bind_some, Bool.not_true, cond_false, e3, e4, e5, F_kinoraref2_NewOctets]
  by_cases hm : c.length % k = 0
  · have e6 : (((c.length % k : Nat) : Int) != 0) = false := by rw [hm]; rfl
    rw [e6, if_pos hm]
    simp only [cond_false]
    obtain ⟨n, hn⟩ : ∃ n, n = c.length / k := ⟨_, rfl⟩
    have hnk : c.length = n * k := by rw [hn, Nat.mul_comm]; have := Nat.div_add_mod c.length k; omega
    have hL : iter F_kinoraref2_Unpack_l0 (((8 * k : Nat) : Int), ((k : Int), (([] : List Int), ((c, ((0 : Int), ((0 : Int), ()))), ())))) = some (.inl (samplesOf k c, ())) := by
      have := iter_count (f := F_kinoraref2_Unpack_l0) (fun i => (((8 * k : Nat) : Int), ((k : Int), ((List.range i).map (group k c), ((c, (((i * k : Nat) : Int), ((0 : Int), ()))), ()))))) n (b := .inl ((List.range n).map (group k c), ())) (fun i hi => by
        have hik : i * k + k ≤ c.length := by
          rw [hnk, ← Nat.succ_mul]; exact Nat.mul_le_mul_right _ hi
        have hlt := leN_lt (sl c (i * k) k) (sl_bytes hb _ _)
        rw [sl_length hik] at hlt
        have hnat : i < 100000 := by
          have : i * 1 ≤ i * k := Nat.mul_le_mul_left _ hk.1
          omega
        have h1 : decide (((c.length - i * k : Nat) : Int) > (0 : Int)) = true := by simp; omega
        have hs : F_kinoraref2_Octets_Small ((c, (((i * k : Nat) : Int), ((0 : Int), ()))), (k : Int)) = some ((leN (sl c (i * k) k) : Int), (c, (((i * k + k : Nat) : Int), ((0 : Int), ())))) := by
          rw [octets_Small (by omega) (by omega) hb (by omega), if_pos (by omega)]
          rfl
        have h2 : IntKind.wrap .u64 (IntKind.wrap .i64 ((64 : Int) - (IntKind.wrap .i64 ((8 : Int) * (k : Int))))) = ((64 - 8 * k : Nat) : Int) := by
          rw [wrap64 (n := (8 : Int) * (k : Int)) (by omega), wrap64 (by omega), wrapu64 (by omega), Int.ofNat_sub (by omega)]; rfl
        have h3 : decide (((64 - 8 * k : Nat) : Int) < 0) = false := by simp
        have h5 : lim (List.length ((List.range i).map (group k c)) + 1) = true := lim_of (by rw [List.length_map, List.length_range]; omega)
        have hfit : F_kinoraref2_Fits (sgn k (leN (sl c (i * k) k)), ((8 * k : Nat) : Int)) = some true := by
          rw [ref2_Fits]
          exact congrArg some (sgn_fit hk hlt)
        simp only [F_kinoraref2_Unpack_l0, octets_Left (l := c) (p := i * k) (by omega) (by omega), Option.bind_some, h1, cond_true, hs, h2, h3, cond_false, sgn_shift hk hlt, hfit, Bool.not_true, h5, List.range_succ, List.map_append, Nat.succ_mul i k]
        rfl) (by
        have h1 : decide (((c.length - n * k : Nat) : Int) > (0 : Int)) = false := by rw [hnk]; simp
        simp only [F_kinoraref2_Unpack_l0, octets_Left (l := c) (p := n * k) (by omega) (by omega), Option.bind_some, h1]
        rfl)
      rw [Nat.zero_mul] at this
      rw [samplesOf, ← hn]
      exact this
    rw [hL]; rfl
  · have e6 : (((c.length % k : Nat) : Int) != 0) = true := by
      simp only [bne_iff_ne, ne_eq]; omega
    rw [e6, if_neg hm]; rfl

end Go.Ab

/- Plain lemmas: a wave's data, parsed. Conditions: as each lemma states. -/
namespace Go.Ab

def parseD (c : List Int) (f : Fmt) : List Int × Int :=
  if Int.tmod (c.length : Int) (frameOf f) ≠ 0 then ([], 3)
  else if f.2.2.1 = 8 then (c.map (fun x => x - 128), 0)
  else (samplesOf (f.2.2.1 / 8).toNat c, 0)

theorem frame_nat {f : Fmt} (h : waveOk f = true) : ∃ c k : Nat, 1 ≤ c ∧ 1 ≤ k ∧ k ≤ 3 ∧ f.2.1 = (c : Int) ∧ f.2.2.1 = ((8 * k : Nat) : Int) ∧ frameOf f = ((c * k : Nat) : Int) ∧ (f.2.2.1 / 8).toNat = k := by
  obtain ⟨-, hb, hc⟩ := waveOk_right h
  obtain ⟨k, hk⟩ : ∃ k : Nat, k = (f.2.2.1 / 8).toNat := ⟨_, rfl⟩
  obtain ⟨c, hc'⟩ : ∃ c : Nat, f.2.1 = (c : Int) := ⟨f.2.1.toNat, by omega⟩
  have hbk : f.2.2.1 = ((8 * k : Nat) : Int) := by omega
  refine ⟨c, k, by omega, by omega, by omega, hc', hbk, ?_, hk.symm⟩
  unfold frameOf
  rw [hc', hbk, show ((c : Int) * ((8 * k : Nat) : Int)) = (((c * k) * 8 : Nat) : Int) from by
    rw [Nat.mul_assoc, Nat.mul_comm k 8]
    exact (Int.natCast_mul c (8 * k)).symm]
  omega

theorem wave_parseData {c : List Int} (hb : Bytes c) (hc : c.length < 100000) {f : Fmt} (hf : waveOk f = true) : F_wave_parseData (c, f) = some (parseD c f) := by
  obtain ⟨ch, k, h1, h2, h3, hch, hbk, hfr, hk⟩ := frame_nat hf
  obtain ⟨q1, -, -, -, -, -⟩ := frame_eq (waveOk_right hf).1
  have hpos : 1 ≤ ch * k := Nat.mul_pos h1 h2
  have e0 : (frameOf f == 0) = false := by simp only [beq_eq_false_iff_ne, ne_eq]; omega
  simp only [F_wave_parseData, q1, e0, cond_false, few (show 1 ≤ frameOf f by omega) (show c.length ≤ 100000 by omega), parseD]
  by_cases hm : Int.tmod (c.length : Int) (frameOf f) = 0
  · have e2 : (Int.tmod (c.length : Int) (frameOf f) != 0) = false := by simpa using hm
    rw [e2, if_neg (by simpa using hm)]
    simp only [cond_false]
    by_cases h8 : f.2.2.1 = 8
    · have e3 : (f.2.2.1 != 8) = false := by simpa using h8
      have e4 : (decide ((0 : Int) ≤ ((List.length c : Nat) : Int)) && lim (Int.toNat ((List.length c : Nat) : Int))) = true := by
        rw [Int.toNat_natCast, lim_of (by omega)]; simp
      rw [e3, if_pos h8, e4]
      simp only [cond_false, cond_true]
      have hL : iter F_wave_parseData_l0 (c, (((List.length c : Nat) : Int), ((0 : Int), (([] : List Int), ())))) = some (c.map (fun x => x - 128), ()) :=
        iter_count (f := F_wave_parseData_l0) (fun i => (c, (((List.length c : Nat) : Int), ((i : Int), ((c.take i).map (fun x => x - 128), ()))))) c.length (fun i hi => by
          simp only [F_wave_parseData_l0]
          have g1 : decide ((i : Int) < ((List.length c : Nat) : Int)) = true := by simp; omega
          have g4 : IntKind.wrap .i64 ((i : Int) + 1) = ((i + 1 : Nat) : Int) := wrap64 (by omega)
          have hx := hb _ (List.getElem_mem hi)
          have g5 : lim (List.length ((c.take i).map (fun x => x - 128)) + 1) = true := lim_of (by rw [List.length_map, List.length_take]; omega)
          rw [g1, gidx_of c hi]
          simp only [cond_true, Option.bind_some, g4, g5, map_take c hi, wrap64 (n := c[i]) (by omega), wrap64 (n := c[i] - 128) (by omega)]
          rfl) (by
          simp only [F_wave_parseData_l0]
          have g1 : decide ((c.length : Int) < ((List.length c : Nat) : Int)) = false := by simp
          rw [g1, List.take_length]; rfl)
      rw [hL]; rfl
    · have e3 : (f.2.2.1 != 8) = true := by simpa using h8
      have hmk : c.length % k = 0 := by
        rw [hfr] at hm
        have hm' : c.length % (ch * k) = 0 := by
          have : Int.tmod (c.length : Int) ((ch * k : Nat) : Int) = ((c.length % (ch * k) : Nat) : Int) := rfl
          rw [this] at hm; omega
        exact Nat.mod_eq_zero_of_dvd (Nat.dvd_trans ⟨ch, Nat.mul_comm _ _⟩ (Nat.dvd_of_mod_eq_zero hm'))
      rw [e3, if_neg h8, cond_true, hk, hbk, sample_Unpack hb hc ⟨h2, h3⟩, if_pos hmk]
      rfl
  · have e2 : (Int.tmod (c.length : Int) (frameOf f) != 0) = true := by simpa using hm
    rw [e2, if_pos hm]; rfl

theorem ref19_samples {c : List Int} (hb : Bytes c) (hc : c.length < 100000) {f : Fmt} (hf : waveOk f = true) : F_kinoraref19_samples (c, f) = some (parseD c f) := by
  obtain ⟨ch, k, h1, h2, h3, hch, hbk, hfr, hk⟩ := frame_nat hf
  obtain ⟨q1, -, -, -, -, -⟩ := frame_eq (waveOk_right hf).1
  have hpos : 1 ≤ ch * k := Nat.mul_pos h1 h2
  have e0 : (frameOf f == 0) = false := by simp only [beq_eq_false_iff_ne, ne_eq]; omega
  simp only [F_kinoraref19_samples, q1, e0, cond_false, few (show 1 ≤ frameOf f by omega) (show c.length ≤ 100000 by omega), parseD]
  by_cases hm : Int.tmod (c.length : Int) (frameOf f) = 0
  · have e2 : (Int.tmod (c.length : Int) (frameOf f) != 0) = false := by simpa using hm
    rw [e2, if_neg (by simpa using hm)]
    simp only [cond_false]
    by_cases h8 : f.2.2.1 = 8
    · have e3 : decide (f.2.2.1 > 8) = false := by simp; omega
      rw [e3, if_pos h8]
      simp only [cond_false]
      have hL : iter F_kinoraref19_samples_l0 (c, ((0 : Int), (([] : List Int), ()))) = some (c.map (fun x => x - 128), ()) :=
        iter_count (f := F_kinoraref19_samples_l0) (fun i => (c, ((i : Int), ((c.take i).map (fun x => x - 128), ())))) c.length (fun i hi => by
          simp only [F_kinoraref19_samples_l0]
          have g1 : decide ((i : Int) < ((List.length c : Nat) : Int)) = true := by simp; omega
          have g4 : IntKind.wrap .i64 ((i : Int) + 1) = ((i + 1 : Nat) : Int) := wrap64 (by omega)
          have hx := hb _ (List.getElem_mem hi)
          have g5 : lim (List.length ((c.take i).map (fun x => x - 128)) + 1) = true := lim_of (by rw [List.length_map, List.length_take]; omega)
          rw [g1, gidx_of c hi]
          simp only [cond_true, Option.bind_some, g4, g5, map_take c hi, wrap64 (n := c[i]) (by omega), wrap64 (n := c[i] - 128) (by omega)]
          rfl) (by
          simp only [F_kinoraref19_samples_l0]
          have g1 : decide ((c.length : Int) < ((List.length c : Nat) : Int)) = false := by simp
          rw [g1, List.take_length]; rfl)
      rw [hL]; rfl
    · have e3 : decide (f.2.2.1 > 8) = true := by simp; omega
      have hmk : c.length % k = 0 := by
        rw [hfr] at hm
        have hm' : c.length % (ch * k) = 0 := by
          have : Int.tmod (c.length : Int) ((ch * k : Nat) : Int) = ((c.length % (ch * k) : Nat) : Int) := rfl
          rw [this] at hm; omega
        exact Nat.mod_eq_zero_of_dvd (Nat.dvd_trans ⟨ch, Nat.mul_comm _ _⟩ (Nat.dvd_of_mod_eq_zero hm'))
      rw [e3, if_neg h8, cond_true, hk, hbk, ref2_Unpack hb hc ⟨h2, h3⟩, if_pos hmk]
      rfl
  · have e2 : (Int.tmod (c.length : Int) (frameOf f) != 0) = true := by simpa using hm
    rw [e2, if_pos hm]; rfl

end Go.Ab

/- Plain lemmas: a wave, parsed chunk by chunk. Conditions: as each lemma states. -/
namespace Go.Ab

@[reducible] def PSt := List Int × (Bool × (Bool × (Fmt × List Int)))

/-- One chunk. -/
def chunkStep (l : List Int) (hf hd : Bool) (f : Fmt) (rest : List Int) : PSt ⊕ Int :=
  if rest.length < 8 then .inr 3
  else if rest.length - 8 < leN (sl rest 4 4) + leN (sl rest 4 4) % 2 then .inr 3
  else if b2s (sl rest 0 4) = [102, 109, 116, 32] then
    (if hf = true then .inr 8 else if (parseF (sl rest 8 (leN (sl rest 4 4)))).2 = false then .inr 2
      else .inl (l, (true, (hd, ((parseF (sl rest 8 (leN (sl rest 4 4)))).1, rest.drop (8 + leN (sl rest 4 4) + leN (sl rest 4 4) % 2))))))
  else if b2s (sl rest 0 4) = [100, 97, 116, 97] then
    (if hf = false then .inr 12 else if hd = true then .inr 8 else if (parseD (sl rest 8 (leN (sl rest 4 4))) f).2 ≠ 0 then .inr (parseD (sl rest 8 (leN (sl rest 4 4))) f).2
      else .inl ((parseD (sl rest 8 (leN (sl rest 4 4))) f).1, (hf, (true, (f, rest.drop (8 + leN (sl rest 4 4) + leN (sl rest 4 4) % 2))))))
  else .inl (l, (hf, (hd, (f, rest.drop (8 + leN (sl rest 4 4) + leN (sl rest 4 4) % 2)))))

def loopP : Nat → PSt → (List Int × (Bool × (Bool × Fmt))) ⊕ Int
  | 0, _ => .inr 0
  | n + 1, (l, (hf, (hd, (f, rest)))) => if rest = [] then .inl (l, (hf, (hd, f))) else match chunkStep l hf hd f rest with
    | .inr e => .inr e
    | .inl s => loopP n s

theorem parseF_ok (b : List Int) : (parseF b).2 = true → waveOk (parseF b).1 = true := by
  unfold parseF
  split
  · rename_i h
    intro _
    simp only [fmtOk, Bool.and_eq_true] at h
    exact h.2.2.1
  · intro h; cases h

theorem wave_l0 {l : List Int} {hf hd : Bool} {f z : Fmt} {rest : List Int} (hb : Bytes rest) (hl : rest.length < 100000) (hok : hf = true → waveOk f = true) (hne : rest ≠ []) :
    F_wave_Parse_l0 (l, (hf, (hd, (rest, (z, (f, ())))))) = some (match chunkStep l hf hd f rest with
      | .inl (l', (hf', (hd', (f', rest')))) => .inl (l', (hf', (hd', (rest', (z, (f', ()))))))
      | .inr e => .inr (.inr ([], (e, (zeroF, ()))))) := by
  have hpos : 0 < rest.length := List.length_pos_iff.2 hne
  have e0 : decide (((List.length rest : Nat) : Int) > (0 : Int)) = true := by simp; omega
  simp only [F_wave_Parse_l0, drop_take_sl, e0, cond_true, chunkStep]
  by_cases h8 : rest.length < 8
  · have e1 : decide (((List.length rest : Nat) : Int) < (8 : Int)) = true := by simp; omega
    rw [e1, if_pos h8]; rfl
  · have e1 : decide (((List.length rest : Nat) : Int) < (8 : Int)) = false := by simp; omega
    have e2 : decide ((8 : Int) ≤ ((List.length rest : Nat) : Int)) = true := by simp; omega
    rw [e1, if_neg h8, e2]
    simp only [cond_false, cond_true, number_sl hb 4 (show 8 - 4 ≤ 4 by decide), Option.bind_some]
    obtain ⟨n, hn⟩ : ∃ n, n = leN (sl rest 4 4) := ⟨_, rfl⟩
    have hn4 := sl_lt4 hb 4 (show 4 ≤ 4 by decide)
    have hn' : leN (sl rest 4 (8 - 4)) = n := hn.symm
    rw [← hn] at hn4
    rw [hn']
    have w1 : IntKind.wrap .i64 (((List.length rest : Nat) : Int) - (8 : Int)) = ((rest.length - 8 : Nat) : Int) := by rw [wrap64 (by omega)]; omega
    have w0 : Int.tmod (n : Int) 2 = ((n % 2 : Nat) : Int) := rfl
    have w2 : IntKind.wrap .i64 ((n : Int) + ((n % 2 : Nat) : Int)) = ((n + n % 2 : Nat) : Int) := by rw [wrap64 (by omega)]; omega
    have w3 : IntKind.wrap .i64 ((8 : Int) + (n : Int)) = ((8 + n : Nat) : Int) := by rw [wrap64 (by omega)]; omega
    have w4 : IntKind.wrap .i64 (((8 + n : Nat) : Int) + ((n % 2 : Nat) : Int)) = ((8 + n + n % 2 : Nat) : Int) := by rw [wrap64 (by omega)]; omega
    simp only [w0, w1, w2, w3, w4, Int.toNat_natCast]
    by_cases hs : rest.length - 8 < n + n % 2
    · have e3 : decide (((rest.length - 8 : Nat) : Int) < ((n + n % 2 : Nat) : Int)) = true := by simp only [decide_eq_true_eq]; omega
      rw [e3, if_pos hs]; rfl
    · have e3 : decide (((rest.length - 8 : Nat) : Int) < ((n + n % 2 : Nat) : Int)) = false := by simp only [decide_eq_false_iff_not]; omega
      have e4 : decide ((4 : Int) ≤ ((List.length rest : Nat) : Int)) = true := by simp; omega
      have e5 : (decide ((0 : Int) ≤ ((8 + n : Nat) : Int)) && decide (((8 + n : Nat) : Int) ≤ ((List.length rest : Nat) : Int))) = true := by
        simp only [Bool.and_eq_true, decide_eq_true_eq]; omega
      have e6 : decide ((8 : Int) ≤ ((8 + n : Nat) : Int)) = true := by simp only [decide_eq_true_eq]; omega
      have e7 : (decide ((0 : Int) ≤ ((8 + n + n % 2 : Nat) : Int)) && decide (((8 + n + n % 2 : Nat) : Int) ≤ ((List.length rest : Nat) : Int))) = true := by
        simp only [Bool.and_eq_true, decide_eq_true_eq]; omega
      have hc : ∀ j, sl rest 8 (8 + j - 8) = sl rest 8 j := fun j => by rw [Nat.add_sub_cancel_left]
      have hd8 : sl rest (8 + n + n % 2) (List.length rest - (8 + n + n % 2)) = rest.drop (8 + n + n % 2) := by
        unfold sl; rw [List.take_of_length_le (by rw [List.length_drop]; omega)]
      rw [e3, if_neg hs, e4, e5, e6, e7]
      simp only [cond_true, cond_false, hc, hd8, take_sl]
      have hcb := sl_bytes hb 8 n
      have hcl : (sl rest 8 n).length < 100000 := by
        unfold sl; rw [List.length_take, List.length_drop]; omega
      by_cases hF : b2s (sl rest 0 4) = [102, 109, 116, 32]
      · have c1 : (b2s (sl rest 0 4) == ([102, 109, 116, 32] : List Int)) = true := by simpa using hF
        rw [c1, if_pos hF]
        simp only [cond_true]
        cases hf with
        | true => rfl
        | false =>
          simp only [cond_false, wave_parseFormat hcb, Option.bind_some]
          cases hp : (parseF (sl rest 8 n)).2 <;> rfl
      · have c1 : (b2s (sl rest 0 4) == ([102, 109, 116, 32] : List Int)) = false := by simpa using hF
        rw [c1, if_neg hF]
        simp only [cond_false]
        by_cases hD : b2s (sl rest 0 4) = [100, 97, 116, 97]
        · have c2 : (b2s (sl rest 0 4) == ([100, 97, 116, 97] : List Int)) = true := by simpa using hD
          rw [c2, if_pos hD]
          simp only [cond_true]
          cases hf with
          | false => rfl
          | true =>
            simp only [Bool.not_true, cond_false]
            cases hd with
            | true => rfl
            | false =>
              simp only [cond_false, wave_parseData hcb hcl (hok rfl), Option.bind_some]
              rw [if_neg (show ¬ (true = false) by decide), if_neg (show ¬ (false = true) by decide)]
              by_cases he : (parseD (sl rest 8 n) f).2 = 0
              · have c3 : ((parseD (sl rest 8 n) f).2 != 0) = false := by simpa using he
                rw [c3, if_neg (by simp [he])]; rfl
              · have c3 : ((parseD (sl rest 8 n) f).2 != 0) = true := by simpa using he
                rw [c3, if_pos he]; rfl
        · have c2 : (b2s (sl rest 0 4) == ([100, 97, 116, 97] : List Int)) = false := by simpa using hD
          rw [c2, if_neg hD]; rfl

end Go.Ab

/- Plain lemmas: a wave, parsed. Conditions: as each lemma states. -/
namespace Go.Ab

theorem chunkStep_inl {l : List Int} {hf hd : Bool} {f : Fmt} {rest : List Int} {s : PSt} (h : chunkStep l hf hd f rest = .inl s) (hok : hf = true → waveOk f = true) :
    8 ≤ rest.length ∧ (∃ m, 8 ≤ m ∧ s.2.2.2.2 = rest.drop m) ∧ (s.2.1 = true → waveOk s.2.2.2.1 = true) := by
  unfold chunkStep at h
  split at h
  · cases h
  · rename_i h8
    refine ⟨by omega, ?_⟩
    split at h
    · cases h
    · split at h
      · split at h
        · cases h
        · split at h
          · cases h
          · rename_i hp
            simp only [Sum.inl.injEq] at h
            subst h
            exact ⟨⟨_, by omega, rfl⟩, fun _ => parseF_ok _ (by simpa using hp)⟩
      · split at h
        · split at h
          · cases h
          · split at h
            · cases h
            · split at h
              · cases h
              · simp only [Sum.inl.injEq] at h
                subst h
                exact ⟨⟨_, by omega, rfl⟩, hok⟩
        · simp only [Sum.inl.injEq] at h
          subst h
          exact ⟨⟨_, by omega, rfl⟩, hok⟩

theorem wave_loop : ∀ (n : Nat) (l : List Int) (hf hd : Bool) (f z : Fmt) (rest : List Int), rest.length < n → rest.length < 100000 → Bytes rest → (hf = true → waveOk f = true) →
    iter F_wave_Parse_l0 (l, (hf, (hd, (rest, (z, (f, ())))))) = some (match loopP n (l, (hf, (hd, (f, rest)))) with
      | .inl (l', (hf', (hd', f'))) => .inl (l', (hf', (hd', (z, (f', ())))))
      | .inr e => .inr ([], (e, (zeroF, ()))))
  | 0, _, _, _, _, _, _, h, _, _, _ => by omega
  | n + 1, l, hf, hd, f, z, rest, h, hl, hb, hok => by
    by_cases hne : rest = []
    · subst hne
      simp only [loopP, if_true]
      exact iter_done rfl
    · simp only [loopP, if_neg hne]
      have hs := wave_l0 (l := l) (hf := hf) (hd := hd) (f := f) (z := z) hb hl hok hne
      cases hc : chunkStep l hf hd f rest with
      | inr e =>
        rw [hc] at hs
        exact iter_done hs
      | inl s =>
        obtain ⟨l', hf', hd', f', rest'⟩ := s
        rw [hc] at hs
        rw [iter_step hs]
        obtain ⟨h8, ⟨m, hm, hr⟩, hok'⟩ := chunkStep_inl hc hok
        simp only [] at hr hok'
        have hlen : rest'.length < n := by rw [hr, List.length_drop]; omega
        have hlen2 : rest'.length < 100000 := by rw [hr, List.length_drop]; omega
        exact wave_loop n l' hf' hd' f' z rest' hlen hlen2 (fun b hb' => hb b (by rw [hr] at hb'; exact List.mem_of_mem_drop hb')) hok'

def parsed (x : List Int) : Fmt × (List Int × Int) :=
  if x.length < 12 then (zeroF, ([], 3))
  else if b2s (sl x 0 4) ≠ [82, 73, 70, 70] ∨ b2s (sl x 8 4) ≠ [87, 65, 86, 69] ∨ leN (sl x 4 4) < 4 then (zeroF, ([], 2))
  else if x.length - 8 < leN (sl x 4 4) then (zeroF, ([], 3))
  else match loopP x.length ([], (false, (false, (zeroF, sl x 12 (leN (sl x 4 4) - 4))))) with
    | .inr e => (zeroF, ([], e))
    | .inl (l, (hf, (hd, f))) => if hf = true ∧ hd = true then (f, (l, 0)) else (zeroF, ([], 7))

theorem wave_Parse {x : List Int} (hb : Bytes x) (hl : x.length < 100000) : F_wave_Parse x = some (parsed x) := by
  simp only [F_wave_Parse, drop_take_sl, parsed]
  by_cases h12 : x.length < 12
  · have e1 : decide (((List.length x : Nat) : Int) < (12 : Int)) = true := by simp; omega
    rw [e1, if_pos h12]; rfl
  · have e1 : decide (((List.length x : Nat) : Int) < (12 : Int)) = false := by simp; omega
    have e2 : decide ((8 : Int) ≤ ((List.length x : Nat) : Int)) = true := by simp; omega
    have e3 : decide ((4 : Int) ≤ ((List.length x : Nat) : Int)) = true := by simp; omega
    have e4 : decide ((12 : Int) ≤ ((List.length x : Nat) : Int)) = true := by simp; omega
    obtain ⟨n, hn⟩ : ∃ n, n = leN (sl x 4 4) := ⟨_, rfl⟩
    have hn4 := sl_lt4 hb 4 (show 4 ≤ 4 by decide)
    have hnum : F_wave_number (sl x 4 (8 - 4)) = some (n : Int) := by rw [hn]; exact number_sl hb 4 (by decide)
    rw [← hn] at hn4
    rw [e1, if_neg h12, e2]
    simp only [cond_false, cond_true, hnum, Option.bind_some, e3, e4, ← hn, take_sl]
    by_cases hR : b2s (sl x 0 4) = [82, 73, 70, 70]
    · have c1 : (b2s (sl x 0 4) != ([82, 73, 70, 70] : List Int)) = false := by simpa using hR
      rw [c1]
      simp only [cond_false]
      by_cases hW : b2s (sl x 8 4) = [87, 65, 86, 69]
      · have c2 : (b2s (sl x 8 (12 - 8)) != ([87, 65, 86, 69] : List Int)) = false := by simpa using hW
        rw [c2]
        simp only [cond_false, Option.bind_some]
        by_cases h4 : n < 4
        · have c3 : decide ((n : Int) < 4) = true := by simp only [decide_eq_true_eq]; omega
          rw [c3, if_pos (.inr (.inr h4))]; rfl
        · have c3 : decide ((n : Int) < 4) = false := by simp only [decide_eq_false_iff_not]; omega
          rw [c3, if_neg (fun h => h.elim (fun h => h hR) fun h => h.elim (fun h => h hW) h4)]
          have w1 : IntKind.wrap .i64 (((List.length x : Nat) : Int) - (8 : Int)) = ((x.length - 8 : Nat) : Int) := by rw [wrap64 (by omega)]; omega
          have w3 : IntKind.wrap .i64 ((8 : Int) + (n : Int)) = ((8 + n : Nat) : Int) := by rw [wrap64 (by omega)]; omega
          simp only [cond_false, w1, w3, Int.toNat_natCast]
          by_cases hs : x.length - 8 < n
          · have c4 : decide (((x.length - 8 : Nat) : Int) < (n : Int)) = true := by simp only [decide_eq_true_eq]; omega
            rw [c4, if_pos hs]; rfl
          · have c4 : decide (((x.length - 8 : Nat) : Int) < (n : Int)) = false := by simp only [decide_eq_false_iff_not]; omega
            have c5 : (decide ((0 : Int) ≤ ((8 + n : Nat) : Int)) && decide (((8 + n : Nat) : Int) ≤ ((List.length x : Nat) : Int))) = true := by
              simp only [Bool.and_eq_true, decide_eq_true_eq]; omega
            have c6 : decide ((12 : Int) ≤ ((8 + n : Nat) : Int)) = true := by simp only [decide_eq_true_eq]; omega
            rw [c4, if_neg hs, c5, c6]
            simp only [cond_false, cond_true]
            have hr : sl x 12 (8 + n - 12) = sl x 12 (n - 4) := by congr 1; omega
            have hlen : (sl x 12 (n - 4)).length < x.length := by
              unfold sl; rw [List.length_take, List.length_drop]; omega
            have hL := wave_loop x.length [] false false zeroF zeroF (sl x 12 (n - 4)) hlen (by omega) (sl_bytes hb _ _) (by simp)
            rw [hr]
            unfold zeroF at hL ⊢
            rw [hL]
            simp only [Option.bind_some]
            generalize loopP x.length _ = r
            cases r with
            | inr e => rfl
            | inl s =>
              obtain ⟨l, hf, hd, f⟩ := s
              cases hf <;> cases hd <;> rfl
      · have c2 : (b2s (sl x 8 (12 - 8)) != ([87, 65, 86, 69] : List Int)) = true := by simpa using hW
        rw [c2, if_pos (.inr (.inl hW))]; rfl
    · have c1 : (b2s (sl x 0 4) != ([82, 73, 70, 70] : List Int)) = true := by simpa using hR
      rw [c1, if_pos (.inl hR)]; rfl

end Go.Ab

/- Plain lemmas: the known wave; the law WavePrints. Conditions: as each lemma states. -/
namespace Go.Ab

theorem sameInts (l : List Int) (hl : l.length < 1000000) : F_kinoraref2_SameInts (l, l) = some true := by
  simp only [F_kinoraref2_SameInts]
  have e : (((List.length l : Nat) : Int) != ((List.length l : Nat) : Int)) = false := by simp
  rw [e]
  have hL : iter F_kinoraref2_SameInts_l0 (l, (l, ((0 : Int), ()))) = some (.inl ()) :=
    iter_count (f := F_kinoraref2_SameInts_l0) (fun i => (l, (l, ((i : Int), ())))) l.length (fun i hi => by
      simp only [F_kinoraref2_SameInts_l0]
      have h1 : decide ((i : Int) < ((List.length l : Nat) : Int)) = true := by simp; omega
      have h4 : IntKind.wrap .i64 ((i : Int) + 1) = ((i + 1 : Nat) : Int) := wrap64 (by omega)
      have h5 : (l[i] != l[i]) = false := by simp
      rw [h1, gidx_of l hi, h4]
      simp only [cond_true, Option.bind_some, h5]
      rfl) (by
      simp only [F_kinoraref2_SameInts_l0]
      have h1 : decide ((l.length : Int) < ((List.length l : Nat) : Int)) = false := by simp
      rw [h1]; rfl)
  rw [hL]; rfl

def knownB : List Int := (printed (8000, (1, (8, ()))) [-128, 1]).1

theorem law18_known : F_kinoralaw18_known () = some true := by
  have h1 : F_wave_Print (((8000 : Int), ((1 : Int), ((8 : Int), ()))), ([(-128 : Int), (1 : Int)] : List Int)) = some (knownB, 0) := by
    rw [wave_Print _ (by decide)]
    exact congrArg some (Prod.ext rfl (by decide +kernel))
  have hb : Bytes knownB := by
    have : knownB.all (fun b => decide (0 ≤ b ∧ b < 256)) = true := by decide +kernel
    intro b hb
    simpa using List.all_eq_true.1 this b hb
  have h2 : F_wave_Parse knownB = some ((8000, (1, (8, ()))), ([-128, 1], 0)) := by
    rw [wave_Parse hb (by decide +kernel)]
    exact congrArg some (by decide +kernel)
  simp only [F_kinoralaw18_known, h1, h2, Option.bind_some]
  have e1 : ((List.length knownB : Nat) : Int) = 46 := by decide +kernel
  have e2 : (b2s (List.drop 44 (List.take (List.length knownB) knownB)) == ([0, 129] : List Int)) = true := by decide +kernel
  rw [e2, e1, sameInts _ (by decide)]
  rfl

theorem law_WavePrints (f : Fmt) (l : List Int) : F_kinoralaw18_WavePrints (f, l) = some true := by
  simp only [F_kinoralaw18_WavePrints, law18_known, Option.bind_some, Bool.not_true, cond_false]
  by_cases h : l.length > 500
  · have e : decide (((List.length l : Nat) : Int) > (500 : Int)) = true := by simp; omega
    rw [e]; rfl
  · have e : decide (((List.length l : Nat) : Int) > (500 : Int)) = false := by simp; omega
    rw [e]
    simp only [cond_false, wave_Print f (show l.length ≤ 100000 by omega), ref19_WavePrint f (show l.length ≤ 100000 by omega), Option.bind_some, F_kinoraref2_Same]
    simp

end Go.Ab

/- Plain lemmas: the reference's parse of a wave; the law WaveParses. Conditions: as each lemma states. -/
namespace Go.Ab

theorem octets_Small_bad {l : List Int} {p : Int} {e k : Int} (he : e ≠ 0) : F_kinoraref2_Octets_Small ((l, (p, (e, ()))), k) = some (0, (l, (p, (e, ())))) := by
  simp only [F_kinoraref2_Octets_Small, octets_Take_bad he, Option.bind_some]
  have := octets_sum (l := []) (by simp) (fun b hb' => by simp at hb') (l, (p, (e, ())))
  rw [this]; rfl

theorem drop_sl (l : List Int) (p a n : Nat) : ((l.drop (p + a)).take n) = sl (l.drop p) a n := by
  unfold sl; rw [List.drop_drop]

theorem ref_l0 {l : List Int} {hf hd : Bool} {f z : Fmt} {b : List Int} {p : Nat} (hb : Bytes b) (hl : b.length < 100000) (hp : p ≤ b.length) (hok : hf = true → waveOk f = true) (hne : b.drop p ≠ []) :
    (∃ e, chunkStep l hf hd f (b.drop p) = .inr e ∧ F_kinoraref19_WaveParse_l0 (l, (hf, (hd, (z, ((b, ((p : Int), ((0 : Int), ()))), (f, ())))))) = some (.inr (.inr ([], (e, (zeroF, ())))))) ∨
    (∃ l' hf' hd' f' q, p < q ∧ q ≤ b.length ∧ chunkStep l hf hd f (b.drop p) = .inl (l', (hf', (hd', (f', b.drop q)))) ∧
      F_kinoraref19_WaveParse_l0 (l, (hf, (hd, (z, ((b, ((p : Int), ((0 : Int), ()))), (f, ())))))) = some (.inl (l', (hf', (hd', (z, ((b, ((q : Int), ((0 : Int), ()))), (f', ())))))))) := by
  have hpos : 0 < (b.drop p).length := List.length_pos_iff.2 hne
  rw [List.length_drop] at hpos
  have e0 : decide (((b.length - p : Nat) : Int) > (0 : Int)) = true := by simp only [decide_eq_true_eq]; omega
  have hbd : Bytes (b.drop p) := fun x hx => hb x (List.mem_of_mem_drop hx)
  have e3n : ((3 : Int) != (0 : Int)) = true := rfl
  have L0 := octets_Left (l := b) (p := p) (e := ((0 : Int), ())) (by omega) hp
  have T4 := octets_Take (l := b) (p := p) (n := 4) (by omega) (by decide) hp
  have bad4 : ∀ (e : Int × Unit), True := fun _ => trivial
  simp only [F_kinoraref19_WaveParse_l0, L0, Option.bind_some, e0, cond_true]
  rw [show ((4 : Nat) : Int) = 4 from rfl] at T4
  simp only [T4, Option.bind_some]
  have hlenr : (b.drop p).length = b.length - p := List.length_drop
  by_cases h8 : b.length - p < 8
  · refine .inl ⟨3, ?_, ?_⟩
    · simp only [chunkStep, hlenr, if_pos h8]
    · by_cases h4 : 4 ≤ b.length - p
      · have S4 := octets_Small (l := b) (p := p + 4) (k := 4) (by omega) (by decide) hb (by omega)
        rw [if_neg (by omega)] at S4
        rw [show ((4 : Nat) : Int) = 4 from rfl] at S4
        simp only [if_pos h4, S4, Option.bind_some, octets_Take_bad (show (3 : Int) ≠ 0 by decide), e3n, cond_true]
        rfl
      · simp only [if_neg h4, octets_Small_bad (show (3 : Int) ≠ 0 by decide), Option.bind_some, octets_Take_bad (show (3 : Int) ≠ 0 by decide), e3n, cond_true]
        rfl
  · have h4 : 4 ≤ b.length - p := by omega
    have S4 := octets_Small (l := b) (p := p + 4) (k := 4) (by omega) (by decide) hb (by omega)
    rw [if_pos (by omega), show ((4 : Nat) : Int) = 4 from rfl, drop_sl] at S4
    obtain ⟨n, hn⟩ : ∃ n, n = leN (sl (b.drop p) 4 4) := ⟨_, rfl⟩
    have hn4 := sl_lt4 hbd 4 (show 4 ≤ 4 by decide)
    rw [← hn] at hn4 S4
    have w0 : IntKind.wrap .i64 (n : Int) = (n : Int) := wrap64 (by omega)
    have w1 : Int.tmod (n : Int) 2 = ((n % 2 : Nat) : Int) := rfl
    have Tn := octets_Take (l := b) (p := p + 4 + 4) (n := n) (by omega) (by omega) (by omega)
    simp only [if_pos h4, S4, Option.bind_some, w0, w1, Tn]
    by_cases hs : b.length - p - 8 < n + n % 2
    · refine .inl ⟨3, ?_, ?_⟩
      · simp only [chunkStep, hlenr, if_neg h8, ← hn, if_pos hs]
      · by_cases hnn : n ≤ b.length - (p + 4 + 4)
        · have To := octets_Take (l := b) (p := p + 4 + 4 + n) (n := n % 2) (by omega) (by omega) (by omega)
          rw [if_neg (by omega)] at To
          simp only [if_pos hnn, To, Option.bind_some, e3n, cond_true]
          rfl
        · simp only [if_neg hnn, octets_Take_bad (show (3 : Int) ≠ 0 by decide), Option.bind_some, e3n, cond_true]
          rfl
    · have hnn : n ≤ b.length - (p + 4 + 4) := by omega
      have To := octets_Take (l := b) (p := p + 4 + 4 + n) (n := n % 2) (by omega) (by omega) (by omega)
      rw [if_pos (by omega)] at To
      have ez : ((0 : Int) != (0 : Int)) = false := rfl
      have c0 : List.take 4 (List.drop p b) = sl (b.drop p) 0 4 := take_sl _ _
      have c8 : List.take n (List.drop (p + 4 + 4) b) = sl (b.drop p) 8 n := by rw [show p + 4 + 4 = p + 8 from by omega, drop_sl]
      have hcb := sl_bytes hbd 8 n
      have hcl : (sl (b.drop p) 8 n).length < 100000 := by
        have := List.length_take_le n (List.drop 8 (b.drop p))
        have := sl_le (x := b.drop p) 8 n
        unfold sl; rw [List.length_take, List.length_drop, List.length_drop]; omega
      have hq : (b.drop p).drop (8 + n + n % 2) = b.drop (p + 4 + 4 + n + n % 2) := by
        rw [List.drop_drop]; congr 1; omega
      have hqn : (((p + 4 + 4 + n + n % 2 : Nat) : Int)) = ((p + 4 + 4 + n + n % 2 : Nat) : Int) := rfl
      simp only [if_pos hnn, To, Option.bind_some, ez, cond_false, c0, c8, ref19_format hcb (by omega : _ < 1000000), chunkStep, hlenr, if_neg h8, ← hn, if_neg hs, hq]
      by_cases hF : b2s (sl (b.drop p) 0 4) = [102, 109, 116, 32]
      · have c1 : (b2s (sl (b.drop p) 0 4) == ([102, 109, 116, 32] : List Int)) = true := by simpa using hF
        rw [c1, if_pos hF]
        simp only [cond_true]
        cases hf with
        | true => exact .inl ⟨8, rfl, rfl⟩
        | false =>
          simp only [cond_false]
          cases hpf : (parseF (sl (b.drop p) 8 n)).2 with
          | false => exact .inl ⟨2, rfl, rfl⟩
          | true => exact .inr ⟨_, _, _, _, p + 4 + 4 + n + n % 2, by omega, by omega, rfl, rfl⟩
      · have c1 : (b2s (sl (b.drop p) 0 4) == ([102, 109, 116, 32] : List Int)) = false := by simpa using hF
        rw [c1, if_neg hF]
        simp only [cond_false]
        by_cases hD : b2s (sl (b.drop p) 0 4) = [100, 97, 116, 97]
        · have c2 : (b2s (sl (b.drop p) 0 4) == ([100, 97, 116, 97] : List Int)) = true := by simpa using hD
          rw [c2, if_pos hD]
          simp only [cond_true]
          cases hf with
          | false => exact .inl ⟨12, rfl, rfl⟩
          | true =>
            simp only [Bool.not_true, cond_false]
            cases hd with
            | true => exact .inl ⟨8, rfl, rfl⟩
            | false =>
              simp only [cond_false, ref19_samples hcb hcl (hok rfl), Option.bind_some]
              rw [if_neg (show ¬ (true = false) by decide), if_neg (show ¬ (false = true) by decide)]
              by_cases he : (parseD (sl (b.drop p) 8 n) f).2 = 0
              · have c3 : ((parseD (sl (b.drop p) 8 n) f).2 != 0) = false := by simpa using he
                rw [c3, if_neg (by simp [he])]
                exact .inr ⟨_, _, _, _, p + 4 + 4 + n + n % 2, by omega, by omega, rfl, rfl⟩
              · have c3 : ((parseD (sl (b.drop p) 8 n) f).2 != 0) = true := by simpa using he
                rw [c3, if_pos he]
                exact .inl ⟨_, rfl, rfl⟩
        · have c2 : (b2s (sl (b.drop p) 0 4) == ([100, 97, 116, 97] : List Int)) = false := by simpa using hD
          rw [c2, if_neg hD]
          exact .inr ⟨_, _, _, _, p + 4 + 4 + n + n % 2, by omega, by omega, rfl, rfl⟩

theorem ref_loop {b : List Int} (hb : Bytes b) (hl : b.length < 100000) : ∀ (n : Nat) (l : List Int) (hf hd : Bool) (f z : Fmt) (p : Nat), p ≤ b.length → b.length - p < n → (hf = true → waveOk f = true) →
    iter F_kinoraref19_WaveParse_l0 (l, (hf, (hd, (z, ((b, ((p : Int), ((0 : Int), ()))), (f, ())))))) = some (match loopP n (l, (hf, (hd, (f, b.drop p)))) with
      | .inl (l', (hf', (hd', f'))) => .inl (l', (hf', (hd', (z, (f', ())))))
      | .inr e => .inr ([], (e, (zeroF, ()))))
  | 0, _, _, _, _, _, _, _, h, _ => by omega
  | n + 1, l, hf, hd, f, z, p, hp, h, hok => by
    by_cases hne : b.drop p = []
    · simp only [loopP, hne, if_true]
      have hlp : b.length ≤ p := List.drop_eq_nil_iff.1 hne
      refine iter_done ?_
      have L0 := octets_Left (l := b) (p := p) (e := ((0 : Int), ())) (by omega) hp
      have e0 : decide (((b.length - p : Nat) : Int) > (0 : Int)) = false := by simp only [decide_eq_false_iff_not]; omega
      simp only [F_kinoraref19_WaveParse_l0, L0, Option.bind_some, e0, cond_false]
    · simp only [loopP, if_neg hne]
      rcases ref_l0 (l := l) (hf := hf) (hd := hd) (f := f) (z := z) hb hl hp hok hne with ⟨e, h1, h2⟩ | ⟨l', hf', hd', f', q, hpq, hq, h1, h2⟩
      · rw [iter_done h2, h1]
      · rw [iter_step h2, h1]
        have hok' := (chunkStep_inl h1 hok).2.2
        exact ref_loop hb hl n l' hf' hd' f' z q hq (by omega) hok'

/-- More rounds than bytes change nothing. -/
theorem loopP_more : ∀ (n : Nat) (l : List Int) (hf hd : Bool) (f : Fmt) (rest : List Int), rest.length < n → (hf = true → waveOk f = true) → loopP (n + 1) (l, (hf, (hd, (f, rest)))) = loopP n (l, (hf, (hd, (f, rest))))
  | 0, _, _, _, _, _, h, _ => by omega
  | n + 1, l, hf, hd, f, rest, h, hok => by
    by_cases hne : rest = []
    · simp only [loopP, if_pos hne]
    · rw [loopP, loopP, if_neg hne, if_neg hne]
      cases hc : chunkStep l hf hd f rest with
      | inr e => rfl
      | inl s =>
        obtain ⟨l', hf', hd', f', rest'⟩ := s
        obtain ⟨h8, ⟨m, hm, hr⟩, hok'⟩ := chunkStep_inl hc hok
        simp only [] at hr hok'
        exact loopP_more n l' hf' hd' f' rest' (by rw [hr, List.length_drop]; omega) hok'

theorem loopP_ge (n : Nat) (l : List Int) (hf hd : Bool) (f : Fmt) (rest : List Int) (hok : hf = true → waveOk f = true) (h : rest.length < n) : ∀ k, loopP (n + k) (l, (hf, (hd, (f, rest)))) = loopP n (l, (hf, (hd, (f, rest))))
  | 0 => rfl
  | k + 1 => by rw [← Nat.add_assoc, loopP_more (n + k) l hf hd f rest (by omega) hok, loopP_ge n l hf hd f rest hok h k]

theorem loopP_any {n m : Nat} {l : List Int} {hf hd : Bool} {f : Fmt} {rest : List Int} (hok : hf = true → waveOk f = true) (h : rest.length < n) (h' : rest.length < m) :
    loopP n (l, (hf, (hd, (f, rest)))) = loopP m (l, (hf, (hd, (f, rest)))) := by
  rw [← loopP_ge n l hf hd f rest hok h m, ← loopP_ge m l hf hd f rest hok h' n, Nat.add_comm]

theorem ref19_WaveParse {x : List Int} (hb : Bytes x) (hl : x.length < 100000) : F_kinoraref19_WaveParse x = some (parsed x) := by
  simp only [F_kinoraref19_WaveParse, parsed]
  by_cases h12 : x.length < 12
  · have e1 : decide (((List.length x : Nat) : Int) < (12 : Int)) = true := by simp; omega
    rw [e1, if_pos h12]; rfl
  · have e1 : decide (((List.length x : Nat) : Int) < (12 : Int)) = false := by simp; omega
    have e3 : decide ((4 : Int) ≤ ((List.length x : Nat) : Int)) = true := by simp; omega
    have e4 : decide ((12 : Int) ≤ ((List.length x : Nat) : Int)) = true := by simp; omega
    obtain ⟨n, hn⟩ : ∃ n, n = leN (sl x 4 4) := ⟨_, rfl⟩
    have hn4 := sl_lt4 hb 4 (show 4 ≤ 4 by decide)
    rw [← hn] at hn4
    have ea : List.take 4 x = sl x 0 4 := take_sl _ _
    have eb : List.drop 8 (List.take 12 x) = sl x 8 4 := drop_take_sl _ _ _
    have ec : List.drop 4 (List.take (List.length x) x) = x.drop 4 := by rw [List.take_length]
    rw [e1, if_neg h12]
    simp only [cond_false, cond_true, e3, e4, ← hn, ea, eb]
    by_cases hR : b2s (sl x 0 4) = [82, 73, 70, 70]
    · have c1 : (b2s (sl x 0 4) != ([82, 73, 70, 70] : List Int)) = false := by simpa using hR
      rw [c1]
      simp only [cond_false, Option.bind_some]
      by_cases hW : b2s (sl x 8 4) = [87, 65, 86, 69]
      · have c2 : (b2s (sl x 8 4) != ([87, 65, 86, 69] : List Int)) = false := by simpa using hW
        have hd4 : Bytes (x.drop 4) := fun y hy => hb y (List.mem_of_mem_drop hy)
        have hl4 : (x.drop 4).length = x.length - 4 := List.length_drop
        have S4 := octets_Small (l := x.drop 4) (p := 0) (k := 4) (by omega) (by decide) hd4 (by omega)
        have hsn : leN ((List.drop 0 (x.drop 4)).take 4) = n := by rw [hn]; rfl
        rw [if_pos (by omega), hsn] at S4
        rw [show ((4 : Nat) : Int) = 4 from rfl, show ((0 : Nat) : Int) = 0 from rfl] at S4
        have w0 : IntKind.wrap .i64 (n : Int) = (n : Int) := wrap64 (by omega)
        rw [c2]
        simp only [cond_false, e3, cond_true, ec, F_kinoraref2_NewOctets, Option.bind_some, S4, w0]
        by_cases h4 : n < 4
        · have c3 : decide ((n : Int) < 4) = true := by simp only [decide_eq_true_eq]; omega
          rw [c3, if_pos (.inr (.inr h4))]; rfl
        · have c3 : decide ((n : Int) < 4) = false := by simp only [decide_eq_false_iff_not]; omega
          rw [c3, if_neg (fun h => h.elim (fun h => h hR) fun h => h.elim (fun h => h hW) h4)]
          have L0 := octets_Left (l := x.drop 4) (p := 4) (e := ((0 : Int), ())) (by omega) (by omega)
          rw [show ((4 : Nat) : Int) = 4 from rfl] at L0
          simp only [cond_false, L0, Option.bind_some, hl4]
          by_cases hs : x.length - 8 < n
          · have c4 : decide ((n : Int) > ((x.length - 4 - 4 : Nat) : Int)) = true := by simp only [decide_eq_true_eq]; omega
            rw [c4, if_pos hs]; rfl
          · have c4 : decide ((n : Int) > ((x.length - 4 - 4 : Nat) : Int)) = false := by simp only [decide_eq_false_iff_not]; omega
            have w3 : IntKind.wrap .i64 ((4 : Int) + (n : Int)) = ((4 + n : Nat) : Int) := by rw [wrap64 (by omega)]; omega
            rw [c4, if_neg hs]
            simp only [cond_false, w3, Int.toNat_natCast]
            have c5 : (decide ((0 : Int) ≤ ((4 + n : Nat) : Int)) && decide (((4 + n : Nat) : Int) ≤ ((x.length - 4 : Nat) : Int))) = true := by
              simp only [Bool.and_eq_true, decide_eq_true_eq]; omega
            rw [c5]
            simp only [cond_true]
            have hbl : ((x.drop 4).take (4 + n)).length = 4 + n := by rw [List.length_take, hl4]; omega
            have T4 := octets_Take (l := (x.drop 4).take (4 + n)) (p := 4) (n := 4) (by omega) (by decide) (by omega)
            rw [if_pos (by omega), show ((4 : Nat) : Int) = 4 from rfl] at T4
            simp only [T4, Option.bind_some]
            have hbb : Bytes ((x.drop 4).take (4 + n)) := fun y hy => hd4 y (List.mem_of_mem_take hy)
            have hL := ref_loop hbb (by omega) x.length [] false false zeroF zeroF (4 + 4) (by omega) (by omega) (by simp)
            have hr : ((x.drop 4).take (4 + n)).drop (4 + 4) = sl x 12 (n - 4) := by
              unfold sl
              rw [List.drop_take, List.drop_drop]
              congr 1; omega
            rw [hr] at hL
            unfold zeroF at hL ⊢
            rw [hL]
            simp only [Option.bind_some]
            generalize loopP x.length _ = r
            cases r with
            | inr e => rfl
            | inl s =>
              obtain ⟨l, hf, hd, f⟩ := s
              cases hf <;> cases hd <;> rfl
      · have c2 : (b2s (sl x 8 4) != ([87, 65, 86, 69] : List Int)) = true := by simpa using hW
        rw [c2, if_pos (.inr (.inl hW))]; rfl
    · have c1 : (b2s (sl x 0 4) != ([82, 73, 70, 70] : List Int)) = true := by simpa using hR
      rw [c1, if_pos (.inl hR)]; rfl

end Go.Ab

/- Plain lemmas: the law WaveParses; chunks taken apart; formats and samples restored. Conditions: as each lemma states. -/
namespace Go.Ab

theorem eqT_fmt (f : Fmt) : eqT (.pair (.int .i64) (.pair (.int .i64) (.pair (.int .i64) .unit))) f f = true := by
  simp only [eqT, Bool.and_true, Bool.and_eq_true]
  exact ⟨beq_self_eq_true f.1, beq_self_eq_true f.2.1, beq_self_eq_true f.2.2.1⟩

theorem parseD_len (c : List Int) (f : Fmt) : (parseD c f).1.length ≤ c.length := by
  unfold parseD
  split
  · simp
  · split
    · simp
    · simp only [samplesOf, List.length_map, List.length_range]
      exact Nat.div_le_self _ _

theorem chunkStep_len {l : List Int} {hf hd : Bool} {f : Fmt} {rest : List Int} {s : PSt} (h : chunkStep l hf hd f rest = .inl s) :
    s.1.length ≤ max l.length rest.length ∧ s.2.2.2.2.length ≤ rest.length := by
  have hr : ∀ m, (rest.drop m).length ≤ rest.length := fun m => by rw [List.length_drop]; omega
  have hs : ∀ a n, (sl rest a n).length ≤ rest.length := fun a n => by unfold sl; rw [List.length_take, List.length_drop]; omega
  unfold chunkStep at h
  split at h
  · cases h
  · split at h
    · cases h
    · split at h
      · split at h
        · cases h
        · split at h
          · cases h
          · simp only [Sum.inl.injEq] at h
            subst h
            exact ⟨by simp only []; omega, hr _⟩
      · split at h
        · split at h
          · cases h
          · split at h
            · cases h
            · split at h
              · cases h
              · simp only [Sum.inl.injEq] at h
                subst h
                refine ⟨?_, hr _⟩
                have h1 := parseD_len (sl rest 8 (leN (sl rest 4 4))) f
                have h2 := hs 8 (leN (sl rest 4 4))
                simp only []; omega
        · simp only [Sum.inl.injEq] at h
          subst h
          exact ⟨by simp only []; omega, hr _⟩

theorem loopP_len : ∀ (n : Nat) (l : List Int) (hf hd : Bool) (f : Fmt) (rest : List Int) (s : List Int × (Bool × (Bool × Fmt))),
    loopP n (l, (hf, (hd, (f, rest)))) = .inl s → s.1.length ≤ max l.length rest.length
  | 0, _, _, _, _, _, _, h => by cases h
  | n + 1, l, hf, hd, f, rest, s, h => by
    rw [loopP] at h
    split at h
    · simp only [Sum.inl.injEq] at h
      subst h
      simp only []; omega
    · split at h
      · cases h
      · rename_i s' hc
        obtain ⟨l', hf', hd', f', rest'⟩ := s'
        have h1 := loopP_len n l' hf' hd' f' rest' s h
        have h2 := chunkStep_len hc
        simp only [] at h2
        omega

theorem parsed_len (x : List Int) : (parsed x).2.1.length ≤ x.length := by
  unfold parsed
  split
  · simp
  · split
    · simp
    · split
      · simp
      · split
        · simp
        · rename_i l hf hd f hL
          split
          · have := loopP_len _ _ _ _ _ _ _ hL
            have h2 : (sl x 12 (leN (sl x 4 4) - 4)).length ≤ x.length := by unfold sl; rw [List.length_take, List.length_drop]; omega
            simp only [List.length_nil] at this ⊢; omega
          · simp

theorem law_WaveParses {x : List Int} (hb : Bytes x) : F_kinoralaw18_WaveParses x = some true := by
  simp only [F_kinoralaw18_WaveParses, law18_known, Option.bind_some, Bool.not_true, cond_false]
  by_cases h : x.length > 1500
  · have e : decide (((List.length x : Nat) : Int) > (1500 : Int)) = true := by simp; omega
    rw [e]; rfl
  · have e : decide (((List.length x : Nat) : Int) > (1500 : Int)) = false := by simp; omega
    have hlen := parsed_len x
    rw [e]
    simp only [cond_false, wave_Parse hb (show x.length < 100000 by omega), ref19_WaveParse hb (show x.length < 100000 by omega), Option.bind_some, eqT_fmt, sameInts _ (show (parsed x).2.1.length < 1000000 by omega)]
    simp

theorem leN_leB : ∀ (k n : Nat), leN (leB k n) = n % 256 ^ k
  | 0, n => by simp [leB, leN, Nat.mod_one]
  | k + 1, n => by
    rw [leB, leN, leN_leB k (n / 256), Int.toNat_natCast, Nat.pow_succ, Nat.mul_comm (256 ^ k) 256, Nat.mod_mul]

theorem leN_sB (k : Nat) (x : Int) : leN (sB k x) = (x % 18446744073709551616).toNat % 256 ^ k := leN_leB _ _

theorem leN_sBn {k n : Nat} (h : n < 256 ^ k) (hk : k ≤ 8) : leN (sB k (n : Int)) = n := by
  have : 256 ^ k ≤ 18446744073709551616 := pow_le8 hk
  rw [leN_sB, show ((n : Int) % 18446744073709551616).toNat = n from by omega, Nat.mod_eq_of_lt h]

theorem leB_bytes : ∀ (k n : Nat), Bytes (leB k n)
  | 0, _ => fun b hb => by simp [leB] at hb
  | k + 1, n => fun b hb => by
    rw [leB, List.mem_cons] at hb
    rcases hb with rfl | hb
    · omega
    · exact leB_bytes k _ b hb

theorem sB_bytes (k : Nat) (x : Int) : Bytes (sB k x) := leB_bytes _ _

theorem bytes_app {a b : List Int} (ha : Bytes a) (hb : Bytes b) : Bytes (a ++ b) := fun x hx => by
  rcases List.mem_append.1 hx with h | h
  · exact ha x h
  · exact hb x h

theorem sl_mid {a b c : List Int} {n m : Nat} (hn : a.length = n) (hm : b.length = m) : sl (a ++ (b ++ c)) n m = b := by
  unfold sl
  rw [List.drop_append_of_le_length (by omega), List.drop_eq_nil_of_le (by omega), List.nil_append, List.take_append_of_le_length (by omega), List.take_of_length_le (by omega)]

theorem sl_zero {b c : List Int} {m : Nat} (hm : b.length = m) : sl (b ++ c) 0 m = b := sl_mid (a := []) rfl hm

theorem drop_mid {a c : List Int} {n : Nat} (hn : a.length = n) : (a ++ c).drop n = c := by
  rw [List.drop_append_of_le_length (by omega), List.drop_eq_nil_of_le (by omega), List.nil_append]

/-- A chunk taken apart. -/
theorem chunk_split {name d more : List Int} (hn : name.length = 4) (hd : d.length < 4294967296) :
    sl (chunkB name d ++ more) 0 4 = name ∧ leN (sl (chunkB name d ++ more) 4 4) = d.length ∧ sl (chunkB name d ++ more) 8 d.length = d ∧
      (chunkB name d ++ more).drop (8 + d.length + d.length % 2) = more ∧ (chunkB name d ++ more).length = 8 + d.length + d.length % 2 + more.length := by
  have hp : (if d.length % 2 = 1 then [(0 : Int)] else []).length = d.length % 2 := by split <;> simp <;> omega
  have hs : (sB 4 (d.length : Int)).length = 4 := sB_length _ _
  refine ⟨?_, ?_, ?_, ?_, ?_⟩
  · unfold chunkB
    simp only [List.append_assoc]
    exact sl_zero hn
  · unfold chunkB
    simp only [List.append_assoc]
    rw [sl_mid hn hs]
    exact leN_sBn (by simpa using hd) (by decide)
  · unfold chunkB
    rw [show (name ++ sB 4 ↑d.length ++ d ++ (if d.length % 2 = 1 then [0] else []) ++ more) = ((name ++ sB 4 ↑d.length) ++ (d ++ ((if d.length % 2 = 1 then [0] else []) ++ more))) from by simp only [List.append_assoc]]
    exact sl_mid (by rw [List.length_append, hn, hs]) rfl
  · unfold chunkB
    exact drop_mid (by simp only [List.length_append, hn, hs, hp])
  · rw [List.length_append, chunkB_length, hn]

theorem chunk_step {l : List Int} {hf hd : Bool} {f : Fmt} {name d more : List Int} (hn : name.length = 4) (hl : d.length < 4294967296) :
    chunkStep l hf hd f (chunkB name d ++ more) =
      if b2s name = [102, 109, 116, 32] then
        (if hf = true then .inr 8 else if (parseF d).2 = false then .inr 2 else .inl (l, (true, (hd, ((parseF d).1, more)))))
      else if b2s name = [100, 97, 116, 97] then
        (if hf = false then .inr 12 else if hd = true then .inr 8 else if (parseD d f).2 ≠ 0 then .inr (parseD d f).2 else .inl ((parseD d f).1, (hf, (true, (f, more)))))
      else .inl (l, (hf, (hd, (f, more)))) := by
  obtain ⟨h1, h2, h3, h4, h5⟩ := chunk_split (name := name) (d := d) (more := more) hn hl
  unfold chunkStep
  rw [h2, h1, h3, h4, if_neg (by omega), if_neg (by omega)]

theorem chunk_ne {name d more : List Int} (hn : name.length = 4) : chunkB name d ++ more ≠ [] := by
  intro h
  have := congrArg List.length h
  rw [List.length_append, chunkB_length, hn] at this
  simp at this

end Go.Ab

/- Plain lemmas: formats and samples restored from their bytes. Conditions: as each lemma states. -/
namespace Go.Ab

theorem int_leN {k : Nat} {x : Int} (h0 : 0 ≤ x) (h : x < 256 ^ k) (hk : k ≤ 8) : (leN (sB k x) : Int) = x := by
  obtain ⟨n, rfl⟩ : ∃ n : Nat, x = (n : Int) := ⟨x.toNat, by omega⟩
  have h' : (n : Int) < ((256 ^ k : Nat) : Int) := by rw [Int.natCast_pow]; exact h
  rw [leN_sBn (Int.ofNat_lt.1 h') hk]

theorem parseF_fmtB {f : Fmt} (h : waveOk f = true) : parseF (fmtB f) = (f, true) := by
  obtain ⟨hr, hb, hc⟩ := waveOk_right h
  obtain ⟨-, g1, g2, -, g3, g4⟩ := frame_eq hr
  have hr' := hr
  simp only [right, decide_eq_true_eq] at hr'
  obtain ⟨r1, r2, r3, r4, r5, r6⟩ := hr'
  have e : fmtB f = sB 2 1 ++ (sB 2 f.2.1 ++ (sB 4 f.1 ++ (sB 4 (f.1 * frameOf f) ++ (sB 2 (frameOf f) ++ sB 2 f.2.2.1)))) := by
    simp only [fmtB, List.append_assoc]
  have p0 : sl (fmtB f) 0 2 = sB 2 1 := by rw [e]; exact sl_zero (sB_length _ _)
  have p2 : sl (fmtB f) 2 2 = sB 2 f.2.1 := by rw [e]; exact sl_mid (sB_length _ _) (sB_length _ _)
  have p4 : sl (fmtB f) 4 4 = sB 4 f.1 := by
    rw [e, ← List.append_assoc]; exact sl_mid (by simp [sB_length]) (sB_length _ _)
  have p8 : sl (fmtB f) 8 4 = sB 4 (f.1 * frameOf f) := by
    rw [e, ← List.append_assoc, ← List.append_assoc]; exact sl_mid (by simp [sB_length]) (sB_length _ _)
  have p12 : sl (fmtB f) 12 2 = sB 2 (frameOf f) := by
    rw [e, ← List.append_assoc, ← List.append_assoc, ← List.append_assoc]; exact sl_mid (by simp [sB_length]) (sB_length _ _)
  have p14 : sl (fmtB f) 14 2 = sB 2 f.2.2.1 := by
    rw [e, ← List.append_assoc, ← List.append_assoc, ← List.append_assoc, ← List.append_assoc, ← List.append_nil (sB 2 f.2.2.1)]; exact sl_mid (by simp [sB_length]) (sB_length _ _)
  have ef : fmtOf (fmtB f) = f := by
    unfold fmtOf
    rw [p4, p2, p14, int_leN (by omega) (by omega) (by decide), int_leN (by omega) (by omega) (by decide), int_leN (by omega) (by omega) (by decide)]
  have ok : fmtOk (fmtB f) = true := by
    simp only [fmtOk, ef, h, p0, p8, p12, fmtB_length, Bool.and_eq_true, decide_eq_true_eq, Bool.true_and]
    refine ⟨by omega, ?_, ?_, ?_⟩
    · have := int_leN (k := 2) (x := 1) (by omega) (by omega) (by decide); omega
    · exact int_leN (by omega) (by omega) (by decide)
    · exact int_leN (by omega) (by omega) (by decide)
  unfold parseF
  rw [if_pos ok, ef]

theorem sgn_sB {k : Nat} (hk : 1 ≤ k ∧ k ≤ 3) {x : Int} (h : fit ((8 * k : Nat) : Int) x = true) : sgn k (leN (sB k x)) = x := by
  simp only [fit, Bool.and_eq_true, decide_eq_true_eq, Int.toNat_natCast] at h
  obtain ⟨-, h1, h2⟩ := h
  rw [leN_sB]
  have : k = 1 ∨ k = 2 ∨ k = 3 := by omega
  rcases this with rfl | rfl | rfl <;> simp only [sgn, Nat.reduceMul, Nat.reduceSub, Nat.reducePow, Int.reducePow] at h1 h2 ⊢ <;> split <;> omega

theorem samples_back {k : Nat} (hk : 1 ≤ k ∧ k ≤ 3) {l : List Int} (h : l.all (fit ((8 * k : Nat) : Int)) = true) : samplesOf k (l.flatMap (sB k)) = l := by
  have hlen := flatMap_len (sB_length k) l
  unfold samplesOf
  rw [hlen, Nat.mul_div_cancel _ (by omega)]
  refine List.ext_getElem (by simp) fun i h1 h2 => ?_
  rw [List.getElem_map, List.getElem_range]
  have hsl : sl (l.flatMap (sB k)) (i * k) k = sB k l[i] := by
    have e : l = l.take i ++ l[i] :: l.drop (i + 1) := by rw [← List.drop_eq_getElem_cons h2, List.take_append_drop]
    have e2 : l.flatMap (sB k) = (l.take i).flatMap (sB k) ++ (sB k l[i] ++ (l.drop (i + 1)).flatMap (sB k)) := by
      rw [← List.flatMap_cons, ← List.flatMap_append, ← e]
    rw [e2]
    exact sl_mid (by rw [flatMap_len (sB_length k), List.length_take, Nat.min_eq_left (by omega)]) (sB_length _ _)
  unfold group
  rw [hsl]
  exact sgn_sB hk (List.all_eq_true.1 h _ (List.getElem_mem h2))

theorem parseD_dataB {f : Fmt} (hf : waveOk f = true) {l : List Int} (hm : Int.tmod (l.length : Int) f.2.1 = 0) (h : l.all (fit f.2.2.1) = true) : parseD (dataB f.2.2.1 l) f = (l, 0) := by
  obtain ⟨-, hb, -⟩ := waveOk_right hf
  obtain ⟨c, k, hc, hk1, hk3, ec, ek, efr, ekk⟩ := frame_nat hf
  have hlen := dataB_length hb l
  rw [ekk] at hlen
  have hmod : Int.tmod ((dataB f.2.2.1 l).length : Int) (frameOf f) = 0 := by
    rw [ec] at hm
    have hm' : l.length % c = 0 := by
      have : ((l.length % c : Nat) : Int) = 0 := hm
      omega
    rw [hlen, efr]
    show ((l.length * k % (c * k) : Nat) : Int) = 0
    rw [Nat.mul_mod_mul_right, hm']; simp
  unfold parseD
  rw [if_neg (by simp [hmod])]
  by_cases h8 : f.2.2.1 = 8
  · rw [if_pos h8]
    unfold dataB
    rw [if_pos h8, List.map_map]
    refine Prod.ext ?_ rfl
    show List.map _ l = l
    have : ∀ x ∈ l, ((fun x => x - 128) ∘ fun x => (x + 128) % 256) x = x := fun x hx => by
      have hx := List.all_eq_true.1 h x hx
      rw [h8] at hx
      simp only [fit, Bool.and_eq_true, decide_eq_true_eq] at hx
      have hx' := hx.2
      simp only [show (8 : Int).toNat - 1 = 7 from rfl, Int.reducePow] at hx'
      simp only [Function.comp]
      omega
    rw [List.map_congr_left this, List.map_id']
  · rw [if_neg h8]
    unfold dataB
    rw [if_neg h8]
    refine Prod.ext ?_ rfl
    show samplesOf _ _ = l
    rw [ekk, show ((f.2.2.1 + 7) / 8).toNat = k from by omega]
    exact samples_back ⟨hk1, hk3⟩ (by rw [← ek]; exact h)

end Go.Ab

/- Plain lemmas: waves of chunks, parsed; which samples are a wave's. Conditions: as each lemma states. -/
namespace Go.Ab

def endP : (List Int × (Bool × (Bool × Fmt))) ⊕ Int → Fmt × (List Int × Int)
  | .inr e => (zeroF, ([], e))
  | .inl (l, (hf, (hd, f))) => if hf = true ∧ hd = true then (f, (l, 0)) else (zeroF, ([], 7))

theorem parsed_riff {body : List Int} (hb : body.length < 4000000000) (behind : List Int) {N : Nat} (hN : body.length < N) :
    parsed (riff ([87, 65, 86, 69] ++ body) ++ behind) = endP (loopP N ([], (false, (false, (zeroF, body))))) := by
  obtain ⟨d, hd⟩ : ∃ d : List Int, d = [87, 65, 86, 69] ++ body := ⟨_, rfl⟩
  have hdl : d.length = 4 + body.length := by rw [hd, List.length_append]; rfl
  have e : riff d ++ behind = [82, 73, 70, 70] ++ (sB 4 (d.length : Int) ++ ([87, 65, 86, 69] ++ (body ++ behind))) := by
    unfold riff; rw [hd]; simp only [List.append_assoc]
  rw [← hd]
  have h0 : sl (riff d ++ behind) 0 4 = [82, 73, 70, 70] := by rw [e]; exact sl_zero rfl
  have h4 : leN (sl (riff d ++ behind) 4 4) = d.length := by
    rw [e, sl_mid (a := [82, 73, 70, 70]) (n := 4) (m := 4) rfl (sB_length _ _)]
    exact leN_sBn (by omega) (by decide)
  have h8 : sl (riff d ++ behind) 8 4 = [87, 65, 86, 69] := by
    rw [e, ← List.append_assoc]; exact sl_mid (by simp [sB_length]) rfl
  have h12 : sl (riff d ++ behind) 12 (d.length - 4) = body := by
    rw [e, ← List.append_assoc, ← List.append_assoc]; exact sl_mid (by simp [sB_length]) (by omega)
  have hl : (riff d ++ behind).length = 8 + d.length + behind.length := by
    rw [e]; simp only [List.length_append, sB_length, List.length_cons, List.length_nil]; omega
  unfold parsed
  rw [h0, h4, h8, h12, if_neg (by omega), if_neg (by
    rintro (h | h | h)
    · exact h rfl
    · exact h rfl
    · omega), if_neg (by omega), loopP_any (n := (riff d ++ behind).length) (m := N) (by simp) (by omega) hN]
  rfl

theorem parsed_cut {d : List Int} (h4 : 4 ≤ d.length) (hd : d.length < 4000000000) (hw : d.take 4 = [87, 65, 86, 69]) {c : List Int} (hc : c.length + 1 = (riff d).length) (ht : c = (riff d).take c.length) : parsed c = (zeroF, ([], 3)) := by
  obtain ⟨body, hb⟩ : ∃ body, d = [87, 65, 86, 69] ++ body := ⟨d.drop 4, by rw [← hw, List.take_append_drop]⟩
  have hl : (riff d).length = 8 + d.length := by unfold riff; simp only [List.length_append, sB_length, List.length_cons, List.length_nil]
  have hsl : ∀ a n, a + n ≤ c.length → sl c a n = sl (riff d) a n := fun a n h => by
    rw [ht]; unfold sl
    rw [List.drop_take, List.take_take, Nat.min_eq_left (by omega)]
  by_cases h12 : c.length < 12
  · unfold parsed; rw [if_pos h12]
  have e : riff d = [82, 73, 70, 70] ++ (sB 4 (d.length : Int) ++ ([87, 65, 86, 69] ++ body)) := by
    unfold riff; rw [hb]; simp only [List.append_assoc]
  have p0 : sl c 0 4 = [82, 73, 70, 70] := by rw [hsl 0 4 (by omega), e]; exact sl_zero rfl
  have p4 : leN (sl c 4 4) = d.length := by
    rw [hsl 4 4 (by omega), e, sl_mid (a := [82, 73, 70, 70]) (n := 4) (m := 4) rfl (sB_length _ _)]
    exact leN_sBn (by omega) (by decide)
  have p8 : sl c 8 4 = [87, 65, 86, 69] := by
    rw [hsl 8 4 (by omega), e, ← List.append_assoc]; exact sl_mid (by simp [sB_length]) rfl
  unfold parsed
  rw [p0, p4, p8, if_neg h12, if_neg (by
    rintro (h | h | h)
    · exact h rfl
    · exact h rfl
    · omega), if_pos (by omega)]

def nFmt : List Int := [102, 109, 116, 32]
def nData : List Int := [100, 97, 116, 97]
def nList : List Int := [76, 73, 83, 84]

section
variable {l : List Int} {hf hd : Bool} {f : Fmt} {more d : List Int} {n : Nat}

theorem loop_end : loopP (n + 1) (l, (hf, (hd, (f, [])))) = .inl (l, (hf, (hd, f))) := by simp [loopP]

theorem loop_chunk {name : List Int} (hn : name.length = 4) (hl : d.length < 4294967296) : loopP (n + 1) (l, (hf, (hd, (f, chunkB name d ++ more)))) =
    match (if b2s name = [102, 109, 116, 32] then
        (if hf = true then .inr 8 else if (parseF d).2 = false then .inr 2 else .inl (l, (true, (hd, ((parseF d).1, more)))))
      else if b2s name = [100, 97, 116, 97] then
        (if hf = false then .inr 12 else if hd = true then .inr 8 else if (parseD d f).2 ≠ 0 then .inr (parseD d f).2 else .inl ((parseD d f).1, (hf, (true, (f, more)))))
      else .inl (l, (hf, (hd, (f, more)))) : PSt ⊕ Int) with
    | .inr e => .inr e
    | .inl s => loopP n s := by
  rw [loopP, if_neg (chunk_ne hn), chunk_step hn hl] <;> rfl

theorem loop_list (hl : d.length < 4294967296) : loopP (n + 1) (l, (hf, (hd, (f, chunkB nList d ++ more)))) = loopP n (l, (hf, (hd, (f, more)))) := by
  rw [loop_chunk rfl hl, if_neg (by decide), if_neg (by decide)]

theorem loop_fmt {g : Fmt} (hg : waveOk g = true) : loopP (n + 1) (l, (false, (hd, (f, chunkB nFmt (fmtB g) ++ more)))) = loopP n (l, (true, (hd, (g, more)))) := by
  rw [loop_chunk rfl (by rw [fmtB_length]; decide), if_pos (by decide), if_neg (by decide), parseF_fmtB hg, if_neg (by simp)]

theorem loop_fmt2 (hl : d.length < 4294967296) : loopP (n + 1) (l, (true, (hd, (f, chunkB nFmt d ++ more)))) = .inr 8 := by
  rw [loop_chunk rfl hl, if_pos (by decide), if_pos rfl]

theorem loop_data (hf : waveOk f = true) (hm : Int.tmod (d.length : Int) f.2.1 = 0) (h : d.all (fit f.2.2.1) = true) (hl : (dataB f.2.2.1 d).length < 4294967296) :
    loopP (n + 1) (l, (true, (false, (f, chunkB nData (dataB f.2.2.1 d) ++ more)))) = loopP n (d, (true, (true, (f, more)))) := by
  rw [loop_chunk rfl hl, if_neg (by decide), if_pos (by decide), if_neg (by decide), if_neg (by decide), parseD_dataB hf hm h, if_neg (by simp)]

theorem loop_data2 (hl : d.length < 4294967296) : loopP (n + 1) (l, (true, (true, (f, chunkB nData d ++ more)))) = .inr 8 := by
  rw [loop_chunk rfl hl, if_neg (by decide), if_pos (by decide), if_neg (by decide), if_pos rfl]

theorem loop_data0 (hl : d.length < 4294967296) : loopP (n + 1) (l, (false, (hd, (f, chunkB nData d ++ more)))) = .inr 12 := by
  rw [loop_chunk rfl hl, if_neg (by decide), if_pos (by decide), if_pos rfl]
end

theorem fmtB_bytes (f : Fmt) : Bytes (fmtB f) := by
  unfold fmtB
  exact bytes_app (bytes_app (bytes_app (bytes_app (bytes_app (sB_bytes _ _) (sB_bytes _ _)) (sB_bytes _ _)) (sB_bytes _ _)) (sB_bytes _ _)) (sB_bytes _ _)

theorem dataB_bytes (b : Int) (l : List Int) : Bytes (dataB b l) := by
  unfold dataB
  split
  · intro x hx
    obtain ⟨y, -, rfl⟩ := List.mem_map.1 hx
    omega
  · intro x hx
    obtain ⟨y, -, hy⟩ := List.mem_flatMap.1 hx
    exact sB_bytes _ _ x hy

theorem bytes_of {l : List Int} (h : l.all (fun b => decide (0 ≤ b ∧ b < 256)) = true) : Bytes l := fun b hb => by
  simpa using List.all_eq_true.1 h b hb

theorem chunkB_bytes {name d : List Int} (hn : Bytes name) (hd : Bytes d) : Bytes (chunkB name d) := by
  unfold chunkB
  refine bytes_app (bytes_app (bytes_app hn (sB_bytes _ _)) hd) ?_
  split
  · exact bytes_of (by decide)
  · exact bytes_of (by decide)

theorem riff_bytes {d : List Int} (hd : Bytes d) : Bytes (riff d) := by
  unfold riff
  exact bytes_app (bytes_app (bytes_of (by decide)) (sB_bytes _ _)) hd

def fitsB (f : Fmt) (l : List Int) (m : Int) : Bool := right f && (decide ((l.length : Int) ≤ m) && (decide (Int.tmod (l.length : Int) f.2.1 = 0) && l.all (fit f.2.2.1)))

theorem law17_Fits (f : Fmt) (l : List Int) {m : Int} (hm : m < 1000000) : F_kinoralaw17_Fits (f, (l, m)) = some (fitsB f l m) := by
  simp only [F_kinoralaw17_Fits, ref14_Right, Option.bind_some, fitsB]
  cases hr : right f with
  | false => rfl
  | true =>
    simp only [Bool.not_true, cond_false, Bool.true_and]
    have hr' := hr
    simp only [right, decide_eq_true_eq] at hr'
    by_cases hl : (l.length : Int) ≤ m
    · have e1 : decide (((List.length l : Nat) : Int) > m) = false := by simp only [decide_eq_false_iff_not]; omega
      have e2 : (f.2.1 == 0) = false := by simp; omega
      rw [e1, e2, decide_eq_true hl]
      simp only [cond_false, Option.bind_some, Bool.true_and]
      by_cases ht : Int.tmod (l.length : Int) f.2.1 = 0
      · have e3 : (Int.tmod ((List.length l : Nat) : Int) f.2.1 != 0) = false := by simpa using ht
        rw [e3, decide_eq_true ht]
        simp only [cond_false, Bool.true_and]
        obtain ⟨k, hk, hall, hend⟩ := first_bad (fit f.2.2.1) l
        have hL : iter F_kinoralaw17_Fits_l0 (l, ((0 : Int), (f, ()))) = some (if l.all (fit f.2.2.1) = true then .inl () else .inr (false, ())) :=
          iter_count (f := F_kinoralaw17_Fits_l0) (fun i => (l, ((i : Int), (f, ())))) k (fun i hi => by
            simp only [F_kinoralaw17_Fits_l0]
            have h1 : decide ((i : Int) < ((List.length l : Nat) : Int)) = true := by simp only [decide_eq_true_eq]; omega
            have h4 : IntKind.wrap .i64 ((i : Int) + 1) = ((i + 1 : Nat) : Int) := wrap64 (by omega)
            rw [h1, gidx_of l (by omega : i < l.length), h4]
            simp only [cond_true, Option.bind_some, ref2_Fits, hall i (by omega) hi]
            rfl) (by
            simp only [F_kinoralaw17_Fits_l0]
            rcases hend with ⟨ha, rfl⟩ | ⟨ha, hk', hbad⟩
            · have h1 : decide ((l.length : Int) < ((List.length l : Nat) : Int)) = false := by simp
              rw [h1, if_pos ha]; rfl
            · have h1 : decide ((k : Int) < ((List.length l : Nat) : Int)) = true := by simp only [decide_eq_true_eq]; omega
              rw [h1, gidx_of l hk', ha, if_neg (by simp)]
              simp only [cond_true, Option.bind_some, ref2_Fits, hbad]
              rfl)
        rw [hL]
        cases l.all (fit f.2.2.1) <;> rfl
      · have e3 : (Int.tmod ((List.length l : Nat) : Int) f.2.1 != 0) = true := by simpa using ht
        rw [e3, decide_eq_false ht]
        rfl
    · have e1 : decide (((List.length l : Nat) : Int) > m) = true := by simp only [decide_eq_true_eq]; omega
      rw [e1, decide_eq_false hl]
      rfl

theorem law18_waves (f : Fmt) (l : List Int) {m : Int} (hm : m < 1000000) : F_kinoralaw18_waves (f, (l, m)) = some (fitsB f l m && decide (f.2.2.1 = 8 ∨ f.2.2.1 = 16 ∨ f.2.2.1 = 24)) := by
  simp only [F_kinoralaw18_waves, law17_Fits f l hm, Option.bind_some]
  cases fitsB f l m with
  | false => rfl
  | true =>
    by_cases h1 : f.2.2.1 = 8
    · simp [h1]
    · by_cases h2 : f.2.2.1 = 16
      · simp [h2]
      · have e1 : (f.2.2.1 == (8 : Int)) = false := by simpa using h1
        have e2 : (f.2.2.1 == (16 : Int)) = false := by simpa using h2
        rw [e1, e2]
        by_cases h3 : f.2.2.1 = 24
        · simp [h3]
        · simp [h1, h2, h3]

/-- What a wave's samples are. -/
theorem waves_true {f : Fmt} {l : List Int} {m : Int} (h : (fitsB f l m && decide (f.2.2.1 = 8 ∨ f.2.2.1 = 16 ∨ f.2.2.1 = 24)) = true) :
    waveOk f = true ∧ (l.length : Int) ≤ m ∧ Int.tmod (l.length : Int) f.2.1 = 0 ∧ l.all (fit f.2.2.1) = true ∧ printed f l = (riff (bodyB f l), 0) := by
  simp only [fitsB, Bool.and_eq_true, decide_eq_true_eq] at h
  obtain ⟨⟨h1, h2, h3, h4⟩, h5⟩ := h
  have hw : waveOk f = true := by simp [waveOk, h1, h5]
  refine ⟨hw, h2, h3, h4, ?_⟩
  unfold printed
  rw [if_neg (by simp [hw]), if_neg (by simp [h3]), if_neg (by rw [h4]; simp)]

end Go.Ab

/- Plain lemmas: the laws WaveBack and WaveSizes. Conditions: as each lemma states. -/
namespace Go.Ab

theorem dataB_short {f : Fmt} (hw : waveOk f = true) {l : List Int} {m : Int} (hl : (l.length : Int) ≤ m) (hm : m ≤ 1000) : (dataB f.2.2.1 l).length ≤ 3000 := by
  obtain ⟨-, hb, -⟩ := waveOk_right hw
  rw [dataB_length hb]
  have h1 : (f.2.2.1 / 8).toNat ≤ 3 := by omega
  calc l.length * (f.2.2.1 / 8).toNat ≤ 1000 * 3 := Nat.mul_le_mul (by omega) h1
    _ = 3000 := rfl

theorem bodyB_eq (f : Fmt) (l : List Int) : bodyB f l = [87, 65, 86, 69] ++ (chunkB nFmt (fmtB f) ++ (chunkB nData (dataB f.2.2.1 l) ++ [])) := by
  unfold bodyB nFmt nData
  rw [List.append_nil, List.append_assoc]

theorem chunkF_len (f : Fmt) : (chunkB nFmt (fmtB f)).length = 24 := by rw [chunkB_length, fmtB_length]; rfl

theorem chunkD_len (d : List Int) : (chunkB nData d).length = 8 + d.length + d.length % 2 := by rw [chunkB_length]; rfl

theorem law_WaveBack (f : Fmt) (l : List Int) {behind : List Int} (hb : Bytes behind) : F_kinoralaw18_WaveBack (f, (l, behind)) = some true := by
  simp only [F_kinoralaw18_WaveBack, law18_known, Option.bind_some, Bool.not_true, cond_false, law18_waves f l (m := 400) (by decide)]
  cases hwv : (fitsB f l 400 && decide (f.2.2.1 = 8 ∨ f.2.2.1 = 16 ∨ f.2.2.1 = 24)) with
  | false => rfl
  | true =>
    obtain ⟨hw, hl, hm, hfit, hpr⟩ := waves_true hwv
    simp only [Bool.not_true, cond_false, Option.bind_some]
    by_cases h50 : behind.length > 50
    · have e : decide (((List.length behind : Nat) : Int) > (50 : Int)) = true := by simp; omega
      rw [e]; rfl
    · have e : decide (((List.length behind : Nat) : Int) > (50 : Int)) = false := by simp; omega
      have hd := dataB_short hw hl (by decide)
      have hlen : (riff (bodyB f l)).length ≤ 4000 := by
        unfold riff; rw [bodyB_eq]
        simp only [List.length_append, sB_length, chunkF_len, chunkD_len, List.length_cons, List.length_nil]; omega
      have hbytes : Bytes (riff (bodyB f l) ++ behind) := by
        refine bytes_app (riff_bytes ?_) hb
        rw [bodyB_eq]
        exact bytes_app (bytes_of (by decide)) (bytes_app (chunkB_bytes (bytes_of (by decide)) (fmtB_bytes f)) (bytes_app (chunkB_bytes (bytes_of (by decide)) (dataB_bytes _ _)) (bytes_of (by decide))))
      have hp : parsed (riff (bodyB f l) ++ behind) = (f, (l, 0)) := by
        rw [bodyB_eq, parsed_riff (N := 4000) (by simp only [List.length_append, chunkF_len, chunkD_len, List.length_nil]; omega) behind (by simp only [List.length_append, chunkF_len, chunkD_len, List.length_nil]; omega),
          loop_fmt hw, loop_data hw hm hfit (by omega), loop_end]
        rfl
      rw [e]
      simp only [cond_false, wave_Print f (show l.length ≤ 100000 by omega), hpr, Option.bind_some, List.append_eq, List.nil_append]
      rw [lim_of (by omega), lim_of (by omega)]
      simp only [cond_true, wave_Parse hbytes (by rw [List.length_append]; omega), hp, Option.bind_some, eqT_fmt, sameInts l (by omega)]
      rfl

theorem take_drop_sl (x : List Int) (a n : Nat) : List.take n (List.drop a x) = sl x a n := rfl

theorem law_WaveSizes (f : Fmt) (l : List Int) : F_kinoralaw18_WaveSizes (f, l) = some true := by
  simp only [F_kinoralaw18_WaveSizes, law18_known, Option.bind_some, Bool.not_true, cond_false, law18_waves f l (m := 300) (by decide)]
  cases hwv : (fitsB f l 300 && decide (f.2.2.1 = 8 ∨ f.2.2.1 = 16 ∨ f.2.2.1 = 24)) with
  | false => rfl
  | true =>
    obtain ⟨hw, hl, hm, hfit, hpr⟩ := waves_true hwv
    obtain ⟨hr, hb, hc⟩ := waveOk_right hw
    obtain ⟨c, k, hc1, hk1, hk3, ec, ek, efr, ekk⟩ := frame_nat hw
    obtain ⟨ef, -, -, -, -, -⟩ := frame_eq hr
    have hdl := dataB_length hb l
    rw [ekk] at hdl
    have hd := dataB_short hw hl (by decide)
    simp only [Bool.not_true, cond_false, wave_Print f (show l.length ≤ 100000 by omega), hpr, Option.bind_some]
    have w1 : IntKind.wrap .i64 (((List.length l : Nat) : Int) * f.2.2.1) = ((8 * (l.length * k) : Nat) : Int) := by
      have e : ((List.length l : Nat) : Int) * f.2.2.1 = ((8 * (l.length * k) : Nat) : Int) := by
        rw [ek, ← Int.natCast_mul]; congr 1; rw [Nat.mul_left_comm]
      rw [e]; exact wrap64 (by omega)
    have w2 : Int.tdiv ((8 * (l.length * k) : Nat) : Int) 8 = ((l.length * k : Nat) : Int) := by
      rw [Int.tdiv_eq_ediv_of_nonneg (by omega)]; omega
    have w3 : IntKind.wrap .i64 ((l.length * k : Nat) : Int) = ((l.length * k : Nat) : Int) := wrap64 (by omega)
    have w4 : Int.tmod ((l.length * k : Nat) : Int) 2 = ((l.length * k % 2 : Nat) : Int) := rfl
    have w5 : IntKind.wrap .i64 ((44 : Int) + ((l.length * k : Nat) : Int)) = ((44 + l.length * k : Nat) : Int) := by rw [wrap64 (by omega)]; omega
    have w6 : IntKind.wrap .i64 (((44 + l.length * k : Nat) : Int) + ((l.length * k % 2 : Nat) : Int)) = ((44 + l.length * k + l.length * k % 2 : Nat) : Int) := by rw [wrap64 (by omega)]; omega
    simp only [w1, w2, w3, w4, w5, w6]
    have hL : (riff (bodyB f l)).length = 44 + l.length * k + l.length * k % 2 := by
      unfold riff; rw [bodyB_eq]
      simp only [List.length_append, sB_length, chunkF_len, chunkD_len, List.length_cons, List.length_nil]; omega
    have hBL : (bodyB f l).length = 36 + l.length * k + l.length * k % 2 := by
      rw [bodyB_eq]
      simp only [List.length_append, chunkF_len, chunkD_len, List.length_cons, List.length_nil]; omega
    have e0 : ((0 : Int) != 0) = false := rfl
    have e1 : (((List.length (riff (bodyB f l)) : Nat) : Int) != ((44 + l.length * k + l.length * k % 2 : Nat) : Int)) = false := by rw [hL]; simp
    rw [e0, e1]
    have w7 : IntKind.wrap .i64 (((44 + l.length * k + l.length * k % 2 : Nat) : Int) - 8) = ((bodyB f l).length : Int) := by rw [hBL, wrap64 (by omega)]; omega
    have c8 : decide ((8 : Int) ≤ ((44 + l.length * k + l.length * k % 2 : Nat) : Int)) = true := by simp only [decide_eq_true_eq]; omega
    have c44 : decide ((44 : Int) ≤ ((44 + l.length * k + l.length * k % 2 : Nat) : Int)) = true := by simp only [decide_eq_true_eq]; omega
    have c34 : decide ((34 : Int) ≤ ((44 + l.length * k + l.length * k % 2 : Nat) : Int)) = true := by simp only [decide_eq_true_eq]; omega
    have e : riff (bodyB f l) = [82, 73, 70, 70] ++ (sB 4 ((bodyB f l).length : Int) ++ ([87, 65, 86, 69] ++ (nFmt ++ (sB 4 16 ++ (sB 2 1 ++ (sB 2 f.2.1 ++ (sB 4 f.1 ++ (sB 4 (f.1 * frameOf f) ++ (sB 2 (frameOf f) ++ (sB 2 f.2.2.1 ++ (nData ++ (sB 4 ((dataB f.2.2.1 l).length : Int) ++ (dataB f.2.2.1 l ++ (if (dataB f.2.2.1 l).length % 2 = 1 then [0] else [])))))))))))))) := by
      unfold riff
      rw [show [82, 73, 70, 70] ++ sB 4 ((bodyB f l).length : Int) ++ bodyB f l = [82, 73, 70, 70] ++ (sB 4 ((bodyB f l).length : Int) ++ bodyB f l) from List.append_assoc _ _ _]
      congr 2
      unfold bodyB chunkB nFmt nData
      rw [fmtB_length]
      unfold fmtB
      simp only [List.append_assoc]
      rfl
    have s4 : sl (riff (bodyB f l)) 4 4 = sB 4 ((bodyB f l).length : Int) := by rw [e]; exact sl_mid rfl (sB_length _ _)
    have s40 : sl (riff (bodyB f l)) 40 4 = sB 4 ((l.length * k : Nat) : Int) := by
      rw [e, ← hdl]
      iterate 11 rw [← List.append_assoc]
      exact sl_mid (by simp [sB_length, nFmt, nData]) (sB_length _ _)
    have s32 : sl (riff (bodyB f l)) 32 2 = sB 2 (frameOf f) := by
      rw [e]
      iterate 8 rw [← List.append_assoc]
      exact sl_mid (by simp [sB_length, nFmt]) (sB_length _ _)
    have sm := ref2_SmallS (frameOf f) (k := 2) (by decide)
    rw [show ((2 : Nat) : Int) = 2 from rfl] at sm
    simp only [Option.bind_some, cond_false, hL, c8, c44, c34, cond_true, w7, law18_small, take_drop_sl, s4, s40, s32, F_kinoraref2_Same, ef, sm, beq_self_eq_true]

end Go.Ab

/- Plain lemmas: the laws WaveChunks and WaveTwice. Conditions: as each lemma states. -/
namespace Go.Ab

theorem law18_chunk {d : List Int} (h : d.length ≤ 1000) : F_kinoralaw18_chunk d = some (chunkB nList d) := by
  simp only [F_kinoralaw18_chunk, law18_small, Option.bind_some, List.append_eq]
  rw [lim_of (by rw [sB_length]; omega)]
  simp only [cond_true]
  rw [lim_of (by simp only [List.length_append, sB_length, List.length_cons, List.length_nil]; omega)]
  simp only [cond_true]
  have hm : Int.tmod ((List.length d : Nat) : Int) 2 = ((d.length % 2 : Nat) : Int) := rfl
  rw [hm]
  unfold chunkB nList
  by_cases h1 : d.length % 2 = 1
  · have e : (((d.length % 2 : Nat) : Int) == (1 : Int)) = true := by rw [h1]; rfl
    rw [e, if_pos h1, lim_of (by simp only [List.length_append, sB_length, List.length_cons, List.length_nil]; omega)]
    rfl
  · have e : (((d.length % 2 : Nat) : Int) == (1 : Int)) = false := by
      have : d.length % 2 = 0 := by omega
      rw [this]; rfl
    rw [e, if_neg h1, List.append_nil]
    rfl

theorem wave_parts (f : Fmt) (l : List Int) :
    sl (riff (bodyB f l)) 12 24 = chunkB nFmt (fmtB f) ∧ sl (riff (bodyB f l)) 36 ((riff (bodyB f l)).length - 36) = chunkB nData (dataB f.2.2.1 l) ∧
      (riff (bodyB f l)).length = 36 + (chunkB nData (dataB f.2.2.1 l)).length := by
  have e : riff (bodyB f l) = ([82, 73, 70, 70] ++ sB 4 ((bodyB f l).length : Int) ++ [87, 65, 86, 69]) ++ (chunkB nFmt (fmtB f) ++ (chunkB nData (dataB f.2.2.1 l) ++ [])) := by
    unfold riff
    conv => lhs; rhs; rw [bodyB_eq]
    simp only [List.append_assoc]
  have h1 : ([82, 73, 70, 70] ++ sB 4 ((bodyB f l).length : Int) ++ [87, 65, 86, 69]).length = 12 := by
    simp only [List.length_append, sB_length, List.length_cons, List.length_nil]
  have hl : (riff (bodyB f l)).length = 36 + (chunkB nData (dataB f.2.2.1 l)).length := by
    rw [e]; simp only [List.length_append, h1, chunkF_len, List.length_nil]; omega
  refine ⟨by rw [e]; exact sl_mid h1 (chunkF_len f), ?_, hl⟩
  rw [hl, Nat.add_sub_cancel_left, e, ← List.append_assoc]
  exact sl_mid (by rw [List.length_append, h1, chunkF_len]) rfl

theorem law_WaveChunks (f : Fmt) (l : List Int) {x y z : List Int} (hx : Bytes x) (hy : Bytes y) (hz : Bytes z) : F_kinoralaw18_WaveChunks (f, (l, (x, (y, z)))) = some true := by
  simp only [F_kinoralaw18_WaveChunks, law18_known, Option.bind_some, Bool.not_true, cond_false, law18_waves f l (m := 200) (by decide)]
  cases hwv : (fitsB f l 200 && decide (f.2.2.1 = 8 ∨ f.2.2.1 = 16 ∨ f.2.2.1 = 24)) with
  | false => rfl
  | true =>
    obtain ⟨hw, hl, hm, hfit, hpr⟩ := waves_true hwv
    simp only [Bool.not_true, cond_false]
    by_cases h1 : x.length > 60
    · have e : decide (((List.length x : Nat) : Int) > (60 : Int)) = true := by simp; omega
      rw [e]; rfl
    have e1 : decide (((List.length x : Nat) : Int) > (60 : Int)) = false := by simp; omega
    rw [e1]
    by_cases h2 : y.length > 60
    · have e : decide (((List.length y : Nat) : Int) > (60 : Int)) = true := by simp; omega
      rw [e]; rfl
    have e2 : decide (((List.length y : Nat) : Int) > (60 : Int)) = false := by simp; omega
    rw [e2]
    by_cases h3 : z.length > 60
    · have e : decide (((List.length z : Nat) : Int) > (60 : Int)) = true := by simp; omega
      rw [e]; rfl
    have e3 : decide (((List.length z : Nat) : Int) > (60 : Int)) = false := by simp; omega
    rw [e3]
    have hd := dataB_short hw hl (by decide)
    obtain ⟨p12, p36, pl⟩ := wave_parts f l
    have hD := chunkD_len (dataB f.2.2.1 l)
    have hF := chunkF_len f
    have hX : (chunkB nList x).length ≤ 70 := by rw [chunkB_length]; simp only [nList, List.length_cons, List.length_nil]; omega
    have hY : (chunkB nList y).length ≤ 70 := by rw [chunkB_length]; simp only [nList, List.length_cons, List.length_nil]; omega
    have hZ : (chunkB nList z).length ≤ 70 := by rw [chunkB_length]; simp only [nList, List.length_cons, List.length_nil]; omega
    simp only [cond_false, wave_Print f (show l.length ≤ 100000 by omega), hpr, Option.bind_some, List.append_eq, take_drop_sl]
    have e0 : ((0 : Int) != 0) = false := rfl
    have e44 : decide (((List.length (riff (bodyB f l)) : Nat) : Int) < 44) = false := by rw [pl, hD]; simp only [decide_eq_false_iff_not]; omega
    have e36 : decide ((36 : Int) ≤ ((List.length (riff (bodyB f l)) : Nat) : Int)) = true := by rw [pl]; simp only [decide_eq_true_eq]; omega
    rw [e0, e44]
    simp only [cond_false, e36, cond_true, Option.bind_some, law18_chunk (show x.length ≤ 1000 by omega), law18_chunk (show y.length ≤ 1000 by omega), law18_chunk (show z.length ≤ 1000 by omega), p12, p36]
    obtain ⟨body, hbody⟩ : ∃ body, body = chunkB nList x ++ (chunkB nFmt (fmtB f) ++ (chunkB nList y ++ (chunkB nData (dataB f.2.2.1 l) ++ (chunkB nList z ++ [])))) := ⟨_, rfl⟩
    have hin : [87, 65, 86, 69] ++ chunkB nList x ++ chunkB nFmt (fmtB f) ++ chunkB nList y ++ chunkB nData (dataB f.2.2.1 l) ++ chunkB nList z = [87, 65, 86, 69] ++ body := by
      rw [hbody]; simp only [List.append_assoc, List.append_nil]
    have hbl : body.length ≤ 4000 := by rw [hbody]; simp only [List.length_append, List.length_nil]; omega
    rw [lim_of (by omega)]
    simp only [cond_true]
    rw [lim_of (by simp only [List.length_append, List.length_cons, List.length_nil]; omega)]
    simp only [cond_true]
    rw [lim_of (by simp only [List.length_append, List.length_cons, List.length_nil]; omega)]
    simp only [cond_true]
    rw [lim_of (by simp only [List.length_append, List.length_cons, List.length_nil]; omega)]
    simp only [cond_true]
    rw [lim_of (by simp only [List.length_append, List.length_cons, List.length_nil]; omega)]
    simp only [cond_true, hin, law18_small, Option.bind_some]
    rw [lim_of (by rw [sB_length]; omega)]
    simp only [cond_true]
    rw [lim_of (by simp only [List.length_append, sB_length, List.length_cons, List.length_nil]; omega)]
    simp only [cond_true]
    have hrf : [82, 73, 70, 70] ++ sB 4 (([87, 65, 86, 69] ++ body).length : Int) ++ ([87, 65, 86, 69] ++ body) = riff ([87, 65, 86, 69] ++ body) := rfl
    rw [hrf]
    have hrl : (riff ([87, 65, 86, 69] ++ body)).length = 12 + body.length := by
      unfold riff; simp only [List.length_append, sB_length, List.length_cons, List.length_nil]; omega
    have hbb : Bytes (riff ([87, 65, 86, 69] ++ body)) := by
      have nb : Bytes nList := bytes_of (by decide)
      refine riff_bytes (bytes_app (bytes_of (by decide)) ?_)
      rw [hbody]
      exact bytes_app (chunkB_bytes nb hx) (bytes_app (chunkB_bytes (bytes_of (by decide)) (fmtB_bytes f)) (bytes_app (chunkB_bytes nb hy) (bytes_app (chunkB_bytes (bytes_of (by decide)) (dataB_bytes _ _)) (bytes_app (chunkB_bytes nb hz) (bytes_of (by decide))))))
    have hp : parsed (riff ([87, 65, 86, 69] ++ body)) = (f, (l, 0)) := by
      have := parsed_riff (body := body) (by omega) [] (N := 5000) (by omega)
      rw [List.append_nil] at this
      rw [this, hbody, loop_list (by omega), loop_fmt hw, loop_list (by omega), loop_data hw hm hfit (by omega), loop_list (by omega), loop_end]
      rfl
    have w1 : IntKind.wrap .i64 (((List.length (riff ([87, 65, 86, 69] ++ body)) : Nat) : Int) - 1) = ((11 + body.length : Nat) : Int) := by rw [hrl, wrap64 (by omega)]; omega
    simp only [wave_Parse hbb (by omega), hp, Option.bind_some, w1, Int.toNat_natCast]
    have c1 : (decide ((0 : Int) ≤ ((11 + body.length : Nat) : Int)) && decide (((11 + body.length : Nat) : Int) ≤ ((List.length (riff ([87, 65, 86, 69] ++ body)) : Nat) : Int))) = true := by
      rw [hrl]; simp only [Bool.and_eq_true, decide_eq_true_eq]; omega
    rw [c1]
    have hcb : Bytes ((riff ([87, 65, 86, 69] ++ body)).take (11 + body.length)) := fun b hb' => hbb b (List.mem_of_mem_take hb')
    have hcl : ((riff ([87, 65, 86, 69] ++ body)).take (11 + body.length)).length = 11 + body.length := by rw [List.length_take, hrl]; omega
    have hcut := parsed_cut (d := [87, 65, 86, 69] ++ body) (by simp) (by simp only [List.length_append, List.length_cons, List.length_nil]; omega) rfl (c := (riff ([87, 65, 86, 69] ++ body)).take (11 + body.length)) (by rw [hcl, hrl]; omega) (by rw [hcl])
    simp only [cond_true, wave_Parse hcb (by omega), hcut, Option.bind_some, eqT_fmt, sameInts l (by omega)]
    rfl

/-- The file of some chunks: what the law's last steps say of it. -/
theorem twice_end {body : List Int} {e : Int} (hbl : body.length ≤ 20000) (hbb : Bytes body) (hp : endP (loopP 30000 ([], (false, (false, (zeroF, body))))) = (zeroF, ([], e))) :
    ((F_kinoralaw18_small ((List.length (List.append [87, 65, 86, 69] body) : Nat) : Int)).bind fun y6 =>
      bif lim (4 + (List.length y6)) then (
      bif lim ((List.length (List.append ([(82 : Int), (73 : Int), (70 : Int), (70 : Int)] : List Int) y6)) + (List.length (List.append [87, 65, 86, 69] body))) then (
      (F_wave_Parse (List.append (List.append ([(82 : Int), (73 : Int), (70 : Int), (70 : Int)] : List Int) y6) (List.append [87, 65, 86, 69] body))).bind fun y7 =>
      bif y7.2.2 == e then some (((List.length y7.2.1 : Nat) : Int) == (0 : Int))
      else some false)
      else none)
      else none) = some true := by
  simp only [law18_small, Option.bind_some, List.append_eq]
  rw [lim_of (by rw [sB_length]; omega)]
  simp only [cond_true]
  rw [lim_of (by simp only [List.length_append, sB_length, List.length_cons, List.length_nil]; omega)]
  simp only [cond_true]
  have hrf : [82, 73, 70, 70] ++ sB 4 (([87, 65, 86, 69] ++ body).length : Int) ++ ([87, 65, 86, 69] ++ body) = riff ([87, 65, 86, 69] ++ body) := rfl
  rw [hrf]
  have hrl : (riff ([87, 65, 86, 69] ++ body)).length = 12 + body.length := by
    unfold riff; simp only [List.length_append, sB_length, List.length_cons, List.length_nil]; omega
  have hpp : parsed (riff ([87, 65, 86, 69] ++ body)) = (zeroF, ([], e)) := by
    have := parsed_riff (body := body) (by omega) [] (N := 30000) (by omega)
    rw [List.append_nil] at this
    rw [this, hp]
  simp only [wave_Parse (riff_bytes (bytes_app (bytes_of (by decide)) hbb)) (by omega : (riff ([87, 65, 86, 69] ++ body)).length < 100000), hpp, Option.bind_some, beq_self_eq_true, cond_true]
  rfl

theorem law_WaveTwice (f : Fmt) (l : List Int) (way : Int) : F_kinoralaw18_WaveTwice (f, (l, way)) = some true := by
  simp only [F_kinoralaw18_WaveTwice, law18_known, Option.bind_some, Bool.not_true, cond_false, law18_waves f l (m := 200) (by decide)]
  cases hwv : (fitsB f l 200 && decide (f.2.2.1 = 8 ∨ f.2.2.1 = 16 ∨ f.2.2.1 = 24)) with
  | false => rfl
  | true =>
    obtain ⟨hw, hl, hm, hfit, hpr⟩ := waves_true hwv
    have hd := dataB_short hw hl (by decide)
    obtain ⟨p12, p36, pl⟩ := wave_parts f l
    have hD := chunkD_len (dataB f.2.2.1 l)
    have hF := chunkF_len f
    simp only [Bool.not_true, cond_false, wave_Print f (show l.length ≤ 100000 by omega), hpr, Option.bind_some, take_drop_sl]
    have e0 : ((0 : Int) != 0) = false := rfl
    have e44 : decide (((List.length (riff (bodyB f l)) : Nat) : Int) < 44) = false := by rw [pl, hD]; simp only [decide_eq_false_iff_not]; omega
    have e36 : decide ((36 : Int) ≤ ((List.length (riff (bodyB f l)) : Nat) : Int)) = true := by rw [pl]; simp only [decide_eq_true_eq]; omega
    rw [e0, e44]
    simp only [cond_false, e36, cond_true, Option.bind_some, p12, p36]
    have bF : Bytes (chunkB nFmt (fmtB f)) := chunkB_bytes (bytes_of (by decide)) (fmtB_bytes f)
    have bD : Bytes (chunkB nData (dataB f.2.2.1 l)) := chunkB_bytes (bytes_of (by decide)) (dataB_bytes _ _)
    have asc : ∀ a b c : List Int, List.append (List.append a b) c = List.append a (List.append b c) := fun a b c => List.append_assoc a b c
    by_cases c0 : Int.tmod way 5 = 0
    · have g : (Int.tmod way 5 == 0) = true := by simpa using c0
      rw [g, lim_of (by omega)]
      simp only [cond_true]
      rw [lim_of (by simp only [List.append_eq, List.length_append, List.length_cons, List.length_nil]; omega)]
      simp only [cond_true]
      rw [lim_of (by simp only [List.append_eq, List.length_append, List.length_cons, List.length_nil]; omega)]
      simp only [cond_true, Option.bind_some, asc]
      refine twice_end (by simp only [List.append_eq, List.length_append]; omega) (bytes_app bF (bytes_app bD bF)) ?_
      simp only [List.append_eq]
      rw [loop_fmt hw, loop_data hw hm hfit (by omega), ← List.append_nil (chunkB nFmt (fmtB f)), loop_fmt2 (by rw [fmtB_length]; decide)]
      rfl
    have g0 : (Int.tmod way 5 == 0) = false := by simpa using c0
    rw [g0]
    simp only [cond_false]
    by_cases c1 : Int.tmod way 5 = 1
    · have g : (Int.tmod way 5 == 1) = true := by simpa using c1
      rw [g, lim_of (by omega)]
      simp only [cond_true]
      rw [lim_of (by simp only [List.append_eq, List.length_append, List.length_cons, List.length_nil]; omega)]
      simp only [cond_true]
      rw [lim_of (by simp only [List.append_eq, List.length_append, List.length_cons, List.length_nil]; omega)]
      simp only [cond_true, Option.bind_some, asc]
      refine twice_end (by simp only [List.append_eq, List.length_append]; omega) (bytes_app bF (bytes_app bD bD)) ?_
      simp only [List.append_eq]
      rw [loop_fmt hw, loop_data hw hm hfit (by omega), ← List.append_nil (chunkB nData (dataB f.2.2.1 l)), loop_data2 (by omega)]
      rfl
    have g1 : (Int.tmod way 5 == 1) = false := by simpa using c1
    rw [g1]
    simp only [cond_false]
    by_cases c2 : Int.tmod way 5 = 2
    · have g : (Int.tmod way 5 == 2) = true := by simpa using c2
      rw [g, lim_of (by omega)]
      simp only [cond_true]
      rw [lim_of (by simp only [List.append_eq, List.length_append, List.length_cons, List.length_nil]; omega)]
      simp only [cond_true, Option.bind_some, asc]
      refine twice_end (by simp only [List.append_eq, List.length_append]; omega) (bytes_app bD bF) ?_
      simp only [List.append_eq]
      rw [loop_data0 (by omega)]
      rfl
    have g2 : (Int.tmod way 5 == 2) = false := by simpa using c2
    rw [g2]
    simp only [cond_false]
    by_cases c3 : Int.tmod way 5 = 3
    · have g : (Int.tmod way 5 == 3) = true := by simpa using c3
      rw [g, lim_of (by omega)]
      simp only [cond_true, Option.bind_some]
      refine twice_end (by omega) bF ?_
      rw [← List.append_nil (chunkB nFmt (fmtB f)), loop_fmt hw, loop_end]
      rfl
    have g3 : (Int.tmod way 5 == 3) = false := by simpa using c3
    rw [g3]
    simp only [cond_false, Option.bind_some]
    exact twice_end (body := []) (by simp) (bytes_of (by decide)) rfl

end Go.Ab
