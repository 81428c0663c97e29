import Derived.Laws.BytesString
import Derived.Laws.IdiomStrings
import Derived.Laws.Append
import Derived.Laws.MakeOwn
import Derived.Great.FillDense
import Derived.Laws.AppendOwn
import Derived.Test.YtcceojbcegmdnaaMA
/- Operations: slices of slices, addresses of elements and fields, loads. Conditions: as each lemma states. -/
namespace Go.Ab

section
variable {P : Program} {B : Base} {N : Nat} {ρ : Type} {Γ : AE} {a : Act} {w : World} {σ : Gh}

theorem Rel.sref_head (h : Rel B Γ N (tmOf a) w σ) {n p v r} {e : Ty} {l : List e.den} (ha : AVOk (memo w σ.ov) σ.g Γ.rt (Shr B w σ) (.sref n p) v) (hr : Γ.rt n = some r) (hg : getP r.t r.x p = ⟨.list true e, l⟩) :
    ∃ s A c, loc (memo w σ.ov) r.t (σ.g n) p = some (.list true e, s) ∧ s.rd (memo w σ.ov) 0 = some v ∧ v = .slice A l.length c ∧ l.length ≤ c ∧ (∀ A', A = some A' → A'.spot = none) ∧ (A = none → c = 0) := by
  obtain ⟨s, O', R', g1, g2, g3, g4, g5, g6⟩ := h.slice ha hr hg
  refine ⟨s, ?_⟩
  rcases dec_own g4 with ⟨hv, rfl, -⟩ | ⟨A, n0, c, os, hv, hA, hn, hx, -⟩
  · simp only [Src.rd, if_true, Option.some.injEq] at hv
    exact ⟨none, 0, g1, g2, hv, Nat.le_refl _, by simp, fun _ => rfl⟩
  · simp only [Src.rd, if_true, Option.some.injEq] at hv
    have hl := collect_length n0 0 hx
    exact ⟨some A, c, g1, g2, by rw [hv, hl], by omega, by rintro A' ⟨⟩; exact hA, by simp⟩

theorem slice_run {t t' : TypeId} {e : Ty} {A : Option Addr} {n c x y : Nat} {lo hi : Option Value} (hu : P.underlying t = some (.slice t')) (I : Info P e t')
    (hb : (Instr.sliceBounds true n c lo hi none).run P w = .ok (x, y, c) w) :
    (Instr.sliceAt t (.slice A n c) lo hi none).run P w = .ok (.slice (if c = x then A else A.map fun a => a.add (x * e.cells)) (y - x) (c - x)) w := by
  simp [Instr.sliceAt, Instr.slice, run_underlying hu, hb, I.sizeOf]

theorem emptied_some {ty : Option Ty} {v : AV} {K : AV → Rs ρ} {z : ρ} (h : emptied ty v K = some z) : ∃ o e, ty = some (.list o e) ∧ K .empt = some z ∧
    ((∃ o t l, v = .val (.list o t) l) ∨ v = .nils ∨ v = .empt ∨ (∃ n p, v = .sref n p) ∨ ∃ n p o k, v = .swin n p o k) := by
  unfold emptied at h
  split at h
  · exact ⟨_, _, rfl, h, .inl ⟨_, _, _, rfl⟩⟩
  · exact ⟨_, _, rfl, h, .inr (.inl rfl)⟩
  · exact ⟨_, _, rfl, h, .inr (.inr (.inl rfl))⟩
  · exact ⟨_, _, rfl, h, .inr (.inr (.inr (.inl ⟨_, _, rfl⟩)))⟩
  · exact ⟨_, _, rfl, h, .inr (.inr (.inr (.inr ⟨_, _, _, _, rfl⟩)))⟩
  · cases h

theorem does_slice {o : Oper} {t : TypeId} {x : Operand} {lo hi mx : Option Operand} {d : Nat} {cx : Cx} {q : Bool} {K : AE → Rs ρ} {z : ρ} (hcx : CxTy P cx) (ho : o.op = .slice t x lo hi mx) (hd : o.dst = some d)
    (h : Rel B Γ N (tmOf a) w σ) (hN : a.tmps.size = N) (hf : fits N o = true) (hz : aop cx q o Γ K = some z) : Does P B N o a w K z := by
  have hops : ∀ y ∈ (o.op.operands.toList), opdOk N y = true := fits_op hf
  rw [ho] at hops
  have hx := h.opd (hops x (by simp [Op.operands]))
  have hlo : ∀ y, lo = some y → opdOk N y = true := by rintro y rfl; exact hops y (by simp [Op.operands])
  have hhi : ∀ y, hi = some y → opdOk N y = true := by rintro y rfl; exact hops y (by simp [Op.operands])
  have run : ∀ v, (Instr.sliceAt t (a.eval x) (lo.map a.eval) (hi.map a.eval) (mx.map a.eval)).run P w = .ok v w → (execOp a.eval o).run P w = .ok (.value v) w := fun v hv => by simp [execOp, ho, hv]
  simp only [aop, ho, hd, AE.slic] at hz
  cases mx with
  | some m =>
    simp only at hz
    rcases bif_some hz with ⟨hc, hz'⟩ | ⟨-, hz⟩
    · simp only [Bool.and_eq_true, Option.isNone_iff_eq_none] at hc
      obtain ⟨⟨hm, hh⟩, rfl⟩ := hc
      clear hz
      have hzero : ∀ y : Option Operand, isZero y = true → ∃ k, y.map a.eval = some (.int k 0) := by
        intro y hy
        unfold isZero at hy
        split at hy
        · rename_i k; exact ⟨k, rfl⟩
        · cases hy
      obtain ⟨km, em⟩ := hzero _ hm
      obtain ⟨kh, eh⟩ := hzero _ hh
      obtain ⟨o1, e1, hT, hz, hcase⟩ := emptied_some hz'
      obtain ⟨hsh, hty⟩ := hcx.T t _ hT
      obtain ⟨t', hu, hte, -⟩ := tyOk_elem hty
      obtain ⟨I⟩ := baseOk_info (tyOk_base hte)
      have key : ∀ (A : Option Addr) n c, (∀ A', A = some A' → A'.spot = none) → a.eval x = .slice A n c → Does P B N o a w K z := by
        intro A n c hA hv
        have hbd : (Instr.sliceBounds true n c none (hi.map a.eval) (some (.int km 0))).run P w = .ok (0, 0, 0) w := by
          rw [eh]
          simp [Instr.sliceBounds, Instr.sliceBound, asIntOf]
        refine Does.set hd hN (v := .slice A 0 0) (run _ ?_) h (av := .empt) ⟨A, rfl, hA⟩ hz
        rw [hv, em]
        simp [Instr.sliceAt, Instr.slice, run_underlying hu, hbd, I.sizeOf]
      rcases hcase with ⟨o2, e2, l2, he⟩ | he | he | ⟨n, p, he⟩ | ⟨n, p, off, k, he⟩
      · rw [he] at hx
        have hx : VOk (memo w σ.ov) (Shr B w σ) (.list o2 e2) l2 (a.eval x) := hx
        obtain ⟨R, h1, h2⟩ := hx.rd rfl rfl
        have h1 : decL (memo w σ.ov) o2 e2.cells (dec (memo w σ.ov) e2) (some (a.eval x)) = some (l2, [], R) := h1
        unfold decL at h1
        split at h1
        · rename_i n c hv
          simp only [Option.some.injEq] at hv
          exact key none n c (by simp) hv
        · rename_i A n c hv
          simp only [Option.some.injEq] at hv
          split at h1
          · rename_i hc
            exact key (some A) n c (by rintro A' ⟨⟩; exact hc.1) hv
          · cases h1
        · cases h1
      · rw [he] at hx
        exact key none 0 0 (by simp) hx
      · rw [he] at hx
        obtain ⟨A, hv, hA⟩ := hx
        exact key A 0 0 hA hv
      · rw [he] at hx
        obtain ⟨r, e, s, h1, h2, h3⟩ := hx
        obtain ⟨O', R, g1, g2, -⟩ := h.sep h1
        obtain ⟨y, O1, R1, _, _, _, _, g3, g4, -⟩ := dec_loc _ r.t _ g1 h2
        obtain ⟨s', A, c, -, -, hv, -, hA, -⟩ := h.sref_head ⟨r, e, s, h1, h2, h3⟩ h1 g4
        exact key A _ c hA hv
      · rw [he] at hx
        obtain ⟨r, e, s, a0, l0, c0, h1, h2, h3, h4, a', hv, hA, -⟩ := hx
        exact key a' _ _ hA hv
    · cases hz
  | none =>
    simp only at hz
    split at hz
    · -- a string
      rename_i l he
      rw [he] at hx
      obtain ⟨s, hv, hl⟩ := AVOk.str hx
      split at hz
      · rename_i hT
        have hty := (hcx.T t _ hT).2
        have hu : P.underlying t = some .string := by
          simp only [tyOk, Bool.and_eq_true] at hty
          obtain ⟨-, hty⟩ := hty
          split at hty
          · assumption
          · cases hty
        obtain ⟨x', y', hK, h1, h2, -, -, hb⟩ := bnds_some h hlo hhi hz
        have hsz : l.length = s.size := by rw [hl]; simp
        refine Does.set hd hN (v := .string (s.extract x' y')) (run _ ?_) h ?_ hK
        · rw [hv]
          have hb' : (Instr.sliceBounds false s.size s.size (lo.map a.eval) (hi.map a.eval) none).run P w = .ok (x', y', s.size) w := by
            have := hb false s.size (by omega)
            rw [← hsz] at this ⊢
            exact this
          simp only [Option.map_none]
          simp [Instr.sliceAt, Instr.slice, run_underlying hu, hb']
        · have := AVOk.mk_str (m := memo w σ.ov) (g := σ.g) (rt := Γ.rt) (Sh := Shr B w σ) (s.extract x' y')
          have e : ((s.extract x' y').data.toList.map fun b => (b.toNat : Int)) = (l.take y').drop x' := by
            rw [hl]
            simp [List.drop_take, ← List.map_drop, ← List.map_take]
          rw [e] at this
          exact this
      · cases hz
    · -- a shared slice
      rename_i e l he
      rw [he] at hx
      split at hz
      · rename_i hT
        obtain ⟨hsh, hty⟩ := hcx.T t _ hT
        obtain ⟨t', hu, hte, -⟩ := tyOk_elem hty
        obtain ⟨I⟩ := baseOk_info (tyOk_base hte)
        obtain ⟨x', y', hK, h1, h2, -, -, hb⟩ := bnds_some h hlo hhi hz
        obtain ⟨A, n, c, hv, hn, hc, hA, hnil⟩ := VOk.header hx
        have hx' : VOk (memo w σ.ov) (Shr B w σ) (.list false e) l (.slice A n c) := by rw [← hv]; exact hx
        refine Does.set hd hN (run _ (by rw [hv]; exact slice_run hu I (by rw [hn]; exact hb true c (by omega)))) h ?_ hK
        exact VOk.window hx' h1 (by omega) rfl
      · cases hz
    · -- nil
      rename_i he
      rw [he] at hx
      split at hz
      · rename_i o1 e1 hT
        obtain ⟨hsh, hty⟩ := hcx.T t _ hT
        obtain ⟨t', hu, hte, -⟩ := tyOk_elem hty
        obtain ⟨I⟩ := baseOk_info (tyOk_base hte)
        obtain ⟨x', y', hK, h1, h2, -, -, hb⟩ := bnds_some h hlo hhi hz
        obtain rfl : y' = 0 := by omega
        obtain rfl : x' = 0 := by omega
        have hv : a.eval x = .slice none 0 0 := hx
        refine Does.set hd hN (v := .slice none 0 0) (run _ ?_) h (av := .nils) rfl hK
        rw [hv, Option.map_none]
        have := slice_run (A := none) hu I (hb true 0 (by omega))
        simpa using this
      · cases hz
    · -- an owned slice
      rename_i n p he
      rw [he] at hx
      obtain ⟨r, e, l, hpd, hr, hg, hz⟩ := body_some hz
      split at hz
      · rename_i hT
        obtain ⟨hsh, hty⟩ := hcx.T t _ hT
        obtain ⟨t', hu, hte, -⟩ := tyOk_elem hty
        rw [tyOk_sh] at hte
        obtain ⟨I⟩ := baseOk_info (tyOk_base hte)
        obtain ⟨s, A, c, g1, g2, hv, g3, hA, hnil⟩ := h.sref_head hx hr hg
        split at hz
        · refine Does.set hd hN (v := a.eval x) (run _ ?_) h hx hz
          rw [hv]
          have hb : (Instr.sliceBounds true l.length c none none none).run P w = .ok (0, l.length, c) w := by simp [Instr.sliceBounds]
          have := slice_run (A := A) hu I hb
          simp only [Option.map_none]
          rw [this]
          congr 2
          split
          · rfl
          · cases A with
            | none => rfl
            | some a0 => simp [Addr.add_zero']
        · obtain ⟨x', y', hK, h1, h2, -, -, hb⟩ := bnds_some h hlo hhi hz
          refine Does.set hd hN (run _ (by rw [hv]; exact slice_run hu I (hb true c g3))) h (av := .swin n p x' (y' - x')) ?_ hK
          refine ⟨r, e, s, A, l.length, c, hr, g1, by rw [g2, hv], by omega, _, rfl, ?_, ?_⟩
          · intro A' hA'
            split at hA'
            · exact hA A' hA'
            · cases A with
              | none => simp at hA'
              | some a0 =>
                simp only [Option.map_some, Option.some.injEq] at hA'
                rw [← hA', add_none (hA a0 rfl)]
          · by_cases hcx' : c = x'
            · exact .inl hcx'
            · exact .inr (by rw [if_neg hcx'])
      · cases hz
    · -- a window
      rename_i n p off k he
      rw [he] at hx
      obtain ⟨r, e, l, hpd, hr, hg, hz⟩ := body_some hz
      split at hz
      · rename_i hT
        obtain ⟨hsh, hty⟩ := hcx.T t _ hT
        obtain ⟨t', hu, hte, -⟩ := tyOk_elem hty
        rw [tyOk_sh] at hte
        obtain ⟨I⟩ := baseOk_info (tyOk_base hte)
        obtain ⟨s, O', R', A, n0, c, g1, g2, g3, g4, g5, g6, A', hv, g7, g8⟩ := h.window hx hr hg
        obtain ⟨x', y', hK, h1, h2, -, -, hb⟩ := bnds_some h hlo hhi hz
        have hnc : n0 ≤ c := by
          rcases dec_own g3 with ⟨hv0, -⟩ | ⟨A0, nn, c', os, hv0, -, hn0, -⟩ <;> simp only [Src.rd, if_true, Option.some.injEq, Value.slice.injEq] at hv0 <;> omega
        refine Does.set hd hN (run _ (by rw [hv]; exact slice_run hu I (hb true (c - off) (by omega)))) h (av := .swin n p (off + x') (y' - x')) ?_ hK
        refine ⟨r, e, s, A, n0, c, hr, g1, g2, by omega, _, by rw [show c - (off + x') = c - off - x' from by omega], ?_, ?_⟩
        · intro A'' hA''
          split at hA''
          · exact g7 A'' hA''
          · cases A' with
            | none => simp at hA''
            | some a0 =>
              simp only [Option.map_some, Option.some.injEq] at hA''
              rw [← hA'', add_none (g7 a0 rfl)]
        · by_cases hcc : c - off = x'
          · exact .inl (by omega)
          · refine .inr ?_
            rw [if_neg hcc]
            rcases g8 with g8 | g8
            · have : x' = 0 := by omega
              omega
            · rw [g8]
              cases A with
              | none => rfl
              | some a0 =>
                have ha0 : a0.spot = none := by
                  rcases dec_own g3 with ⟨hv0, -⟩ | ⟨A0, nn, c', os, hv0, hs0, -⟩
                  · simp [Src.rd] at hv0
                  · simp only [Src.rd, if_true, Option.some.injEq, Value.slice.injEq] at hv0
                    rw [hv0.1]; exact hs0
                simp only [Option.map_some, add_none ha0]
                rw [add_none rfl]
                simp only [Nat.add_mul]
                congr 2
                omega
      · cases hz
    · cases hz

end
end Go.Ab

/- Operations: addresses of elements and fields, loads, lengths. Conditions: as each lemma states. -/
namespace Go.Ab

section
variable {P : Program} {B : Base} {N : Nat} {ρ : Type} {Γ : AE} {a : Act} {w : World} {σ : Gh}

theorem run_indexAt {t t' : TypeId} {e : Ty} {A : Addr} {n c : Nat} {k : IntKind} {i : Int} (hu : P.underlying t = some (.slice t')) (I : Info P e t') (hA : A.spot = none) (h0 : 0 ≤ i) (h1 : i < n) :
    (Instr.indexAt t (.slice (some A) n c) (.int k i)).run P w = .ok (.pointer (some ⟨A.block, A.off + i.toNat * e.cells, none⟩)) w := by
  have hc : 0 ≤ i ∧ i < (n : Int) := ⟨h0, h1⟩
  simp [Instr.indexAt, run_underlying hu, asIntOf, hc, I.sizeOf, add_none hA]

theorem run_indexAtArr {t t' : TypeId} {e : Ty} {b o n : Nat} {k : IntKind} {i : Int} (hu : P.underlying t = some (.array n t')) (I : Info P e t') (h0 : 0 ≤ i) (h1 : i < n) :
    (Instr.indexAt t (.pointer (some ⟨b, o, none⟩)) (.int k i)).run P w = .ok (.pointer (some ⟨b, o + i.toNat * e.cells, none⟩)) w := by
  have hc : 0 ≤ i ∧ i < (n : Int) := ⟨h0, h1⟩
  simp [Instr.indexAt, run_underlying hu, asIntOf, hc, I.sizeOf, Instr.sureAddr, Addr.add_lit]

theorem does_indexAddr {o : Oper} {t : TypeId} {x i : Operand} {d : Nat} {cx : Cx} {q : Bool} {K : AE → Rs ρ} {z : ρ} (hcx : CxTy P cx) (ho : o.op = .indexAddr t x i) (hd : o.dst = some d)
    (h : Rel B Γ N (tmOf a) w σ) (hN : a.tmps.size = N) (hf : fits N o = true) (hz : aop cx q o Γ K = some z) : Does P B N o a w K z := by
  have hops : ∀ y ∈ (o.op.operands.toList), opdOk N y = true := fits_op hf
  rw [ho] at hops
  have hx := h.opd (hops x (by simp [Op.operands]))
  have hi := h.opd (hops i (by simp [Op.operands]))
  have run : ∀ v, (Instr.indexAt t (a.eval x) (a.eval i)).run P w = .ok v w → (execOp a.eval o).run P w = .ok (.value v) w := fun v hv => by simp [execOp, ho, hv]
  simp only [aop, ho, hd] at hz
  split at hz
  case h_2 => cases hz
  rename_i k j hij
  rw [hij] at hi
  have hiv := AVOk.int hi
  rw [hiv] at run
  simp only [AE.addrK] at hz
  split at hz
  · -- a shared slice
    rename_i e l he
    rw [he] at hx
    split at hz
    · rename_i hT
      obtain ⟨hsh, hty⟩ := hcx.T t _ hT
      obtain ⟨t', hu, hte, -⟩ := tyOk_elem hty
      obtain ⟨I⟩ := baseOk_info (tyOk_base hte)
      obtain ⟨y, hg, hz⟩ := Option.bind_eq_some_iff.1 hz
      obtain ⟨h0, h1, h2⟩ := gidx_some hg
      have hsh' : e.sh = e := by simpa [Ty.sh] using hsh
      obtain ⟨A, n, c, R, hv, hA, hn, hnc, hdec, hS, hR⟩ := VOk.elem hsh' hx h2
      refine Does.set hd hN (run _ (by rw [hv]; exact run_indexAt hu I hA h0 (by omega))) h (av := .vptr e y) ?_ hz
      exact ⟨A.block, A.off + j.toNat * e.cells, R, rfl, hdec, hS, hR⟩
    · cases hz
  · -- an owned slice
    rename_i n p he
    rw [he] at hx
    obtain ⟨r, e, l, hpd, hr, hg, hz⟩ := body_some hz
    split at hz
    · rename_i hT
      obtain ⟨hsh, hty⟩ := hcx.T t _ hT
      obtain ⟨t', hu, hte, -⟩ := tyOk_elem hty
      rw [tyOk_sh] at hte
      obtain ⟨I⟩ := baseOk_info (tyOk_base hte)
      rcases bif_some hz with ⟨hc, hz⟩ | ⟨-, hz⟩
      · simp only [Bool.and_eq_true, decide_eq_true_eq] at hc
        obtain ⟨s, A, c, g1, g2, hv, g3, hA, hnil⟩ := h.sref_head hx hr hg
        cases A with
        | none => have := hnil rfl; omega
        | some A =>
          refine Does.set hd hN (run _ (by rw [hv]; exact run_indexAt hu I (hA A rfl) hc.1 hc.2)) h (av := .ptr n (p ++ [.idx j.toNat])) ?_ hz
          refine ⟨r, e, A.block, A.off + j.toNat * e.cells, hr, ?_, rfl⟩
          rw [loc_append p _ _ _ g1]
          have hjl : j.toNat < l.length := by omega
          simp only [loc, locQ, g2, hv, if_pos hjl]
      · cases hz
    · cases hz
  · -- a window
    rename_i n p off k' he
    rw [he] at hx
    obtain ⟨r, e, l, hpd, hr, hg, hz⟩ := body_some hz
    split at hz
    · rename_i hT
      obtain ⟨hsh, hty⟩ := hcx.T t _ hT
      obtain ⟨t', hu, hte, -⟩ := tyOk_elem hty
      rw [tyOk_sh] at hte
      obtain ⟨I⟩ := baseOk_info (tyOk_base hte)
      rcases bif_some hz with ⟨hc, hz⟩ | ⟨-, hz⟩
      · simp only [Bool.and_eq_true, decide_eq_true_eq] at hc
        obtain ⟨s, O', R', A, n0, c, g1, g2, g3, g4, g5, g6, A', hv, g7, g8⟩ := h.window hx hr hg
        have hnc : n0 ≤ c := by
          rcases dec_own g3 with ⟨hv0, -⟩ | ⟨A0, nn, c', os, hv0, -, hn0, -⟩ <;> simp only [Src.rd, if_true, Option.some.injEq, Value.slice.injEq] at hv0 <;> omega
        rcases dec_own g3 with ⟨hv0, -⟩ | ⟨A0, nn, c', os, hv0, hA0, hn0, -⟩
        · simp only [Src.rd, if_true, Option.some.injEq, Value.slice.injEq] at hv0; omega
        · simp only [Src.rd, if_true, Option.some.injEq, Value.slice.injEq] at hv0
          obtain ⟨rfl, rfl, rfl⟩ := hv0
          rcases g8 with g8 | g8
          · omega
          · simp only [Option.map_some, add_none hA0] at g8
            subst g8
            refine Does.set hd hN (run _ (by rw [hv]; exact run_indexAt hu I rfl hc.1 hc.2)) h (av := .ptr n (p ++ [.idx (off + j.toNat)])) ?_ hz
            refine ⟨r, e, A0.block, A0.off + (off + j.toNat) * e.cells, hr, ?_, by rw [Nat.add_mul, Nat.add_assoc]⟩
            rw [loc_append p _ _ _ g1]
            have hjl : off + j.toNat < n0 := by omega
            simp only [loc, locQ, g2, if_pos hjl]
      · cases hz
    · cases hz
  · -- an array in a root
    rename_i n p he
    rw [he] at hx
    split at hz
    · rename_i r hr
      split at hz
      · rename_i k' e l' hg
        split at hz
        · rename_i hT
          obtain ⟨hsh, hty⟩ := hcx.T t _ hT
          obtain ⟨t', hu, hte, -⟩ := tyOk_arr hty
          rw [tyOk_sh] at hte
          obtain ⟨I⟩ := baseOk_info (tyOk_base hte)
          rcases bif_some hz with ⟨hc, hz⟩ | ⟨-, hz⟩
          · simp only [Bool.and_eq_true, decide_eq_true_eq] at hc
            obtain ⟨r', tt, b, off, h1, h2, h3⟩ := hx
            rw [hr] at h1
            simp only [Option.some.injEq] at h1
            subst h1
            obtain ⟨O1, R1, l1, l2, -⟩ := h.sep hr
            obtain ⟨y, O', R', _, _, _, _, g3, g4, -⟩ := dec_loc p r.t _ l1 h2
            rw [hg] at g4
            have htt : Ty.arr k' e = tt := congrArg Sigma.fst g4
            subst htt
            refine Does.set hd hN (run _ (by rw [h3]; exact run_indexAtArr hu I hc.1 hc.2)) h (av := .ptr n (p ++ [.idx j.toNat])) ?_ hz
            refine ⟨r, e, b, off + j.toNat * e.cells, hr, ?_, rfl⟩
            rw [loc_append p _ _ _ h2]
            have hjl : j.toNat < k' := by omega
            simp only [loc, locQ, if_pos hjl]
          · cases hz
        · cases hz
      · cases hz
    · cases hz
  · -- an array in shared memory
    rename_i k' e l he
    rw [he] at hx
    split at hz
    · rename_i hT
      obtain ⟨hsh, hty⟩ := hcx.T t _ hT
      obtain ⟨t', hu, hte, -⟩ := tyOk_arr hty
      obtain ⟨I⟩ := baseOk_info (tyOk_base hte)
      obtain ⟨y, hg, hz⟩ := Option.bind_eq_some_iff.1 hz
      obtain ⟨h0, h1, h2⟩ := gidx_some hg
      obtain ⟨b, off, R, hv, hdec, hS, hR⟩ := hx
      have hdec : collect (fun i => dec (memo w σ.ov) e fun j => (Src.at b off).rd (memo w σ.ov) (i * e.cells + j)) k' 0 = some (l, [], R) := hdec
      simp only [rd_at] at hdec
      have hlen := collect_length k' 0 hdec
      obtain ⟨y', o', r', A, B', A', B'', hf', hy, e1, e2⟩ := collect_at k' 0 j.toNat hdec (by omega)
      rw [h2] at hy
      simp only [Option.some.injEq] at hy
      subst hy
      have ho' : o' = [] := by
        have := congrArg List.length e1
        simp at this
        exact List.length_eq_zero_iff.1 (by omega)
      subst ho'
      simp only [Nat.zero_add] at hf'
      refine Does.set hd hN (run _ (by rw [hv]; exact run_indexAtArr hu I h0 (by omega))) h (av := .vptr e y) ?_ hz
      exact ⟨b, off + j.toNat * e.cells, r', rfl, hf', hS, fun c hc => hR c (by rw [e2]; simp [hc])⟩
    · cases hz
  · cases hz

theorem does_fieldAddr {o : Oper} {t : TypeId} {x : Operand} {f d : Nat} {cx : Cx} {q : Bool} {K : AE → Rs ρ} {z : ρ} (hcx : CxTy P cx) (ho : o.op = .fieldAddr t x f) (hd : o.dst = some d)
    (h : Rel B Γ N (tmOf a) w σ) (hN : a.tmps.size = N) (hf : fits N o = true) (hz : aop cx q o Γ K = some z) : Does P B N o a w K z := by
  have hops : ∀ y ∈ (o.op.operands.toList), opdOk N y = true := fits_op hf
  rw [ho] at hops
  have hx := h.opd (hops x (by simp [Op.operands]))
  have run : ∀ v, (Instr.fieldAt t (a.eval x) f).run P w = .ok v w → (execOp a.eval o).run P w = .ok (.value v) w := fun v hv => by simp [execOp, ho, hv]
  simp only [aop, ho, hd] at hz
  split at hz
  · rename_i n p he
    rw [he] at hx
    split at hz
    · rename_i r hr
      generalize hg : getQ p r.t r.x = gg at hz
      obtain ⟨tt, y⟩ := gg
      simp only at hz
      split at hz
      · rename_i hc
        obtain ⟨hsh, hty⟩ := hcx.T t _ hc.2
        rw [tyOk_sh] at hty
        obtain ⟨τ', k, hrun, hloc⟩ := run_fieldAt (w := w) (b := 0) (o := 0) hty hc.1
        obtain ⟨r', t1, b, off, h1, h2, h3⟩ := hx
        rw [hr] at h1
        simp only [Option.some.injEq] at h1
        subst h1
        obtain ⟨O1, R1, l1, l2, -⟩ := h.sep hr
        obtain ⟨y', O', R', _, _, _, _, g3, g4, -⟩ := dec_loc p r.t _ l1 h2
        have g4 := hg.symm.trans g4
        have htt : tt = t1 := congrArg Sigma.fst g4
        subst htt
        obtain ⟨τ2, k2, hrun2, hloc2⟩ := run_fieldAt (P := P) (w := w) (b := b) (o := off) hty hc.1
        refine Does.set hd hN (run _ (by rw [h3]; exact hrun2)) h (av := .ptr n (p ++ fieldPath f)) ?_ hz
        exact ⟨r, τ2, b, off + k2, hr, by rw [loc_append p _ _ _ h2]; exact hloc2 _ _ _, rfl⟩
      · cases hz
    · cases hz
  · rename_i tt y he
    rw [he] at hx
    split at hz
    · rename_i hc
      obtain ⟨hsh, hty⟩ := hcx.T t _ hc.2
      obtain ⟨b, off, R, hv, hdec, hS, hR⟩ := hx
      obtain ⟨τ2, k2, hrun2, hloc2⟩ := run_fieldAt (P := P) (w := w) (b := b) (o := off) hty hc.1
      generalize hg : getQ (fieldPath f) tt y = gg at hz
      obtain ⟨t2, y2⟩ := gg
      simp only at hz
      obtain ⟨y', O', R', A1, B1, A1', B1', g3, g4, e1, e2⟩ := dec_loc (fieldPath f) tt (.at b off) hdec (hloc2 _ _ _)
      have g4 := hg.symm.trans g4
      have htt : t2 = τ2 := congrArg Sigma.fst g4
      subst htt
      have hyy := eq_of_heq (Sigma.mk.inj g4).2
      subst hyy
      have ho' : O' = [] := by
        have := congrArg List.length e1
        simp at this
        exact List.length_eq_zero_iff.1 (by omega)
      subst ho'
      refine Does.set hd hN (run _ (by rw [hv]; exact hrun2)) h (av := .vptr t2 y2) ?_ hz
      exact ⟨b, off + k2, R', rfl, g3, hS, fun c hc => hR c (by rw [e2]; simp [hc])⟩
    · cases hz
  · cases hz

/-- **What an address leads to.** -/
theorem Rel.lod {tm : Nat → Value} {ty : Ty} {t : TypeId} {av : AV} {u : Value} {q : Bool} {K : AV → AE → Rs ρ} {z : ρ} (hty : tyOk P ty (.inl t) = true) (hsh : ty.sh = ty)
    (h : Rel B Γ N tm w σ) (hx : AVOk (memo w σ.ov) σ.g Γ.rt (Shr B w σ) av u) (hz : Γ.lodK q ty av K = some z) :
    ∃ v Γ' σ' av', (Instr.loadAt t u).run P w = .ok v w ∧ Rel B Γ' N tm w σ' ∧ AVOk (memo w σ'.ov) σ'.g Γ'.rt (Shr B w σ') av' v ∧ K av' Γ' = some z ∧
      ((Γ' = Γ ∧ σ' = σ) ∨ (q = false ∧ ∃ n, av = .ptr n [] ∧ Γ' = (Γ.mapv (AV.drop n)).setRt n none)) := by
  simp only [AE.lodK] at hz
  split at hz
  · -- shared memory
    rename_i tt y
    split at hz
    · rename_i htt
      subst htt
      obtain ⟨b, off, R, hv, hdec, hS, hR⟩ := hx
      have hcell : ∀ j, j < tt.cells → w.cell? ⟨b, off + j, none⟩ = memo w σ.ov b (off + j) := by
        intro j _
        cases hov : σ.ov with
        | none => rfl
        | some y0 =>
          obtain ⟨b', o', v'⟩ := y0
          simp only [memo]
          rw [if_neg]
          rintro ⟨rfl, -⟩
          have hp := h.pend
          cases hpd : Γ.pd with
          | none => rw [hpd, hov] at hp; exact hp
          | some y1 =>
            obtain ⟨n, p, dd⟩ := y1
            rw [hpd, hov] at hp
            obtain ⟨r, e, hr, hl⟩ := hp
            rw [← hov] at hl
            exact hS.2.2 ⟨n, h.place hr hl⟩
      obtain ⟨v, hrun, hvok⟩ := run_loadAt (P := P) (w := w) (Sh := Shr B w σ) hty hdec hcell hR
      exact ⟨_, _, _, .val tt y, (by rw [hv]; exact hrun), h, hvok, hz, .inl ⟨rfl, rfl⟩⟩
    · cases hz
  · -- a root
    rename_i n p
    split at hz
    · rename_i r hr
      obtain ⟨hpd, hr⟩ := look_some hr
      have hov : σ.ov = none := by
        have hp := h.pend
        rw [hpd] at hp
        cases hov : σ.ov with
        | none => rfl
        | some y => rw [hov] at hp; exact hp.elim
      have hcell : ∀ b j, w.cell? ⟨b, j, none⟩ = memo w σ.ov b j := fun b j => by rw [hov]; rfl
      obtain ⟨r', t1, b, off, h1, h2, h3⟩ := hx
      rw [hr] at h1
      simp only [Option.some.injEq] at h1
      subst h1
      obtain ⟨O1, R1, l1, l2, l3, l4, l5, l6⟩ := h.sep hr
      obtain ⟨y', O', R', A1, B1, A1', B1', g3, g4, e1, e2⟩ := dec_loc p r.t _ l1 h2
      split at hz
      · rename_i e l hg
        rw [hg] at g4
        have htt : Ty.list true e = t1 := congrArg Sigma.fst g4
        subst htt
        split at hz
        · rename_i hlist
          obtain ⟨v, hv, hs⟩ := dec_cells _ g3 0 (by simp [Ty.cells])
          have hw : w.cell? ⟨b, off, none⟩ = some v := by rw [hcell]; exact hv
          have hagg : ty.isAgg = false := by cases ty <;> first | rfl | cases hlist
          refine ⟨v, Γ, σ, .sref n p, ?_, h, ⟨r, e, .at b off, hr, h2, hv⟩, hz, .inl ⟨rfl, rfl⟩⟩
          rw [h3]
          simp [Instr.loadAt, Instr.sureAddr, loadVar, tyOk_isAgg hty, hagg, hw]
        · cases hz
      · rename_i tt y hne hg
        rw [hg] at g4
        have htt : tt = t1 := congrArg Sigma.fst g4
        subst htt
        have hyy := eq_of_heq (Sigma.mk.inj g4).2
        subst hyy
        split at hz
        · rename_i hteq
          subst hteq
          rw [if_pos hsh] at hz
          have ho' := dec_pure hsh g3
          subst ho'
          obtain ⟨v, hrun, hvok⟩ := run_loadAt (P := P) (w := w) (Sh := Shr B w σ) hty g3 (fun j _ => hcell b (off + j)) (fun c hc => l2 c (by rw [e2]; simp [hc]))
          exact ⟨_, _, _, .val tt y, (by rw [h3]; exact hrun), h, hvok, hz, .inl ⟨rfl, rfl⟩⟩
        · split at hz
          · split at hz
            · rename_i hteq
              subst hteq
              simp only [loc, locQ, Option.some.injEq, Prod.mk.injEq] at h2
              obtain ⟨rfl, hgn⟩ := h2
              obtain ⟨R2, k1, k2⟩ := dec_sh _ l1
              rw [hgn] at k1
              have hgone := h.drop (n := n) (by simp [hpd])
              have hShr : ∀ c ∈ R2, Shr B w ⟨σ.g, fun m => if m = n then [] else σ.ow m, σ.ov⟩ c := by
                intro c hc
                rcases k2 c hc with g | g
                · have hown : Owned σ c := ⟨n, l4 c g⟩
                  refine ⟨h.lt hown, .inr (h.mine c hown), fun ⟨m, hm⟩ => ?_⟩
                  have hm : c ∈ (if m = n then [] else σ.ow m).map (·.1) := hm
                  split at hm
                  · simp at hm
                  · rename_i hmn
                    exact h.disj m n hmn c hm (l4 c g)
                · exact Rel.shr_gone c (l2 c g)
              obtain ⟨v, hrun, hvok⟩ := run_loadAt (P := P) (w := w) (m := memo w σ.ov) hty k1 (fun j _ => hcell b (off + j)) hShr
              exact ⟨_, _, _, .val r.t.sh (Ty.shx r.t r.x), (by rw [h3]; exact hrun), hgone, hvok, hz, .inr ⟨rfl, n, rfl, rfl⟩⟩
            · cases hz
          · cases hz
    · cases hz
  · cases hz


theorem does_load {o : Oper} {t : TypeId} {x : Operand} {d : Nat} {cx : Cx} {q : Bool} {K : AE → Rs ρ} {z : ρ} (hcx : CxTy P cx) (ho : o.op = .load t x) (hd : o.dst = some d)
    (h : Rel B Γ N (tmOf a) w σ) (hN : a.tmps.size = N) (hf : fits N o = true) (hz : aop cx q o Γ K = some z) : Does P B N o a w K z := by
  have hops : ∀ y ∈ (o.op.operands.toList), opdOk N y = true := fits_op hf
  rw [ho] at hops
  have hx := h.opd (hops x (by simp [Op.operands]))
  have run : ∀ v, (Instr.loadAt t (a.eval x)).run P w = .ok v w → (execOp a.eval o).run P w = .ok (.value v) w := fun v hv => by simp [execOp, ho, hv]
  simp only [aop, ho, hd] at hz
  split at hz
  case h_2 => cases hz
  rename_i ty hT
  obtain ⟨hsh, hty⟩ := hcx.T t _ hT
  obtain ⟨v, Γ', σ', av', h1, h2, h3, h4, -⟩ := Rel.lod hty hsh h hx hz
  exact Does.set hd hN (run _ h1) h2 h3 h4

end
end Go.Ab

/- Operations: parts of values, lengths, conversions, new roots. Conditions: as each lemma states. -/
namespace Go.Ab

theorem collect_mk {α : Type} {f : Nat → Option (α × Owns × List Nat)} {S : Nat → Prop} : ∀ (l : List α) (i : Nat), (∀ j x, l[j]? = some x → ∃ r, f (i + j) = some (x, [], r) ∧ ∀ c ∈ r, S c) →
    ∃ rs, collect f l.length i = some (l, [], rs) ∧ ∀ c ∈ rs, S c
  | [], i, _ => ⟨[], rfl, by simp⟩
  | x :: l, i, h => by
    obtain ⟨r, h1, h2⟩ := h 0 x rfl
    obtain ⟨rs, h3, h4⟩ := collect_mk l (i + 1) (fun j y hj => by
      have := h (j + 1) y (by simpa using hj)
      rwa [show i + (j + 1) = i + 1 + j from by omega] at this)
    refine ⟨r ++ rs, ?_, fun c hc => ?_⟩
    · simp only [Nat.add_zero] at h1
      simp only [List.length_cons, collect, h1, h3]; rfl
    · rcases List.mem_append.1 hc with g | g
      · exact h2 c g
      · exact h4 c g

theorem RootOk.mono {m : Mem} {Sh Sh' : Nat → Prop} {r s O} (h : RootOk m Sh r s O) (hs : ∀ c, Sh c → Sh' c) : RootOk m Sh' r s O := by
  obtain ⟨O', R, h1, h2, h3⟩ := h.rd
  exact ⟨O', R, h1, fun c hc => hs c (h2 c hc), h3⟩

/-- **A new root**, whatever the name held before. -/
theorem Rel.fresh {ρ : Type} {B Γ N tm w σ} {q : Bool} {n : Nat} {r : Root} {K : AE → Rs ρ} {z : ρ} (h : Rel B Γ N tm w σ) (hz : Γ.fresh q n r K = some z) {w' : World}
    (hext : ∀ c, c < w.heap.size → w'.heap[c]? = w.heap[c]?) (hsz : w.heap.size ≤ w'.heap.size) {s : Src} {O : Owns} (hO : ∀ c ∈ O.map (·.1), w.heap.size ≤ c) (hOn : (O.map (·.1)).Nodup)
    (hOl : ∀ p ∈ O, Free w' p.1 p.2) (hok : RootOk (memo w' σ.ov) (Shr B w σ) r s O) (hio : ioOf w' = ioOf w := by first | rfl | assumption) : ∃ Γ' σ', K Γ' = some z ∧ Rel B Γ' N tm w' σ' ∧ Γ'.rt n = some r ∧ σ'.g n = s ∧ σ'.ov = σ.ov ∧ Γ' = Γ.newRt n r := by
  unfold AE.fresh at hz
  obtain ⟨hnp, hz⟩ := (bif_some hz).elim id fun h => by cases h.2
  have hnp : n < pinned := by simpa using hnp
  split at hz
  · rename_i hn
    have e : Γ.newRt n r = Γ.setRt n (some r) := by unfold AE.newRt; rw [hn]
    refine ⟨_, ⟨fun m => if m = n then s else σ.g m, fun m => if m = n then O else σ.ow m, σ.ov⟩, hz, by rw [e]; exact h.add hn hnp hext hsz hO hOn hOl hok, by rw [e]; simp [AE.setRt], by simp, rfl, rfl⟩
  · rename_i r0 hn
    rcases bif_some hz with ⟨-, hz⟩ | ⟨-, hz⟩
    · cases hz
    · split at hz
      · cases hz
      · rename_i r1 hl
        obtain ⟨hpd, -⟩ := look_some hl
        have e : Γ.newRt n r = ((Γ.mapv (AV.drop n)).setRt n none).setRt n (some r) := by
          unfold AE.newRt
          rw [hn]
          simp only [AE.setRt, AE.mapv]
          congr 1
          funext j
          by_cases hj : j = n
          · subst hj; simp
          · rw [rt_ne' hj, rt_ne' hj, rt_ne' hj]
        have hd := h.drop (n := n) (by simp [hpd])
        refine ⟨_, ⟨fun m => if m = n then s else σ.g m, fun m => if m = n then O else (if m = n then [] else σ.ow m), σ.ov⟩, hz, by rw [e]; exact hd.add (n := n) (by simp [AE.setRt]) hnp hext hsz hO hOn hOl (hok.mono fun c hc => Rel.shr_gone c hc), by rw [e]; simp [AE.setRt], ?_, rfl, rfl⟩
        show (if n = n then s else _) = s
        rw [if_pos rfl]
where
  rt_ne' {n k : Nat} {x y : Option Root} (h : k ≠ n) : (bif k == n then x else y) = y := by
    have : (k == n) = false := by simpa using h
    simp [this]

theorem heap_push (w : World) (o : Obj) (c : Nat) (h : c < w.heap.size) : (w.alloc o).heap[c]? = w.heap[c]? := by
  simp only [World.alloc, Array.getElem?_push]
  rw [if_neg (by omega)]

theorem heap_drew_push (w : World) (o : Obj) (c : Nat) (h : c < w.heap.size) : (w.drew.alloc o).heap[c]? = w.heap[c]? := heap_push w.drew o c h

theorem Free.alloc_new (w : World) (c : Array Value) (e : TypeId) (k : Nat) (hk : k ≤ c.size) : Free (w.alloc (.cells c e)) w.heap.size k :=
  ⟨c, e, 0, 0, by show (w.heap.push _)[w.heap.size]? = _; simp, hk, .inl rfl⟩

/-- A field of what is read. -/
theorem tyOk_fieldD {P : Program} : ∀ (f : Nat) (τ : Ty) (fs : List Field) (off : Nat), tyOk P τ (.inr (fs, off)) = true → okField τ f = true →
    ∃ fl τ' k, fs[f]? = some fl ∧ fl.offset = off + k ∧ tyOk P τ' (.inl fl.type) = true ∧ k + τ'.cells ≤ τ.cells ∧
      ∀ (m : Mem) rd x O R, dec m τ rd = some (x, O, R) → ∃ y O' R', dec m τ' (fun j => rd (k + j)) = some (y, O', R') ∧ getP τ x (fieldPath f) = ⟨τ', y⟩ ∧ (O = [] → O' = []) ∧ ∀ c ∈ R', c ∈ R
  | 0, τ, fs, off, h, hf => by
    cases τ with
    | pair a b =>
      cases fs with
      | nil => simp [tyOk] at h
      | cons fl r =>
        simp only [tyOk, Bool.and_eq_true, beq_iff_eq, decide_eq_true_eq] at h
        refine ⟨fl, a, 0, rfl, by omega, h.1.1.2, by simp [Ty.cells], fun m rd x O R hd => ?_⟩
        obtain ⟨x1, o1, r1, x2, o2, r2, h1, h2, rfl, rfl, rfl⟩ := dec_pair hd
        exact ⟨x1, o1, r1, by simpa using h1, rfl, fun e => (List.append_eq_nil_iff.1 e).1, fun c hc => List.mem_append_left _ hc⟩
    | _ => simp [okField] at hf
  | f + 1, τ, fs, off, h, hf => by
    cases τ with
    | pair a b =>
      cases fs with
      | nil => simp [tyOk] at h
      | cons fl r =>
        simp only [tyOk, Bool.and_eq_true] at h
        obtain ⟨fl', τ', k, h1, h2, h3, h4, h5⟩ := tyOk_fieldD f b r (off + a.cells) h.2 hf
        refine ⟨fl', τ', a.cells + k, by simpa using h1, by omega, h3, by simp only [Ty.cells]; omega, fun m rd x O R hd => ?_⟩
        obtain ⟨x1, o1, r1, x2, o2, r2, g1, g2, rfl, rfl, rfl⟩ := dec_pair hd
        obtain ⟨y, O', R', g3, g4, g5, g6⟩ := h5 m _ x2 o2 r2 g2
        refine ⟨y, O', R', ?_, g4, fun e => g5 (List.append_eq_nil_iff.1 e).2, fun c hc => List.mem_append_right _ (g6 c hc)⟩
        rw [← g3]; congr 1; funext j; rw [Nat.add_assoc]
    | _ => simp [okField] at hf

/-- A part of a value's cells. -/
theorem run_part {P : Program} {w : World} {m Sh} {τ' : Ty} {t : TypeId} {cs : Array Value} {off : Nat} {y R} (ht : tyOk P τ' (.inl t) = true) (hd : dec m τ' (fun j => cs[off + j]?) = some (y, [], R)) (hR : ∀ c ∈ R, Sh c)
    (hsz : off + τ'.cells ≤ cs.size) : ∃ v, (part t cs off).run P w = .ok v w ∧ VOk m Sh τ' y v := by
  obtain ⟨I⟩ := baseOk_info (tyOk_base ht)
  cases hagg : τ'.isAgg with
  | true =>
    refine ⟨.agg (cs.extract off (off + τ'.cells)), by simp [part, tyOk_isAgg ht, hagg, I.sizeOf], fun _ => ⟨_, rfl, by simp; omega⟩, fun g => (by rw [hagg] at g; cases g), R, ?_, hR⟩
    refine dec_frame τ' hd (fun j hj => ?_) (fun _ _ _ => rfl)
    simp only [Value.cells, Array.getElem?_extract]
    rw [if_pos (by omega)]
  | false =>
    have h1 := nonAgg_cells hagg
    obtain ⟨v, hv, hs⟩ := dec_cells τ' hd 0 (by omega)
    simp only [Nat.add_zero] at hv
    refine ⟨v, by simp [part, tyOk_isAgg ht, hagg, hv], VOk.one hagg hs (dec_frame τ' hd (fun j hj => ?_) (fun _ _ _ => rfl)) hR h1⟩
    have hj0 : j = 0 := by omega
    subst hj0
    simp [Src.rd, hv]

section
variable {P : Program} {B : Base} {N : Nat} {ρ : Type} {Γ : AE} {a : Act} {w : World} {σ : Gh}

theorem does_field {o : Oper} {t : TypeId} {x : Operand} {f d : Nat} {cx : Cx} {q : Bool} {K : AE → Rs ρ} {z : ρ} (hcx : CxTy P cx) (ho : o.op = .field t x f) (hd : o.dst = some d)
    (h : Rel B Γ N (tmOf a) w σ) (hN : a.tmps.size = N) (hf : fits N o = true) (hz : aop cx q o Γ K = some z) : Does P B N o a w K z := by
  have hops : ∀ y ∈ (o.op.operands.toList), opdOk N y = true := fits_op hf
  rw [ho] at hops
  have hx := h.opd (hops x (by simp [Op.operands]))
  simp only [aop, ho, hd] at hz
  split at hz
  · rename_i tt y he
    rw [he] at hx
    split at hz
    · rename_i hc
      obtain ⟨hsh, hty⟩ := hcx.T t _ hc.2
      obtain ⟨fs, hu, hs⟩ := tyOk_struct hty hc.1
      obtain ⟨fl, τ', k, h1, h2, h3, h4, h5⟩ := tyOk_fieldD f tt _ 0 hs hc.1
      obtain ⟨g1, g2, R, g3, g4⟩ := hx
      have hagg : tt.isAgg = true := by cases tt <;> first | rfl | (cases f <;> simp [okField] at hc)
      obtain ⟨cs, hv, hcs⟩ := g1 hagg
      rw [hv] at g3
      obtain ⟨y', O', R', k1, k2, k3, k4⟩ := h5 _ _ _ _ _ g3
      have ho' := k3 rfl
      subst ho'
      generalize hg : getQ (fieldPath f) tt y = gg at hz
      obtain ⟨t2, y2⟩ := gg
      simp only at hz
      have k2 := hg.symm.trans k2
      have htt : t2 = τ' := congrArg Sigma.fst k2
      subst htt
      have hyy := eq_of_heq (Sigma.mk.inj k2).2
      subst hyy
      obtain ⟨v, hrun, hvok⟩ := run_part (P := P) (w := w) (cs := cs) (off := k) h3 k1 (fun c hc => g4 c (k4 c hc)) (by rw [hcs]; exact h4)
      have h1' : fs[f]? = some fl := by simpa using h1
      refine Does.set hd hN (v := v) ?_ h (av := .val t2 y2) hvok hz
      have hk : fl.offset = k := by omega
      simp only [execOp, ho, Instr.field, hv]
      simp [run_underlying hu, h1', asAgg, hk, hrun]
    · cases hz
  · cases hz

theorem does_index {o : Oper} {t : TypeId} {x i : Operand} {d : Nat} {cx : Cx} {q : Bool} {K : AE → Rs ρ} {z : ρ} (hcx : CxTy P cx) (ho : o.op = .index t x i) (hd : o.dst = some d)
    (h : Rel B Γ N (tmOf a) w σ) (hN : a.tmps.size = N) (hf : fits N o = true) (hz : aop cx q o Γ K = some z) : Does P B N o a w K z := by
  have hops : ∀ y ∈ (o.op.operands.toList), opdOk N y = true := fits_op hf
  rw [ho] at hops
  have hx := h.opd (hops x (by simp [Op.operands]))
  have hi := h.opd (hops i (by simp [Op.operands]))
  have run : ∀ v, (Instr.index t (a.eval x) (a.eval i)).run P w = .ok v w → (execOp a.eval o).run P w = .ok (.value v) w := fun v hv => by simp [execOp, ho, hv]
  simp only [aop, ho, hd] at hz
  split at hz
  · rename_i n e l k j hxe hie
    rw [hxe] at hx
    rw [hie] at hi
    have hiv := AVOk.int hi
    rw [hiv] at run
    split at hz
    · rename_i hT
      obtain ⟨hsh, hty⟩ := hcx.T t _ hT
      obtain ⟨t', hu, hte, -⟩ := tyOk_arr hty
      obtain ⟨I⟩ := baseOk_info (tyOk_base hte)
      obtain ⟨y, hg, hz⟩ := Option.bind_eq_some_iff.1 hz
      obtain ⟨h0, h1, h2⟩ := gidx_some hg
      obtain ⟨g1, g2, R, g3, g4⟩ := hx
      obtain ⟨cs, hv, hcs⟩ := g1 rfl
      rw [hv] at g3
      have g3 : collect (fun i => dec (memo w σ.ov) e fun j => cs[i * e.cells + j]?) n 0 = some (l, [], R) := g3
      have hlen := collect_length n 0 g3
      obtain ⟨y', o', r', A, B', A', B'', hf', hy, e1, e2⟩ := collect_at n 0 j.toNat g3 (by omega)
      rw [h2] at hy
      simp only [Option.some.injEq] at hy
      subst hy
      have ho' : o' = [] := by
        have := congrArg List.length e1
        simp at this
        exact List.length_eq_zero_iff.1 (by omega)
      subst ho'
      simp only [Nat.zero_add] at hf'
      have hsz : j.toNat * e.cells + e.cells ≤ cs.size := by
        rw [hcs]
        simp only [Ty.cells]
        rw [← Nat.succ_mul]
        exact Nat.mul_le_mul_right _ (by omega)
      obtain ⟨v, hrun, hvok⟩ := run_part (P := P) (w := w) (cs := cs) hte hf' (fun c hc => g4 c (by rw [e2]; simp [hc])) hsz
      have hc : 0 ≤ j ∧ j < (n : Int) := ⟨h0, by omega⟩
      refine Does.set hd hN (v := v) (run _ ?_) h (av := .val e y) hvok hz
      rw [hv]
      simp [Instr.index, asIntOf, run_underlying hu, hc, I.sizeOf, hrun]
    · cases hz
  · rename_i l k j hxe hie
    rw [hxe] at hx
    rw [hie] at hi
    have hiv := AVOk.int hi
    rw [hiv] at run
    split at hz
    · rename_i hT
      have hty := (hcx.T t _ hT).2
      have hu : P.underlying t = some .string := by
        simp only [tyOk, Bool.and_eq_true] at hty
        obtain ⟨-, hty⟩ := hty
        split at hty
        · assumption
        · cases hty
      obtain ⟨y, hg, hz⟩ := Option.bind_eq_some_iff.1 hz
      obtain ⟨h0, h1, h2⟩ := gidx_some hg
      obtain ⟨s, hv, hl⟩ := AVOk.str hx
      rw [hl, List.getElem?_map] at h2
      cases hb : s.data.toList[j.toNat]? with
      | none => rw [hb] at h2; cases h2
      | some b =>
        rw [hb] at h2
        simp only [Option.map_some, Option.some.injEq] at h2
        have hs : s[j.toNat]? = some b := by
          have hlt : j.toNat < s.data.toList.length := (List.getElem?_eq_some_iff.1 hb).1
          have hlt' : j.toNat < s.size := by simpa using hlt
          rw [getElem?_pos s j.toNat hlt']
          have := (List.getElem?_eq_some_iff.1 hb).2
          rw [← this]; rfl
        refine Does.set hd hN (v := .int .u8 b.toNat) (run _ ?_) h (av := .val (.int .u8) y) (by rw [← h2]; exact AVOk.mk_int _) hz
        rw [hv]
        simp [Instr.index, asIntOf, run_underlying hu, h0, hs]
    · cases hz
  · cases hz

theorem mins_some {f : Int → Int → Int} {g : Value → Value → Sem Value} {k : IntKind} (hg : ∀ x y w, (g (.int k x) (.int k y)).run P w = .ok (.int k (f x y)) w) :
    ∀ (l : List Operand) (x : Int) {K : AV → Rs ρ} {z : ρ}, Rel B Γ N (tmOf a) w σ → (∀ y ∈ l, opdOk N y = true) → AE.mins f k (l.map Γ.opd) x K = some z →
      ∃ r, K (.val (.int k) r) = some z ∧ ((l.map a.eval).foldlM g (.int k x)).run P w = .ok (.int k r) w
  | [], x, K, z, h, hl, hz => ⟨x, hz, rfl⟩
  | y :: l, x, K, z, h, hl, hz => by
    simp only [List.map_cons] at hz
    unfold AE.mins at hz
    split at hz
    · rename_i he; cases he
    · rename_i x k' y' l' he
      simp only [List.cons.injEq] at he
      obtain ⟨he, rfl⟩ := he
      split at hz
      · rename_i hk
        subst hk
        have hy := h.opd (hl y (by simp))
        rw [he] at hy
        have hv := AVOk.int hy
        obtain ⟨r, h1, h2⟩ := mins_some hg l _ h (fun u hu => hl u (by simp [hu])) hz
        refine ⟨r, h1, ?_⟩
        have h3 := fun z => hg z y' w
        simp only [List.map_cons, List.foldlM_cons, hv, Sem.run_bind, h3]
        exact h2
      · cases hz
    · cases hz

theorem lenK_some {t : TypeId} {x : Operand} {cx : Cx} {K : Nat → Rs ρ} {z : ρ} (hcx : CxTy P cx) (h : Rel B Γ N (tmOf a) w σ) (hx : opdOk N x = true) (hz : Γ.lenK (cx.T t) (Γ.opd x) K = some z) (ty : TypeId) :
    ∃ n, K n = some z ∧ (Builtin.len_ #[t] ty #[a.eval x]).run P w = .ok (.int .i64 (n : Int)) w := by
  have hx := h.opd hx
  have hsl : ∀ o e, cx.T t = some (.list o e) → ∀ A n c, a.eval x = .slice A n c → (Builtin.len_ #[t] ty #[a.eval x]).run P w = .ok (.int .i64 (n : Int)) w := by
    intro o e hT A n c hv
    obtain ⟨hsh, hty⟩ := hcx.T t _ hT
    obtain ⟨t', hu, hte, -⟩ := tyOk_elem hty
    rw [hv]
    simp [Builtin.len_, run_underlying hu, goInt]
  unfold AE.lenK at hz
  split at hz
  · rename_i o e o' e' l hT he
    rw [he] at hx
    obtain ⟨R, h1, h2⟩ := VOk.rd (t := .list o' e') hx rfl rfl
    have h1 : decL (memo w σ.ov) o' e'.cells (dec (memo w σ.ov) e') (some (a.eval x)) = some (l, [], R) := h1
    unfold decL at h1
    split at h1
    · rename_i n c hv
      simp only [Option.some.injEq] at hv
      split at h1
      · rename_i hc
        have e1 : ([] : List e'.den) = l := congrArg (·.1) (Option.some.inj h1)
        refine ⟨_, hz, ?_⟩
        rw [← e1]
        have := hsl _ _ hT _ _ _ hv
        rw [hc.1] at this
        exact this
      · cases h1
    · rename_i A n c hv
      simp only [Option.some.injEq] at hv
      split at h1
      · split at h1
        · cases h1
        · rename_i xs os rs h3
          have hn := collect_length n 0 h3
          have hxl : l = xs := by
            split at h1
            · split at h1
              · exact (congrArg (·.1) (Option.some.inj h1)).symm
              · exact (congrArg (·.1) (Option.some.inj h1)).symm
            · split at h1
              · exact (congrArg (·.1) (Option.some.inj h1)).symm
              · exact (congrArg (·.1) (Option.some.inj h1)).symm
          refine ⟨_, hz, ?_⟩
          rw [hxl, hn]
          exact hsl _ _ hT _ _ _ hv
      · cases h1
    · cases h1
  · rename_i n e n' e' l hT he
    obtain ⟨hsh, hty⟩ := hcx.T t _ hT
    obtain ⟨t', hu, hte, -⟩ := tyOk_arr hty
    exact ⟨n, hz, by simp [Builtin.len_, run_underlying hu, goInt]⟩
  · rename_i l hT he
    rw [he] at hx
    obtain ⟨s, hv, hl⟩ := AVOk.str hx
    have hty := (hcx.T t _ hT).2
    have hu : P.underlying t = some .string := by
      simp only [tyOk, Bool.and_eq_true] at hty
      obtain ⟨-, hty⟩ := hty
      split at hty
      · assumption
      · cases hty
    refine ⟨_, hz, ?_⟩
    rw [hv, hl]
    simp [Builtin.len_, run_underlying hu, goInt]
  · rename_i hT he
    rw [he] at hx
    exact ⟨0, hz, hsl _ _ hT _ _ _ hx⟩
  · rename_i hT he
    rw [he] at hx
    obtain ⟨A, hv, -⟩ := hx
    exact ⟨0, hz, hsl _ _ hT _ _ _ hv⟩
  · rename_i n p hT he
    rw [he] at hx
    split at hz
    · rename_i r hr
      split at hz
      · rename_i e' l hg
        obtain ⟨s, A, c, -, -, hv, -⟩ := h.sref_head hx (look_some hr).2 hg
        exact ⟨_, hz, hsl _ _ hT _ _ _ hv⟩
      · cases hz
    · cases hz
  · rename_i n p off k hT he
    rw [he] at hx
    obtain ⟨r, e, s, a0, l0, c0, h1, h2, h3, h4, a', hv, hA, -⟩ := hx
    exact ⟨k, hz, hsl _ _ hT _ _ _ hv⟩
  · cases hz

end
end Go.Ab

/- Operations: new variables and slices, structs and arrays that are built. Conditions: as each lemma states. -/
namespace Go.Ab

theorem Rel.ov_lt {B Γ N tm w σ} (h : Rel B Γ N tm w σ) {b o v} (hov : σ.ov = some (b, o, v)) : b < w.heap.size := by
  have hp := h.pend
  rw [hov] at hp
  cases hpd : Γ.pd with
  | none => rw [hpd] at hp; exact hp.elim
  | some x =>
    obtain ⟨n, p, d⟩ := x
    rw [hpd] at hp
    obtain ⟨r, e, hr, hl⟩ := hp
    rw [← hov] at hl
    exact h.lt ⟨n, h.place hr hl⟩

theorem Rel.memo_new {B Γ N tm w σ} (h : Rel B Γ N tm w σ) {w' : World} {cs : Array Value} {e fr} (hnew : w'.heap[w.heap.size]? = some (.cells cs e fr)) (j : Nat) : memo w' σ.ov w.heap.size j = cs[j]? := by
  have hc : w'.cell? ⟨w.heap.size, j, none⟩ = cs[j]? := by simp only [World.cell?, hnew]; simp
  unfold memo
  split
  · rename_i b o v hov
    have := h.ov_lt hov
    rw [if_neg (by omega), hc]
  · exact hc

theorem Rel.memo_old {B Γ N tm w σ} (_ : Rel B Γ N tm w σ) {w' : World} (hext : ∀ c, c < w.heap.size → w'.heap[c]? = w.heap[c]?) {c j : Nat} (hc : c < w.heap.size) : memo w' σ.ov c j = memo w σ.ov c j :=
  memo_heap _ (hext c hc) j

/-- **A new variable in memory.** -/
theorem Rel.newBox {ρ : Type} {B Γ N tm w σ} {q : Bool} {n : Nat} {t : Ty} {x : t.den} {K : AE → Rs ρ} {z : ρ} (h : Rel B Γ N tm w σ) (hz : Γ.fresh q n ⟨true, t, x⟩ K = some z) {w' : World}
    (hext : ∀ c, c < w.heap.size → w'.heap[c]? = w.heap[c]?) (hsz : w.heap.size ≤ w'.heap.size) {cs : Array Value} {e : TypeId} (hnew : w'.heap[w.heap.size]? = some (.cells cs e (0, 0))) (hcs : cs.size = t.cells) {R}
    (hx : dec (memo w σ.ov) t (fun j => cs[j]?) = some (x, [], R)) (hR : ∀ c ∈ R, Shr B w σ c) (hio : ioOf w' = ioOf w := by first | rfl | assumption) :
    ∃ Γ' σ', K Γ' = some z ∧ Rel B Γ' N tm w' σ' ∧ AVOk (memo w' σ'.ov) σ'.g Γ'.rt (Shr B w' σ') (.ptr n []) (.pointer (some ⟨w.heap.size, 0, none⟩)) := by
  have hd : dec (memo w' σ.ov) t ((Src.at w.heap.size 0).rd (memo w' σ.ov)) = some (x, [], R) := dec_frame t hx (fun j _ => by simp only [Src.rd, Nat.zero_add]; exact h.memo_new hnew j)
    (fun b j hb => by
      rcases hb with hb | hb
      · simp at hb
      · exact h.memo_old hext (hR b hb).1)
  obtain ⟨Γ', σ', g1, g2, g3, g4, g5, g6⟩ := h.fresh hz hext hsz (s := .at w.heap.size 0) (O := [(w.heap.size, t.cells)]) (by simp) (by simp)
    (by simp only [List.mem_singleton, forall_eq]; exact ⟨cs, e, 0, 0, hnew, by omega, .inl rfl⟩) ⟨[], R, hd, hR, .inl ⟨rfl, _, rfl, rfl⟩⟩
  exact ⟨Γ', σ', g1, g2, _, t, w.heap.size, 0, g3, by rw [g4]; rfl, rfl⟩

/-- **A new slice that a slot holds.** -/
theorem Rel.newSlice {ρ : Type} {B Γ N tm w σ} {q : Bool} {n : Nat} {e : Ty} {l : List e.den} {K : AE → Rs ρ} {z : ρ} (h : Rel B Γ N tm w σ) (hz : Γ.fresh q n ⟨false, .list true e, l⟩ K = some z) {w' : World}
    (hext : ∀ c, c < w.heap.size → w'.heap[c]? = w.heap[c]?) (hsz : w.heap.size ≤ w'.heap.size) {cs : Array Value} {t : TypeId} {fr} (hnew : w'.heap[w.heap.size]? = some (.cells cs t fr)) {c : Nat} (hfr : fr.2 = fr.1 ∨ c * e.cells ≤ fr.1) (hcs : c * e.cells ≤ cs.size) (hlc : l.length ≤ c) {R}
    (hx : collect (fun i => dec (memo w σ.ov) e fun j => cs[i * e.cells + j]?) l.length 0 = some (l, [], R)) (hR : ∀ c ∈ R, Shr B w σ c) (hio : ioOf w' = ioOf w := by first | rfl | assumption) :
    ∃ Γ' σ', K Γ' = some z ∧ Rel B Γ' N tm w' σ' ∧ AVOk (memo w' σ'.ov) σ'.g Γ'.rt (Shr B w' σ') (.sref n []) (.slice (some ⟨w.heap.size, 0, none⟩) l.length c) ∧ σ'.ov = σ.ov ∧ Γ' = Γ.newRt n ⟨false, .list true e, l⟩ := by
  have hx' : collect (fun i => dec (memo w' σ.ov) e fun j => memo w' σ.ov w.heap.size (0 + (i * e.cells + j))) l.length 0 = some (l, [], R) := by
    have h1 : dec (memo w σ.ov) (.arr l.length e) (fun j => cs[j]?) = some (l, [], R) := hx
    refine dec_frame (.arr l.length e) h1 (rd' := fun j => memo w' σ.ov w.heap.size (0 + j)) (fun j _ => ?_) (fun b j hb => ?_)
    · show memo w' σ.ov w.heap.size (0 + j) = _
      rw [Nat.zero_add]; exact h.memo_new hnew j
    · rcases hb with hb | hb
      · simp at hb
      · exact h.memo_old hext (hR b hb).1
  have hfree : Free w' w.heap.size (c * e.cells) := ⟨cs, t, fr.1, fr.2, hnew, hcs, hfr⟩
  let O : Owns := if c = 0 then [] else [(w.heap.size, 0 + c * e.cells)]
  have hO : ∀ p ∈ O, p = (w.heap.size, 0 + c * e.cells) := by
    intro p hp
    simp only [O] at hp
    split at hp
    · cases hp
    · simpa using hp
  have hd : dec (memo w' σ.ov) (.list true e) ((Src.one (.slice (some ⟨w.heap.size, 0, none⟩) l.length c)).rd (memo w' σ.ov)) = some (l, O, R) := by
    show decL (memo w' σ.ov) true e.cells (dec (memo w' σ.ov) e) (some (.slice (some ⟨w.heap.size, 0, none⟩) l.length c)) = _
    simp only [decL]
    rw [if_pos ⟨trivial, hlc⟩, hx']
    simp only [if_true, O]
    split <;> rfl
  obtain ⟨Γ', σ', g1, g2, g3, g4, g5, g6⟩ := h.fresh hz hext hsz (s := .one (.slice (some ⟨w.heap.size, 0, none⟩) l.length c)) (O := O) (by
      intro b hb
      obtain ⟨p, hp, rfl⟩ := List.mem_map.1 hb
      rw [hO p hp]; exact Nat.le_refl _) (by simp only [O]; split <;> simp)
    (fun p hp => by rw [hO p hp]; simpa using hfree) ⟨O, R, hd, hR, .inr ⟨rfl, ⟨_, rfl⟩, ⟨e, rfl⟩, rfl⟩⟩
  exact ⟨Γ', σ', g1, g2, ⟨_, e, _, g3, by rw [g4]; rfl, rfl⟩, g5, g6⟩

theorem own_some {P : Program} {cx : Cx} {d t : Nat} {τ : Ty} (hcx : CxTy P cx) (h : cx.own d t = some τ) : tyOk P τ (.inl t) = true := by
  unfold Cx.own at h
  split at h
  · split at h
    · rename_i hT
      simp only [Option.some.injEq] at h
      subst h
      rw [← tyOk_sh]
      exact (hcx.T t _ hT).2
    · cases h
  · exact (hcx.T t _ h).2

/-- Zero cells, one element behind the other. -/
theorem made_dec {m : Mem} {e : Ty} {z : Array Value} (hz : zeroR e (fun j => z[j]?) = true) (hs : z.size = e.cells) (n : Nat) : collect (fun i => dec m e fun j => (madeCells z (n * e.cells))[i * e.cells + j]?) n 0 = some (List.replicate n e.dflt, [], []) := by
  refine collect_all n 0 fun i _ hi => dec_frame e (zeroR_dec (m := m) e hz) (fun j hj => ?_) (fun _ _ _ => rfl)
  have hlt : i * e.cells + j < n * e.cells := by
    have : (i + 1) * e.cells ≤ n * e.cells := Nat.mul_le_mul_right _ (by omega)
    rw [Nat.succ_mul] at this
    omega
  have hm : (i * e.cells + j) % e.cells = j := by rw [Nat.mul_comm, Nat.mul_add_mod, Nat.mod_eq_of_lt hj]
  have hj' : j < z.size := by omega
  simp only [madeCells, Array.getElem?_map, Array.getElem?_range, if_pos hlt, Option.map_some, hs, hm]
  rw [getElem!_pos z j hj', Array.getElem?_eq_getElem hj']

section
variable {P : Program} {B : Base} {N : Nat} {ρ : Type} {Γ : AE} {a : Act} {w : World} {σ : Gh}

theorem heap_alloc_old (o : Obj) (c : Nat) (h : c < w.heap.size) : (w.alloc o).heap[c]? = w.heap[c]? := heap_push w o c h

theorem heap_alloc_new (o : Obj) : (w.alloc o).heap[w.heap.size]? = some o := by
  show (w.heap.push o)[w.heap.size]? = _
  simp

theorem size_alloc_le (o : Obj) : w.heap.size ≤ (w.alloc o).heap.size := by
  show w.heap.size ≤ (w.heap.push o).size
  simp

theorem Does.sets {o : Oper} {K : AE → Rs ρ} {z : ρ} {d : Nat} {v : Value} {w' : World} {av : AV} (hd : o.dst = some d) (hN : a.tmps.size = N) (hrun : (execOp a.eval o).run P w = .ok (.value v) w')
    (h : ∃ Γ' σ', K (Γ'.set d av) = some z ∧ Rel B Γ' N (tmOf a) w' σ' ∧ AVOk (memo w' σ'.ov) σ'.g Γ'.rt (Shr B w' σ') av v) : Does P B N o a w K z := by
  obtain ⟨Γ', σ', h1, h2, h3⟩ := h
  exact Does.set hd hN hrun h2 h3 h1

theorem does_alloc {o : Oper} {t : TypeId} {d : Nat} {cx : Cx} {q : Bool} {K : AE → Rs ρ} {z : ρ} (hcx : CxTy P cx) (ho : o.op = .alloc t) (hd : o.dst = some d)
    (h : Rel B Γ N (tmOf a) w σ) (hN : a.tmps.size = N) (hz : aop cx q o Γ K = some z) : Does P B N o a w K z := by
  simp only [aop, ho, hd] at hz
  split at hz
  · rename_i τ hT
    have hty := own_some hcx hT
    obtain ⟨I⟩ := baseOk_info (tyOk_base hty)
    have hrun : (execOp a.eval o).run P w = .ok (.value (.pointer (some ⟨w.heap.size, 0, none⟩))) (w.alloc (.cells I.z.cells t)) := by
      simp [execOp, ho, Instr.alloc, I.zeroValue, newVar, newRow]
    exact Does.sets hd hN hrun (h.newBox hz (fun c hc => heap_alloc_old _ c hc) (size_alloc_le _) (heap_alloc_new _) I.zsize (zeroR_dec _ I.zok) (by simp))
  · cases hz

theorem does_box {o : Oper} {t : TypeId} {x : Operand} {d : Nat} {cx : Cx} {q : Bool} {K : AE → Rs ρ} {z : ρ} (ho : o.op = .box t x) (hd : o.dst = some d)
    (h : Rel B Γ N (tmOf a) w σ) (hN : a.tmps.size = N) (hf : fits N o = true) (hz : aop cx q o Γ K = some z) : Does P B N o a w K z := by
  have hx := h.opd (fits_op hf x (by simp [ho, Op.operands]))
  simp only [aop, ho, hd] at hz
  split at hz
  · rename_i τ hT
    obtain ⟨y, Γ1, σ1, hz, h1, hv, -, -⟩ := h.asV (.inl hx) hz
    have hrun : (execOp a.eval o).run P w = .ok (.value (.pointer (some ⟨w.heap.size, 0, none⟩))) (w.alloc (.cells (a.eval x).cells t)) := by
      simp [execOp, ho, Instr.box, newVar, newRow]
    obtain ⟨-, -, R, h3, h4⟩ := id hv
    split at hz
    · -- a variable that never changes
      have hnew := heap_alloc_new (w := w) (.cells (a.eval x).cells t)
      have hext : ∀ c, c < w.heap.size → (w.alloc (.cells (a.eval x).cells t)).heap[c]? = w.heap[c]? := fun c hc => heap_alloc_old _ c hc
      have hsz := size_alloc_le (w := w) (.cells (a.eval x).cells t)
      have hlt : w.heap.size < (w.alloc (.cells (a.eval x).cells t)).heap.size := by show w.heap.size < (w.heap.push _).size; rw [Array.size_push]; omega
      have h2 := h1.ext hext hsz
      have hdec : dec (memo (w.alloc (.cells (a.eval x).cells t)) σ1.ov) τ ((Src.at w.heap.size 0).rd (memo (w.alloc (.cells (a.eval x).cells t)) σ1.ov)) = some (y, [], R) :=
        dec_frame τ h3 (fun j _ => by simp only [Src.rd, Nat.zero_add]; exact h1.memo_new hnew j) (fun b j hb => by
          rcases hb with hb | hb
          · simp at hb
          · exact h1.memo_old hext (h4 b hb).1)
      have hSh : ∀ c, Shr B w σ1 c → Shr B (w.alloc (.cells (a.eval x).cells t)) σ1 c := fun c hc => ⟨Nat.lt_of_lt_of_le hc.1 hsz, hc.2⟩
      exact Does.set hd hN hrun h2 (av := .vptr τ y) ⟨w.heap.size, 0, R, rfl, hdec, ⟨hlt, .inr (.inr h1.size), fun g => by have := h1.lt g; omega⟩, fun c hc => hSh c (h4 c hc)⟩ hz
    exact Does.sets hd hN hrun (h1.newBox hz (fun c hc => heap_alloc_old _ c hc) (size_alloc_le _) (heap_alloc_new _) hv.cells.1 h3 h4)
  · cases hz

theorem isVal_some {av : AV} {t : Ty} {K : t.den → Rs ρ} {z : ρ} (h : av.isVal t K = some z) : ∃ x, av = .val t x ∧ K x = some z := by
  cases av with
  | val t' x =>
    simp only [AV.isVal] at h
    split at h
    · rename_i e; subst e; exact ⟨x, rfl, h⟩
    · cases h
  | _ => cases h

theorem isInt_some {av : AV} {k : IntKind} {K : Int → Rs ρ} {z : ρ} (h : av.isVal (.int k) K = some z) : ∃ x : Int, av = .val (.int k) x ∧ K x = some z := isVal_some h

theorem does_makeSlice {o : Oper} {t : TypeId} {x y : Operand} {d : Nat} {cx : Cx} {q : Bool} {K : AE → Rs ρ} {z : ρ} (hcx : CxTy P cx) (ho : o.op = .makeSlice t x y) (hd : o.dst = some d)
    (h : Rel B Γ N (tmOf a) w σ) (hN : a.tmps.size = N) (hf : fits N o = true) (hz : aop cx q o Γ K = some z) : Does P B N o a w K z := by
  have hx := h.opd (fits_op hf x (by simp [ho, Op.operands]))
  have hy := h.opd (fits_op hf y (by simp [ho, Op.operands]))
  simp only [aop, ho, hd] at hz
  split at hz
  · rename_i o' e hT
    obtain ⟨l, hxv, hz⟩ := isInt_some hz
    obtain ⟨c, hyv, hz⟩ := isInt_some hz
    rw [hxv] at hx
    rw [hyv] at hy
    rcases bif_some hz with ⟨hc, hz⟩ | ⟨-, hz⟩
    · simp only [Bool.and_eq_true, decide_eq_true_eq, lim] at hc
      obtain ⟨c1, c2, c3⟩ := hc
      have hty := own_some hcx hT
      obtain ⟨t', hu, hte, hpos⟩ := tyOk_elem hty
      obtain ⟨I⟩ := baseOk_info (tyOk_base hte)
      have hrun := run_make (P := P) w t t' I.i I.z hu I.info I.zero .i64 .i64 l c c1 c2 (by
        have := I.bytes
        have h1 : ((I.i.bytes * c.toNat : Nat) : Int) ≤ ((32768 * 2147483648 : Nat) : Int) := Int.ofNat_le.2 (Nat.mul_le_mul this (by omega))
        have h2 : ((c.toNat : Nat) : Int) = c := Int.toNat_of_nonneg (by omega)
        rw [Int.natCast_mul, h2] at h1
        have h3 : ((32768 * 2147483648 : Nat) : Int) = 70368744177664 := by decide
        rw [h3] at h1
        exact Int.le_trans h1 (by decide)) (by omega)
      rw [I.size] at hrun
      have hrun' : (execOp a.eval o).run P w = .ok (.value (.slice (some ⟨w.heap.size, 0, none⟩) l.toNat c.toNat)) (w.alloc (.cells (madeCells I.z.cells (c.toNat * e.cells)) t')) := by
        simp only [execOp, ho, AVOk.int hx, AVOk.int hy, Sem.run_bind]
        erw [hrun]; rfl
      have hmd := made_dec (m := memo w σ.ov) I.zok I.zsize c.toNat
      obtain ⟨Γ', σ', g1, g2, g3, -, -⟩ := h.newSlice (c := c.toNat) hz (fun c hc => heap_alloc_old _ c hc) (size_alloc_le _) (heap_alloc_new (Obj.cells (madeCells I.z.cells (c.toNat * e.cells)) t')) (.inl rfl) (by rw [size_madeCells]; exact Nat.le_refl _)
        (by rw [List.length_replicate]; omega) (R := []) (by
          rw [List.length_replicate]
          refine collect_all _ 0 fun i _ hi => ?_
          obtain ⟨x', o', r', A, B', A', B'', k1, k2, k3, k4⟩ := collect_at _ 0 i hmd (by omega)
          rw [Nat.zero_add] at k1
          rw [k1]
          rw [List.getElem?_replicate, if_pos (by omega)] at k2
          simp only [Option.some.injEq] at k2
          subst k2
          have e1 : o' = [] := by
            have := congrArg List.length k3
            simp at this
            exact List.length_eq_zero_iff.1 (by omega)
          have e2 : r' = [] := by
            have := congrArg List.length k4
            simp at this
            exact List.length_eq_zero_iff.1 (by omega)
          rw [e1, e2]) (by simp)
      rw [List.length_replicate] at g3
      exact Does.set hd hN hrun' g2 g3 g1
    · cases hz
  · cases hz

/-- The cells of the parts that have been laid. -/
theorem fold_cells (off : Nat) (l : List Value) (i : Nat) (cs : Array Value) : ((l.zipIdx i).foldl (fun cs (c : Value × Nat) => cs.setIfInBounds (off + c.2) c.1) cs).size = cs.size ∧
    ∀ k, ((l.zipIdx i).foldl (fun cs (c : Value × Nat) => cs.setIfInBounds (off + c.2) c.1) cs)[k]? = if off + i ≤ k ∧ k < off + i + l.length ∧ k < cs.size then l[k - (off + i)]? else cs[k]? := by
  induction l generalizing i cs with
  | nil => exact ⟨rfl, fun k => by rw [if_neg (by simp only [List.length_nil]; omega)]; rfl⟩
  | cons v l ih =>
    obtain ⟨h1, h2⟩ := ih (i + 1) (cs.setIfInBounds (off + i) v)
    refine ⟨by simpa using h1, fun k => ?_⟩
    simp only [List.zipIdx_cons, List.foldl_cons]
    rw [h2]
    simp only [Array.size_setIfInBounds, List.length_cons, Array.getElem?_setIfInBounds]
    by_cases hk : off + i = k
    · subst hk
      rw [if_neg (by omega), if_pos rfl]
      by_cases hs : off + i < cs.size
      · rw [if_pos hs, if_pos ⟨Nat.le_refl _, by omega, hs⟩]; simp
      · rw [if_neg hs, if_neg (by omega)]
        simp; omega
    · rw [if_neg hk]
      by_cases hs : off + (i + 1) ≤ k ∧ k < off + (i + 1) + l.length ∧ k < cs.size
      · rw [if_pos hs, if_pos (by omega), show k - (off + i) = (k - (off + (i + 1))) + 1 from by omega, List.getElem?_cons_succ]
      · rw [if_neg hs, if_neg (by omega)]

end
end Go.Ab

/- Operations: structs, arrays and slices that are built of parts. Conditions: as each lemma states. -/
namespace Go.Ab

/-- Where a part of a value that is built lies. -/
def Places (t : Ty) (place : Nat → Option (Nat × Nat)) : Prop := ∀ i, AE.pathOk t i = true → ∃ τ' k, place i = some (k, τ'.cells) ∧ k + τ'.cells ≤ t.cells ∧ ∀ (m : Mem) b o, loc m t (.at b o) (AE.pathOf t i) = some (τ', .at b (o + k))

theorem places_arr (n : Nat) (e : Ty) : Places (.arr n e) fun i => some (i * e.cells, e.cells) := by
  intro i hi
  simp only [AE.pathOk, decide_eq_true_eq] at hi
  refine ⟨e, i * e.cells, rfl, ?_, fun m b o => ?_⟩
  · have : (i + 1) * e.cells ≤ n * e.cells := Nat.mul_le_mul_right _ (by omega)
    rw [Nat.succ_mul] at this
    exact this
  · show (if i < n then locQ m [] e (.at b (o + i * e.cells)) else none) = _
    rw [if_pos hi]; rfl

/-- A part is laid. -/
theorem part_laid {m : Mem} {Sh : Nat → Prop} {sz : Nat} (hSh : ∀ c, Sh c → c < sz) {t τ' : Ty} {cs : Array Value} {x : t.den} {R i k} (hd : dec m t (fun j => cs[j]?) = some (x, [], R)) (hR : ∀ c ∈ R, Sh c)
    (hl : ∀ (m : Mem) b o, loc m t (.at b o) (AE.pathOf t i) = some (τ', .at b (o + k))) (hk : k + τ'.cells ≤ cs.size) {y : τ'.den} {v : Value} (hv : VOk m Sh τ' y v) :
    ∃ R', dec m t (fun j => (v.cells.zipIdx.foldl (fun cs (c, j) => cs.setIfInBounds (k + j) c) cs)[j]?) = some (setP t x (AE.pathOf t i) τ' y, [], R') ∧ ∀ c ∈ R', Sh c := by
  obtain ⟨hvs, -⟩ := hv.cells
  obtain ⟨-, -, R2, hv3, hv4⟩ := hv
  have hfold : v.cells.zipIdx.foldl (fun cs (c, j) => cs.setIfInBounds (k + j) c) cs = (v.cells.toList.zipIdx 0).foldl (fun cs (c : Value × Nat) => cs.setIfInBounds (k + c.2) c.1) cs := by
    rw [← Array.foldl_toList]; simp
  obtain ⟨-, hcell⟩ := fold_cells k v.cells.toList 0 cs
  rw [hfold]
  generalize (v.cells.toList.zipIdx 0).foldl (fun cs (c : Value × Nat) => cs.setIfInBounds (k + c.2) c.1) cs = cs' at hcell
  let m0 : Mem := fun c j => if c = sz then cs[j]? else m c j
  let m1 : Mem := fun c j => if c = sz then cs'[j]? else m c j
  have hne : ∀ c, Sh c → c ≠ sz := fun c hc e => by have := hSh c hc; omega
  have hm0 : ∀ c j, Sh c → m0 c j = m c j := fun c j hc => by simp only [m0]; rw [if_neg (hne c hc)]
  have hm1 : ∀ c j, Sh c → m1 c j = m c j := fun c j hc => by simp only [m1]; rw [if_neg (hne c hc)]
  have h0 : dec m0 t ((Src.at sz 0).rd m0) = some (x, [], R) := dec_frame t hd (fun j _ => by simp [Src.rd, m0]) (fun b j hb => by
    rcases hb with hb | hb
    · simp at hb
    · exact hm0 b j (hR b hb))
  have hl0 := hl m0 sz 0
  obtain ⟨y0, O1, R1, A1, B1, A1', B1', hd1, -, e1, -⟩ := dec_loc _ t _ h0 hl0
  have hO1 : O1 = [] := by
    have := congrArg List.length e1
    simp at this
    exact List.length_eq_zero_iff.1 (by omega)
  subst hO1
  have h1 : dec m1 τ' ((Src.at sz (0 + k)).rd m1) = some (y, [], R2) := dec_frame τ' hv3 (fun j hj => by
      simp only [Src.rd, m1, if_true, Nat.zero_add, hcell, Nat.add_zero]
      rw [if_pos ⟨by omega, by simp; omega, by omega⟩, Nat.add_sub_cancel_left]; simp) (fun b j hb => by
    rcases hb with hb | hb
    · simp at hb
    · exact hm1 b j (hv4 b hb))
  have hsep : Sep (Src.at sz 0) [] R := ⟨by simp, by simp, fun c hc => ⟨by simp, fun e => hne c (hR c hc) e⟩⟩
  have hchg : Chg m0 m1 (Src.at sz 0) [] R sz (0 + k) τ'.cells [] := fun c j => by
    by_cases hc : c = sz
    · by_cases hj : k ≤ j ∧ j < k + τ'.cells
      · exact .inr (.inl ⟨hc, by omega, by omega⟩)
      · refine .inl ?_
        simp only [m0, m1, if_pos hc, hcell]
        rw [if_neg (by simp only [Array.length_toList]; omega)]
    · exact .inl (by simp only [m0, m1, if_neg hc])
  obtain ⟨A, B', R3, e3, h7, h8⟩ := repl _ t _ h0 hl0 hd1 h1 hsep hchg
  have hAB : A = [] ∧ B' = [] := by
    have := congrArg List.length e3
    simp at this
    exact ⟨List.length_eq_zero_iff.1 (by omega), List.length_eq_zero_iff.1 (by omega)⟩
  rw [hAB.1, hAB.2] at h7
  have hR3 : ∀ c ∈ R3, Sh c := fun c hc => (h8 c hc).elim (hR c) (hv4 c)
  exact ⟨R3, dec_frame t h7 (fun j _ => by simp [Src.rd, m1]) (fun b j hb => by
    rcases hb with hb | hb
    · simp at hb
    · exact (hm1 b j (hR3 b hb)).symm), hR3⟩

section
variable {P : Program} {B : Base} {N : Nat} {ρ : Type} {Γ : AE} {a : Act} {w : World} {σ : Gh}

theorem fills_some {q : Bool} {t : Ty} {place : Nat → Option (Nat × Nat)} (hp : Places t place) : ∀ (l : List (Nat × Operand)) {Γ : AE} {σ : Gh} {x : t.den} {cs : Array Value} {R} {K : t.den → AE → Rs ρ} {z : ρ}, Rel B Γ N (tmOf a) w σ →
    (∀ y ∈ l, opdOk N y.2 = true) → cs.size = t.cells → dec (memo w σ.ov) t (fun j => cs[j]?) = some (x, [], R) → (∀ c ∈ R, Shr B w σ c) → Γ.fills q t l x K = some z →
    ∃ y cs' Γ' σ' R', K y Γ' = some z ∧ Rel B Γ' N (tmOf a) w σ' ∧ Instr.fill place cs (l.map fun (i, x) => (i, a.eval x)) = some cs' ∧ cs'.size = t.cells ∧ dec (memo w σ'.ov) t (fun j => cs'[j]?) = some (y, [], R') ∧ (∀ c ∈ R', Shr B w σ' c)
  | [], Γ, σ, x, cs, R, K, z, h, _, hs, hd, hR, hz => ⟨x, cs, Γ, σ, R, hz, h, rfl, hs, hd, hR⟩
  | (i, o) :: l, Γ, σ, x, cs, R, K, z, h, hl, hs, hd, hR, hz => by
    unfold AE.fills at hz
    rcases bif_some hz with ⟨hi, hz⟩ | ⟨-, hz⟩
    · obtain ⟨τ', k, h1, h2, h3⟩ := hp i hi
      have hg : (getP t x (AE.pathOf t i)).1 = τ' := by
        have h0 : dec (fun c j => if c = w.heap.size then cs[j]? else memo w σ.ov c j) t ((Src.at w.heap.size 0).rd fun c j => if c = w.heap.size then cs[j]? else memo w σ.ov c j) = some (x, [], R) :=
          dec_frame t hd (fun j _ => by simp [Src.rd]) (fun b j hb => by
            rcases hb with hb | hb
            · simp at hb
            · have := (hR b hb).1
              exact if_neg (by omega))
        obtain ⟨y0, O1, R1, A1, B1, A1', B1', hd1, hg, -⟩ := dec_loc _ t _ h0 (h3 _ _ _)
        rw [hg]
      generalize hgg : getP t x (AE.pathOf t i) = gg at hz hg
      obtain ⟨t2, y2⟩ := gg
      simp only at hg
      subst hg
      simp only at hz
      obtain ⟨y, Γ1, σ1, hz, h4, hv, hev, -⟩ := h.asV (.inl (h.opd (hl _ (List.mem_cons_self ..)))) hz
      have hd' : dec (memo w σ1.ov) t (fun j => cs[j]?) = some (x, [], R) := by rw [hev.ov]; exact hd
      obtain ⟨R', h5, h6⟩ := part_laid (sz := w.heap.size) (fun c hc => hc.1) hd' (fun c hc => hev.shr c (hR c hc)) h3 (by omega) hv
      obtain ⟨y', cs', Γ', σ', R'', g1, g2, g3, g4, g5, g6⟩ := fills_some hp l h4 (fun u hu => hl u (List.mem_cons_of_mem _ hu)) (cs := (a.eval o).cells.zipIdx.foldl (fun cs (c, j) => cs.setIfInBounds (k + j) c) cs) (by
        have hfold : (a.eval o).cells.zipIdx.foldl (fun cs (c, j) => cs.setIfInBounds (k + j) c) cs = ((a.eval o).cells.toList.zipIdx 0).foldl (fun cs (c : Value × Nat) => cs.setIfInBounds (k + c.2) c.1) cs := by
          rw [← Array.foldl_toList]; simp
        rw [hfold, (fold_cells k _ 0 cs).1]; exact hs) h5 h6 hz
      refine ⟨y', cs', Γ', σ', R'', g1, g2, ?_, g4, g5, g6⟩
      have hvc := hv.cells.1
      simp only [List.map_cons, Instr.fill, h1]
      have hvc : (a.eval o).cells.size = t2.cells := hvc
      rw [if_neg (by simp; omega)]
      exact g3
    · cases hz

theorem lit_fills {q : Bool} {e : Ty} {n : Nat} : ∀ (l : List (Nat × Operand)) (Γ : AE) (x : List e.den) (K : List e.den → AE → Rs ρ), Γ.lit q e n l x K = Γ.fills q (.arr n e) l x K
  | [], _, _, _ => rfl
  | (i, o) :: l, Γ, x, K => by
    show (bif decide (i < n) then Γ.asV q e (Γ.opd o) (fun y Γ' => Γ'.lit q e n l (x.set i y) K) else none) =
      (bif decide (i < n) then Γ.asV q e (Γ.opd o) (fun y Γ' => Γ'.fills q (.arr n e) l (setP (.arr n e) x [.idx i] e y) K) else none)
    congr 2
    funext y Γ'
    rw [lit_fills l]
    congr 1
    show x.set i y = List.set x i (if h : e = e then h ▸ y else _)
    rw [dif_pos rfl]

theorem does_buildSlice {o : Oper} {t : TypeId} {n : Nat} {ps : Array (Nat × Operand)} {d : Nat} {cx : Cx} {q : Bool} {K : AE → Rs ρ} {z : ρ} (hcx : CxTy P cx) (ho : o.op = .buildSlice t n ps) (hd : o.dst = some d)
    (h : Rel B Γ N (tmOf a) w σ) (hN : a.tmps.size = N) (hf : fits N o = true) (hz : aop cx q o Γ K = some z) : Does P B N o a w K z := by
  have hops : ∀ y ∈ (o.op.operands.toList), opdOk N y = true := fits_op hf
  rw [ho] at hops
  simp only [aop, ho, hd] at hz
  split at hz
  · rename_i o' e hT
    rcases bif_some hz with ⟨hc, hz⟩ | ⟨-, hz⟩
    · simp only [Bool.and_eq_true, decide_eq_true_eq, lim] at hc
      rw [lit_fills] at hz
      obtain ⟨hsh, hty⟩ := hcx.T t _ hT
      obtain ⟨t', hu, hte, hpos⟩ := tyOk_elem hty
      obtain ⟨I⟩ := baseOk_info (tyOk_base hte)
      obtain ⟨y, cs', Γ', σ', R', g1, g2, g3, g4, g5, g6⟩ := fills_some (places_arr n e) ps.toList h (fun y hy => hops y.2 (by
          simp only [Op.operands]
          exact List.mem_map.2 ⟨y, hy, rfl⟩)) (cs := madeCells I.z.cells (n * e.cells)) (size_madeCells _ _) (made_dec (m := memo w σ.ov) I.zok I.zsize n) (by simp) hz
      have g5 : collect (fun i => dec (memo w σ'.ov) e fun j => cs'[i * e.cells + j]?) n 0 = some (y, [], R') := g5
      have hlen := collect_length n 0 g5
      have hn2 : n * e.cells = 0 → n = 0 := fun e0 => by
        rcases Nat.mul_eq_zero.1 e0 with e1 | e1
        · exact e1
        · omega
      have hrun : (execOp a.eval o).run P w = .ok (.value (.slice (some ⟨w.heap.size, 0, none⟩) n n)) (w.alloc (.cells cs' t')) := by
        have hle : ¬ (n * e.cells > 2 ^ 24) := by omega
        have hpm : (ps.map fun (i, x) => (i, a.eval x)).toList = ps.toList.map fun (i, x) => (i, a.eval x) := by simp
        by_cases h0 : n * e.cells = 0
        · have : (Array.range (n * e.cells)).map (fun i => (#[] : Array Value)[i % (#[] : Array Value).size]!) = madeCells I.z.cells (n * e.cells) := by
            rw [h0]; simp [madeCells]
          have g3' := g3
          rw [← this] at g3'
          simp only [execOp, ho, Instr.buildSlice, Sem.run_bind, run_underlying hu, Result.andThen_ok, I.sizeOf, if_neg hle, if_pos h0, Sem.run_pure, hpm, g3', newRow]
          simp
        · have g3' : Instr.fill (fun i => some (i * e.cells, e.cells)) ((Array.range (n * e.cells)).map (I.z.cells[· % I.z.cells.size]!)) (ps.toList.map fun (i, x) => (i, a.eval x)) = some cs' := g3
          simp only [execOp, ho, Instr.buildSlice, Sem.run_bind, run_underlying hu, Result.andThen_ok, I.sizeOf, if_neg hle, if_neg h0, Sem.run_pure, I.zeroValue, hpm, g3', newRow]
          simp
      have hyl : List.length (show List e.den from y) = n := hlen
      obtain ⟨Γ2, σ2, k1, k2, k3, -, -⟩ := g2.newSlice (c := n) g1 (fun c hc => heap_alloc_old _ c hc) (size_alloc_le _) (heap_alloc_new (Obj.cells cs' t')) (.inl rfl) (Nat.le_of_eq g4.symm) (Nat.le_of_eq hyl) (by rw [hyl]; exact g5) g6
      rw [hyl] at k3
      exact Does.set hd hN hrun k2 k3 k1
    · cases hz
  · cases hz

theorem mapM_places {P : Program} {w : World} : ∀ (fs : List Field), (∀ f ∈ fs, ∃ i, P.info? f.type = some i) →
    ∃ l : List (Nat × Nat), (fs.mapM fun f => do pure (f.offset, ← sizeOf f.type) : Sem (List (Nat × Nat))).run P w = .ok l w ∧ l.length = fs.length ∧ ∀ (k : Nat) f, fs[k]? = some f → ∃ i, P.info? f.type = some i ∧ l[k]? = some (f.offset, i.size)
  | [], _ => ⟨[], rfl, rfl, by simp⟩
  | f :: fs, h => by
    obtain ⟨i, hi⟩ := h f (by simp)
    obtain ⟨l, h1, h2, h3⟩ := mapM_places (w := w) fs (fun g hg => h g (by simp [hg]))
    refine ⟨(f.offset, i.size) :: l, ?_, by simp [h2], fun k g hg => ?_⟩
    · have e : (do pure (f.offset, ← sizeOf f.type) : Sem (Nat × Nat)).run P w = .ok (f.offset, i.size) w := by simp [sizeOf, typeInfo, hi]
      rw [List.mapM_cons, Sem.run_bind, e]
      simp only [Result.andThen_ok, Sem.run_bind, h1]
      rfl
    · cases k with
      | zero => simp only [List.getElem?_cons_zero, Option.some.injEq] at hg; subst hg; exact ⟨i, hi, rfl⟩
      | succ k => simp only [List.getElem?_cons_succ] at hg ⊢; exact h3 k g hg

theorem tyOk_fields_info {P : Program} : ∀ (τ : Ty) (fs : List Field) (off : Nat), tyOk P τ (.inr (fs, off)) = true → ∀ f ∈ fs, ∃ i, P.info? f.type = some i
  | .pair a b, f :: r, off, h => by
    simp only [tyOk, Bool.and_eq_true] at h
    obtain ⟨I⟩ := baseOk_info (tyOk_base h.1.1.2)
    intro g hg
    rcases List.mem_cons.1 hg with rfl | hg
    · exact ⟨_, I.info⟩
    · exact tyOk_fields_info b r _ h.2 g hg
  | .unit, [], _, _ => by simp
  | .unit, _ :: _, _, h => by simp [tyOk] at h
  | .pair _ _, [], _, h => by simp [tyOk] at h
  | .int _, _, _, h => by simp [tyOk] at h
  | .bool, _, _, h => by simp [tyOk] at h
  | .str, _, _, h => by simp [tyOk] at h
  | .list _ _, _, _, h => by simp [tyOk] at h
  | .arr _ _, _, _, h => by simp [tyOk] at h

theorem does_build {o : Oper} {t : TypeId} {ps : Array (Nat × Operand)} {d : Nat} {cx : Cx} {q : Bool} {K : AE → Rs ρ} {z : ρ} (hcx : CxTy P cx) (ho : o.op = .build t ps) (hd : o.dst = some d)
    (h : Rel B Γ N (tmOf a) w σ) (hN : a.tmps.size = N) (hf : fits N o = true) (hz : aop cx q o Γ K = some z) : Does P B N o a w K z := by
  have hops : ∀ y ∈ (o.op.operands.toList), opdOk N y = true := fits_op hf
  rw [ho] at hops
  simp only [aop, ho, hd] at hz
  split at hz
  · rename_i τ hT
    obtain ⟨hsh, hty⟩ := hcx.T t _ hT
    obtain ⟨I⟩ := baseOk_info (tyOk_base hty)
    obtain ⟨hagg, hz⟩ : τ.isAgg = true ∧ _ := (bif_some hz).elim id fun h => by cases h.2
    have hops' : ∀ y ∈ ps.toList, opdOk N y.2 = true := fun y hy => hops y.2 (by
          simp only [Op.operands]
          exact List.mem_map.2 ⟨y, hy, rfl⟩)
    have hpm : (ps.map fun (i, x) => (i, a.eval x)).toList = ps.toList.map fun (i, x) => (i, a.eval x) := by simp
    have fin : ∀ place, Places τ place → (∀ cs', Instr.fill place I.z.cells (ps.toList.map fun (i, x) => (i, a.eval x)) = some cs' → (execOp a.eval o).run P w = .ok (.value (.agg cs')) w) → τ.isAgg = true → Does P B N o a w K z := by
      intro place hp hrun hagg
      obtain ⟨y, cs', Γ', σ', R', g1, g2, g3, g4, g5, g6⟩ := fills_some hp ps.toList h hops' I.zsize (zeroR_dec τ I.zok) (by simp) hz
      exact Does.set hd hN (hrun cs' g3) g2 (av := .val τ y) ⟨fun _ => ⟨cs', rfl, g4⟩, fun e => (by rw [hagg] at e; cases e), R', g5, g6⟩ g1
    have str : ∀ fs : Array Field, P.underlying t = some (.struct fs) → tyOk P τ (.inr (fs.toList, 0)) = true → (∀ i, AE.pathOk τ i = okField τ i ∧ AE.pathOf τ i = fieldPath i) → τ.isAgg = true → Does P B N o a w K z := by
      intro fs hu hs hpath hagg
      obtain ⟨l, h1, h2, h3⟩ := mapM_places (P := P) (w := w) fs.toList (tyOk_fields_info τ _ _ hs)
      refine fin (fun i => l.toArray[i]?) (fun i hi => ?_) (fun cs' hc => ?_) hagg
      · rw [(hpath i).1] at hi
        rw [(hpath i).2]
        obtain ⟨fl, τ', k, k1, k2, k3, k4, k5⟩ := tyOk_field i τ _ 0 hs hi
        obtain ⟨fl2, τ2, k', j1, j2, j3, j4, -⟩ := tyOk_fieldD i τ _ 0 hs hi
        rw [k1] at j1
        simp only [Option.some.injEq] at j1
        subst j1
        obtain ⟨i', hi', hl⟩ := h3 i fl k1
        obtain ⟨I1⟩ := baseOk_info (tyOk_base k3)
        obtain ⟨I2⟩ := baseOk_info (tyOk_base j3)
        have e1 : i' = I1.i := by have := hi'.symm.trans I1.info; simpa using this
        have e2 : I1.i = I2.i := by have := I1.info.symm.trans I2.info; simpa using this
        refine ⟨τ', k, ?_, ?_, k5⟩
        · have hk : fl.offset = k := by omega
          simp only [List.getElem?_toArray]
          rw [hl, e1, I1.size, hk]
        · have s1 := I1.size
          have s2 := I2.size
          rw [← e2] at s2
          omega
      · have hm : (fs.mapM fun f => do pure (f.offset, ← sizeOf f.type) : Sem (Array (Nat × Nat))).run P w = .ok l.toArray w := by
          rw [Array.mapM_eq_mapM_toList]
          show ((fs.toList.mapM fun f => do pure (f.offset, ← sizeOf f.type)) >>= fun l => pure l.toArray : Sem (Array (Nat × Nat))).run P w = _
          rw [Sem.run_bind, h1]
          rfl
        simp only [execOp, ho, Instr.build, Sem.run_bind, I.zeroValue, Result.andThen_ok, run_underlying hu, hm, hpm, hc]
        simp
    have arr : ∀ n t' e, P.underlying t = some (.array n t') → tyOk P e (.inl t') = true → Places τ (fun i => some (i * e.cells, e.cells)) → τ.isAgg = true → Does P B N o a w K z := by
      intro n t' e hu hte hp hagg
      obtain ⟨I'⟩ := baseOk_info (tyOk_base hte)
      refine fin _ hp (fun cs' hc => ?_) hagg
      simp only [execOp, ho, Instr.build, Sem.run_bind, I.zeroValue, Result.andThen_ok, run_underlying hu, I'.sizeOf, hpm, hc]
      simp
    clear fin
    cases τ with
    | pair u v =>
      simp only [tyOk, Bool.and_eq_true] at hty
      obtain ⟨-, hty⟩ := hty
      split at hty
      · rename_i fs hu
        split at hty
        · rename_i fl r hl
          refine str fs hu ?_ (fun i => ⟨rfl, rfl⟩) rfl
          rw [hl]
          simp only [tyOk]
          simpa using hty
        · cases hty
      · cases hty
    | unit =>
      simp only [tyOk, Bool.and_eq_true] at hty
      obtain ⟨-, hty⟩ := hty
      split at hty
      · rename_i fs hu
        refine str fs hu ?_ (fun i => ⟨rfl, rfl⟩) rfl
        have : fs.toList = [] := by simpa using hty
        rw [this]; rfl
      · cases hty
    | arr n e =>
      obtain ⟨t', hu, hte, -⟩ := tyOk_arr hty
      exact arr n t' e hu hte (places_arr n e) rfl
    | _ => cases hagg
  · cases hz

end
end Go.Ab

/- The elements of a slice as cells. Conditions: as each lemma states. -/
namespace Go.Ab

/-- Cells of elements, one behind the other. -/
theorem row_cells {m : Mem} {e : Ty} {b o n : Nat} {l : List e.den} {R} (h : collect (fun i => dec m e fun j => m b (o + (i * e.cells + j))) n 0 = some (l, [], R)) :
    ∃ cs : List Value, cs.length = n * e.cells ∧ (∀ j u, cs[j]? = some u → m b (o + j) = some u) ∧ (∀ u ∈ cs, single u = true) ∧ collect (fun i => dec m e fun j => cs[i * e.cells + j]?) n 0 = some (l, [], R) := by
  have h1 : dec m (.arr n e) (fun j => m b (o + j)) = some (l, [], R) := h
  have hc : ∀ j, j < n * e.cells → ∃ u, m b (o + j) = some u ∧ single u = true := dec_cells (.arr n e) h1
  let cs : List Value := (List.range (n * e.cells)).map fun j => (m b (o + j)).getD undef
  have hcs : ∀ j, j < n * e.cells → cs[j]? = m b (o + j) := fun j hj => by
    obtain ⟨u, hu, -⟩ := hc j hj
    simp only [cs, List.getElem?_map, List.getElem?_range hj, Option.map_some, hu, Option.getD_some]
  have hlen : cs.length = n * e.cells := by simp [cs]
  refine ⟨cs, hlen, fun j u hu => ?_, fun u hu => ?_, ?_⟩
  · have hj : j < n * e.cells := by
      have := (List.getElem?_eq_some_iff.1 hu).1
      omega
    rw [← hcs j hj]; exact hu
  · obtain ⟨j, hj, rfl⟩ := List.mem_map.1 hu
    rw [List.mem_range] at hj
    obtain ⟨u, hu, hs⟩ := hc j hj
    rw [hu]; exact hs
  · exact dec_frame (.arr n e) h1 (rd' := fun j => cs[j]?) (fun j hj => hcs j hj) (fun _ _ _ => rfl)

/-- A pure slice's header and its elements. -/
theorem dec_row {m : Mem} {o : Bool} {e : Ty} (he : e.sh = e) {v : Value} {l : List e.den} {O R} (h : dec m (.list o e) ((Src.one v).rd m) = some (l, O, R)) :
    (v = .slice none 0 0 ∧ l = []) ∨ ∃ a n c rs, v = .slice (some a) n c ∧ a.spot = none ∧ n ≤ c ∧ n = l.length ∧ collect (fun i => dec m e fun j => m a.block (a.off + (i * e.cells + j))) n 0 = some (l, [], rs) ∧
      (∀ x ∈ rs, x ∈ R) ∧ (o = false → 0 < n → a.block ∈ R) := by
  have h : decL m o e.cells (dec m e) (some v) = some (l, O, R) := h
  unfold decL at h
  split at h
  · rename_i n c hv
    simp only [Option.some.injEq] at hv
    split at h
    · rename_i hc
      refine .inl ⟨by rw [hv, hc.1, hc.2], (congrArg (·.1) (Option.some.inj h)).symm⟩
    · cases h
  · rename_i a n c hv
    simp only [Option.some.injEq] at hv
    split at h
    · rename_i hc
      split at h
      · cases h
      · rename_i xs os rs hx
        have hos : os = [] := by
          have h1 : dec m (.arr n e) (fun j => m a.block (a.off + j)) = some (xs, os, rs) := hx
          exact dec_pure (by simp only [Ty.sh, he]) h1
        subst hos
        have hxl : xs = l ∧ (∀ x ∈ rs, x ∈ R) ∧ (o = false → 0 < n → a.block ∈ R) := by
          split at h
          · rename_i ho
            split at h
            · have h := Option.some.inj h
              exact ⟨congrArg (·.1) h, fun x hx => (show rs = R from congrArg (·.2.2) h) ▸ hx, fun e => (by rw [ho] at e; cases e)⟩
            · have h := Option.some.inj h
              exact ⟨congrArg (·.1) h, fun x hx => (show rs = R from congrArg (·.2.2) h) ▸ hx, fun e => (by rw [ho] at e; cases e)⟩
          · split at h
            · rename_i hn
              subst hn
              simp [collect] at hx
              have h := Option.some.inj h
              refine ⟨congrArg (·.1) h, fun x hx' => ?_, fun _ hn => absurd hn (by omega)⟩
              rw [hx.2] at hx'; cases hx'
            · have h := Option.some.inj h
              have hR : a.block :: (([] : Owns).map (·.1) ++ rs) = R := congrArg (·.2.2) h
              rw [← hR]
              exact ⟨congrArg (·.1) h, fun x hx => by simp [hx], fun _ _ => by simp⟩
        obtain ⟨rfl, h2, h3⟩ := hxl
        exact .inr ⟨a, n, c, rs, hv, hc.1, hc.2, (collect_length n 0 hx).symm, hx, h2, h3⟩
    · cases h
  · cases h

/-- What is known of the elements of a slice: its cells in memory. -/
def Elems (w : World) (m : Mem) (Sh : Nat → Prop) (e : Ty) (l : List e.den) (v : Value) : Prop :=
  ∃ A n c, ∃ cs : List Value, v = .slice A n c ∧ n = l.length ∧ cs.length = n * e.cells ∧ (∀ u ∈ cs, single u = true) ∧ (∃ R, collect (fun i => dec m e fun j => cs[i * e.cells + j]?) n 0 = some (l, [], R) ∧ ∀ c ∈ R, Sh c) ∧
    (∀ b, A = some b → ∀ j u, cs[j]? = some u → w.cell? (b.add j) = some u) ∧ (A = none → n = 0) ∧ (∀ b, A = some b → b.spot = none)

theorem Elems.nil {w m Sh e} {A : Option Addr} {c : Nat} (hA : ∀ b, A = some b → b.spot = none) : Elems w m Sh e [] (.slice A 0 c) :=
  ⟨A, 0, c, [], rfl, rfl, by simp, by simp, ⟨[], rfl, by simp⟩, by simp, fun _ => rfl, hA⟩

section
variable {P : Program} {B : Base} {N : Nat} {ρ : Type} {Γ : AE} {a : Act} {w : World} {σ : Gh}

theorem Rel.ov_none {tm} (h : Rel B Γ N tm w σ) (hp : Γ.pd = none) : σ.ov = none := by
  have := h.pend
  rw [hp] at this
  cases hov : σ.ov with
  | none => rfl
  | some x => rw [hov] at this; exact this.elim

/-- Shared blocks are read as memory holds them. -/
theorem Rel.memo_shr {tm} (h : Rel B Γ N tm w σ) {c j : Nat} (hc : Shr B w σ c) : memo w σ.ov c j = w.cell? ⟨c, j, none⟩ := by
  unfold memo
  split
  · rename_i b o v hov
    have hp := h.pend
    rw [hov] at hp
    cases hpd : Γ.pd with
    | none => rw [hpd] at hp; exact hp.elim
    | some x =>
      obtain ⟨n, p, d⟩ := x
      rw [hpd] at hp
      obtain ⟨r, e, hr, hl⟩ := hp
      rw [← hov] at hl
      have hb := h.place hr hl
      rw [if_neg]
      rintro ⟨rfl, -⟩
      exact hc.2.2 ⟨n, hb⟩
  · rfl

theorem add_cell {A : Addr} (h : A.spot = none) (j : Nat) : w.cell? (A.add j) = w.cell? ⟨A.block, A.off + j, none⟩ := by rw [add_none h]

theorem Rel.elems {tm} {e : Ty} (he : e.sh = e) (h : Rel B Γ N tm w σ) {av v} {K : List e.den → Rs ρ} {z : ρ} (ha : AVOk (memo w σ.ov) σ.g Γ.rt (Shr B w σ) av v) (hK : Γ.elems e av K = some z) :
    ∃ l, K l = some z ∧ Elems w (memo w σ.ov) (Shr B w σ) e l v := by
  unfold AE.elems at hK
  split at hK
  · rename_i t' x
    split at hK
    · rename_i ht
      subst ht
      refine ⟨_, hK, ?_⟩
      obtain ⟨R, h1, h2⟩ := VOk.rd (t := .list false t') ha rfl rfl
      rcases dec_row he h1 with ⟨rfl, h3⟩ | ⟨A, n, c, rs, rfl, g1, g2, g3, g4, g5, g6⟩
      · show Elems _ _ _ _ x _
        rw [h3]; exact Elems.nil (by simp)
      · obtain ⟨cs, k1, k2, k3, k4⟩ := row_cells g4
        refine ⟨some A, n, c, cs, rfl, g3, k1, k3, ⟨rs, k4, fun b hb => h2 b (g5 b hb)⟩, fun b hb j u hu => ?_, by simp, fun b hb => by simp only [Option.some.injEq] at hb; rw [← hb]; exact g1⟩
        simp only [Option.some.injEq] at hb
        subst hb
        rw [add_cell g1, ← h.memo_shr (h2 _ (g6 rfl ?_))]
        · exact k2 j u hu
        · have := (List.getElem?_eq_some_iff.1 hu).1
          rw [k1] at this
          exact Nat.pos_of_ne_zero fun e0 => by rw [e0, Nat.zero_mul] at this; omega
    · cases hK
  · refine ⟨[], hK, ?_⟩
    have ha : v = .slice none 0 0 := ha
    rw [ha]; exact Elems.nil (by simp)
  · refine ⟨[], hK, ?_⟩
    obtain ⟨A, hv, hA⟩ := ha
    rw [hv]; exact Elems.nil hA
  · rename_i n p
    split at hK
    · rename_i r hr
      obtain ⟨hpd, hr⟩ := look_some hr
      split at hK
      · rename_i e' l hg
        split at hK
        · rename_i hee
          subst hee
          obtain ⟨s, O', R', g1, g2, g3, g4, g5, g6⟩ := h.slice ha hr hg
          refine ⟨l, hK, ?_⟩
          have hov := h.ov_none hpd
          rcases dec_row he g4 with ⟨rfl, h3⟩ | ⟨A, n, c, rs, rfl, f1, f2, f3, f4, f5, -⟩
          · rw [h3]; exact Elems.nil (by simp)
          · obtain ⟨cs, k1, k2, k3, k4⟩ := row_cells f4
            refine ⟨some A, n, c, cs, rfl, f3, k1, k3, ⟨rs, k4, fun b hb => g5 b (f5 b hb)⟩, fun b hb j u hu => ?_, by simp, fun b hb => by simp only [Option.some.injEq] at hb; rw [← hb]; exact f1⟩
            simp only [Option.some.injEq] at hb
            subst hb
            rw [add_cell f1]
            have := k2 j u hu
            rw [hov] at this
            exact this
        · cases hK
      · cases hK
    · cases hK
  · rename_i n p o k
    split at hK
    · rename_i r hr
      obtain ⟨hpd, hr⟩ := look_some hr
      split at hK
      · rename_i e' l hg
        split at hK
        · rename_i hee
          subst hee
          obtain ⟨s, O', R', A0, n0, c, g1, g2, g3, g4, g5, g6, a', rfl, g7, g8⟩ := h.window ha hr hg
          refine ⟨_, hK, ?_⟩
          show Elems _ _ _ _ (List.take k (List.drop o l)) _
          have hov := h.ov_none hpd
          rcases dec_row he g3 with ⟨hv, h3⟩ | ⟨A, n, c', rs, hv, f1, f2, f3, f4, f5, -⟩
          · simp only [Value.slice.injEq] at hv
            have hk : k = 0 := by omega
            subst hk
            exact Elems.nil g7
          · simp only [Value.slice.injEq] at hv
            obtain ⟨rfl, rfl, rfl⟩ := hv
            rw [show n0 = o + (k + (n0 - o - k)) from by omega] at f4
            obtain ⟨os1, rs1, os2, rs2, j1, j2, e1, rfl⟩ := collect_take o _ 0 f4
            obtain ⟨os3, rs3, os4, rs4, j3, j4, rfl, rfl⟩ := collect_take k _ (0 + o) j2
            have hos : os3 = [] := by
              have := congrArg List.length e1
              simp at this
              exact List.length_eq_zero_iff.1 (by omega)
            subst hos
            have hshift : ∀ (q i : Nat), collect (fun i => dec (memo w σ.ov) e' fun j => memo w σ.ov A.block (A.off + o * e'.cells + (i * e'.cells + j))) q i = collect (fun i => dec (memo w σ.ov) e' fun j => memo w σ.ov A.block (A.off + (i * e'.cells + j))) q (o + i) := by
              intro q
              induction q with
              | zero => intro i; rfl
              | succ q ih =>
                intro i
                have hf : (fun j => memo w σ.ov A.block (A.off + o * e'.cells + (i * e'.cells + j))) = fun j => memo w σ.ov A.block (A.off + ((o + i) * e'.cells + j)) := by
                  funext j
                  rw [Nat.add_mul]; congr 1; omega
                simp only [collect]
                rw [ih (i + 1), hf, show o + (i + 1) = o + i + 1 from by omega]
            have hc : collect (fun i => dec (memo w σ.ov) e' fun j => memo w σ.ov A.block (A.off + o * e'.cells + (i * e'.cells + j))) k 0 = some (List.take k (List.drop o l), [], rs3) := by
              rw [hshift, Nat.add_zero]
              rw [Nat.zero_add] at j3
              exact j3
            obtain ⟨cs, k1, k2, k3, k4⟩ := row_cells hc
            refine ⟨a', k, c - o, cs, rfl, ?_, k1, k3, ⟨rs3, k4, fun b hb => g4 b (f5 b (by simp [hb]))⟩, fun b hb j u hu => ?_, fun hn => ?_, g7⟩
            · have e0 : n0 = l.length := f3
              have e1 : (List.take k (List.drop o l)).length = min k (l.length - o) := List.length_take.trans (congrArg (min k) List.length_drop)
              rw [e1]; omega
            · have hjk := (List.getElem?_eq_some_iff.1 hu).1
              rw [k1] at hjk
              have hk0 : 0 < k := Nat.pos_of_ne_zero fun e0 => by rw [e0, Nat.zero_mul] at hjk; omega
              rcases g8 with g8 | g8
              · omega
              · rw [g8] at hb
                simp only [Option.map_some, Option.some.injEq] at hb
                rw [← hb, add_none f1, add_cell rfl]
                have := k2 j u hu
                rw [hov] at this
                exact this
            · rcases g8 with g8 | g8
              · omega
              · rw [g8] at hn; simp at hn
        · cases hK
      · cases hK
    · cases hK
  · cases hK

/-- The first k elements are read out of memory. -/
theorem run_first {w w2 : World} {e : Ty} {v : Value} {A : Option Addr} {n c : Nat} {cs : List Value} (hv : v = .slice A n c) (hw : ∀ x, w2.cell? x = w.cell? x) (hlen : cs.length = n * e.cells)
    (hc : ∀ b, A = some b → ∀ j u, cs[j]? = some u → w.cell? (b.add j) = some u) (hn : A = none → n = 0) (k : Nat) (hk : k ≤ n) :
    (Builtin.firstCells e.cells k v).run P w2 = .ok (cs.take (k * e.cells)).toArray w2 := by
  subst hv
  cases A with
  | none =>
    have : k = 0 := by have := hn rfl; omega
    subst this
    simp [Builtin.firstCells]
  | some b =>
    refine run_firstCells_some w2 e.cells k b n c _ ?_ fun j u hu => ?_
    · have : k * e.cells ≤ n * e.cells := Nat.mul_le_mul_right _ hk
      rw [List.length_take]; omega
    · rw [hw]
      refine hc b rfl j u ?_
      rw [List.getElem?_take] at hu
      split at hu
      · exact hu
      · cases hu

end
end Go.Ab

/- Operations: conversions, lengths, least and greatest. Conditions: as each lemma states. -/
namespace Go.Ab

theorem tyOk_und {P : Program} {τ : Ty} {t : TypeId} (h : tyOk P τ (.inl t) = true) : ∃ d, P.underlying t = some d := by
  cases hu : P.underlying t with
  | some d => exact ⟨d, rfl⟩
  | none => cases τ <;> simp [tyOk, hu] at h

theorem tyOk_int {P : Program} {k : IntKind} {t : TypeId} (h : tyOk P (.int k) (.inl t) = true) : P.underlying t = some (.int k) := by
  simp only [tyOk, Bool.and_eq_true] at h
  obtain ⟨-, h⟩ := h
  split at h
  · rename_i k' hk
    rw [hk]
    simp only [decide_eq_true_eq] at h
    rw [h]
  · cases h

theorem tyOk_str {P : Program} {t : TypeId} (h : tyOk P .str (.inl t) = true) : P.underlying t = some .string := by
  simp only [tyOk, Bool.and_eq_true] at h
  obtain ⟨-, h⟩ := h
  split at h
  · assumption
  · cases h

/-- The cells of numbers. -/
theorem ints_cells {m : Mem} {k : IntKind} : ∀ (l : List Int) (n i : Nat) {cs : List Value} {R}, cs.length = i + n → collect (fun i => dec m (.int k) fun j => cs[i * 1 + j]?) n i = some (l, [], R) → cs.drop i = l.map (Value.int k)
  | l, 0, i, cs, R, hl, h => by
    have h1 : [] = l := congrArg (·.1) (Option.some.inj h)
    have : cs.drop i = [] := List.drop_eq_nil_iff.2 (by omega)
    rw [this, ← h1]; rfl
  | l, n + 1, i, cs, R, hl, h => by
    simp only [collect] at h
    split at h
    · cases h
    · rename_i x o r hx
      split at h
      · cases h
      · rename_i xs os rs h2
        have hi : i < cs.length := by omega
        simp only [dec, Nat.mul_one, Nat.add_zero, List.getElem?_eq_getElem hi] at hx
        split at hx
        · rename_i k' n' hv
          split at hx
          · rename_i hk
            subst hk
            have hxv : n' = x := congrArg (·.1) (Option.some.inj hx)
            have hl' : x :: xs = l := congrArg (·.1) (Option.some.inj h)
            have ho : o = [] := by
              have : o ++ os = [] := congrArg (·.2.1) (Option.some.inj h)
              exact (List.append_eq_nil_iff.1 this).1
            have hos : os = [] := by
              have : o ++ os = [] := congrArg (·.2.1) (Option.some.inj h)
              exact (List.append_eq_nil_iff.1 this).2
            subst hos
            rw [List.drop_eq_getElem_cons hi, ints_cells xs n (i + 1) (by omega) h2, ← hl']
            simp only [Option.some.injEq] at hv
            rw [hv, hxv]; rfl
          · cases hx
        · cases hx

section
variable {P : Program} {B : Base} {N : Nat} {ρ : Type} {Γ : AE} {a : Act} {w : World} {σ : Gh}

theorem push_bytes (ns : List Int) : ∀ (s : ByteArray), ((ns.foldl (fun r n => r.push (UInt8.ofNat n.toNat)) s).data.toList.map fun b => (b.toNat : Int)) = (s.data.toList.map fun b => (b.toNat : Int)) ++ b2s ns := by
  induction ns with
  | nil => intro s; simp [b2s]
  | cons n ns ih =>
    intro s
    rw [List.foldl_cons, ih]
    simp [b2s, ByteArray.push]

theorem heap_freeze (w : World) (a : Addr) (c : Nat) : (w.freeze a 1).heap[c]? = if c = a.block then (w.heap[c]?).map (fun | .cells cs elem (lo, hi) => .cells cs elem (if lo == hi then (a.off, a.off + 1) else (min lo a.off, max hi (a.off + 1))) | o => o) else w.heap[c]? := by
  unfold World.freeze
  rw [if_neg (by decide)]
  simp only [Array.getElem?_modify]
  by_cases e : a.block = c
  · rw [if_pos e, if_pos e.symm]
    cases w.heap[c]? with
    | none => rfl
    | some o => cases o <;> rfl
  · rw [if_neg e, if_neg (Ne.symm e)]

theorem cell_freeze (w : World) (a p : Addr) : (w.freeze a 1).cell? p = w.cell? p := by
  unfold World.cell?
  rw [heap_freeze]
  by_cases e : p.block = a.block
  · rw [if_pos e]
    cases w.heap[p.block]? with
    | none => rfl
    | some o => cases o <;> rfl
  · rw [if_neg e]

theorem memo_freeze (w : World) (a : Addr) (ov) : memo (w.freeze a 1) ov = memo w ov := by
  funext b o
  cases ov with
  | none => exact cell_freeze w a _
  | some y =>
    obtain ⟨b', o', v⟩ := y
    simp only [memo]
    split
    · rfl
    · exact cell_freeze w a _

theorem Rel.frozen {Γ : AE} {w : World} {σ : Gh} {tm : Nat → Value} (h : Rel B Γ N tm w σ) {b : Nat} (ho : Owned σ b) {cs : Array Value} {el : TypeId} {lo hi : Nat} (hh : w.heap[b]? = some (.cells cs el (lo, hi))) :
    Rel B Γ N tm (w.freeze { block := b, off := cs.size } 1) σ := by
  have hsz : (w.freeze { block := b, off := cs.size } 1).heap.size = w.heap.size := by
    unfold World.freeze; rw [if_neg (by decide)]; simp
  refine h.mem (fun c j _ => by rw [memo_freeze]) (fun n p hp => ?_) (Nat.le_of_eq hsz.symm) (fun c hc hF => ?_)
  · obtain ⟨c, e, lo', hi', g1, g2, g3⟩ := h.live n p hp
    unfold Free
    rw [heap_freeze]
    by_cases e1 : p.1 = b
    · rw [if_pos e1, g1]
      rw [e1, hh] at g1
      simp only [Option.some.injEq, Obj.cells.injEq, Prod.mk.injEq] at g1
      obtain ⟨rfl, rfl, rfl, rfl⟩ := g1
      have key : ∃ lo2 hi2, (if (lo == hi) = true then (cs.size, cs.size + 1) else (min lo cs.size, max hi (cs.size + 1))) = (lo2, hi2) ∧ p.2 ≤ lo2 := by
        by_cases e2 : lo = hi
        · exact ⟨_, _, if_pos (by simpa using e2), g2⟩
        · refine ⟨_, _, if_neg (by simpa using e2), ?_⟩
          rcases g3 with g3 | g3
          · exact absurd g3.symm e2
          · omega
      obtain ⟨lo2, hi2, k1, k2⟩ := key
      exact ⟨cs, el, lo2, hi2, by simp only [Option.map_some, k1], g2, .inr k2⟩
    · rw [if_neg e1]; exact ⟨c, e, lo', hi', g1, g2, g3⟩
  · rw [heap_freeze, if_neg (fun e => ?_)]
    · exact h.frame c hc hF
    · rcases h.mine b ho with g | g
      · exact hF (e ▸ g)
      · have : c = b := e
        omega

theorem does_convert {o : Oper} {t t2 : TypeId} {x : Operand} {d : Nat} {cx : Cx} {q : Bool} {K : AE → Rs ρ} {z : ρ} (hcx : CxTy P cx) (ho : o.op = .convert t t2 x) (hd : o.dst = some d)
    (h : Rel B Γ N (tmOf a) w σ) (hN : a.tmps.size = N) (hf : fits N o = true) (hz : aop cx q o Γ K = some z) : Does P B N o a w K z := by
  have hx := h.opd (fits_op hf x (by simp [ho, Op.operands]))
  simp only [aop, ho, hd] at hz
  have hrun : ∀ v w', (convert t t2 (a.eval x)).run P w = .ok v w' → (execOp a.eval o).run P w = .ok (.value v) w' := fun v w' hv => by simp [execOp, ho, hv]
  unfold AE.conv AE.convK at hz
  split at hz
  · rename_i τ k k' n hT hT2 he
    rw [he] at hx
    have hv := AVOk.int hx
    obtain ⟨u, hu⟩ := tyOk_und (hcx.T _ _ hT).2
    have hu2 := tyOk_int (hcx.T _ _ hT2).2
    refine Does.set hd hN (hrun (.int k (k.wrap n)) w ?_) h (AVOk.mk_int _) hz
    rw [hv]
    simp [convert, run_underlying hu, run_underlying hu2, Conv.intToInt]
  · rename_i o' l hT hT2 he
    suffices main : ∀ l : List Int, Γ.opd x = .val .str l → (bif lim (List.length l) then Γ.fresh q d ⟨false, .list true (.int .u8), l⟩ fun Γ => K (Γ.set d (.sref d [])) else none) = some z → Does P B N o a w K z from main l he hz
    clear he hz
    intro l he hz
    rw [he] at hx
    obtain ⟨s, hv, hl⟩ := AVOk.str hx
    have hu := tyOk_str (hcx.T _ _ hT).2
    obtain ⟨hsh, hty2⟩ := hcx.T _ _ hT2
    obtain ⟨e, hu2, hte, -⟩ := tyOk_elem hty2
    have hue := tyOk_int hte
    rcases bif_some hz with ⟨-, hz⟩ | ⟨-, hz⟩
    · have hr := run_bytes_of_string (P := P) w t t2 e s hu hu2 hue
      rw [← hv] at hr
      have hg := grownCap_ge w s.size 0 e
      have hsize : (bytesRow s (grownCap w s.size 0 e)).size = grownCap w s.size 0 e := by
        have : s.data.size = s.size := rfl
        simp only [bytesRow, Array.size_append, Array.size_map, Array.size_replicate]
        omega
      have hll : List.length l = s.size := by rw [hl, List.length_map]; rfl
      have hll' : @List.length (Ty.int .u8).den l = s.size := hll
      have hcol : collect (fun i => dec (memo w σ.ov) (.int .u8) fun j => (bytesRow s (grownCap w s.size 0 e))[i * (Ty.int .u8).cells + j]?) (List.length l) 0 = some (l, [], []) := by
        have key : ∀ (n i : Nat) (l' : List Int), l' = l.drop i → l'.length = n → i + n = s.size → collect (fun i => dec (memo w σ.ov) (.int .u8) fun j => (bytesRow s (grownCap w s.size 0 e))[i * (Ty.int .u8).cells + j]?) n i = some (l', [], []) := by
          intro n
          induction n with
          | zero => intro i l' _ h2 _; rw [List.length_eq_zero_iff.1 h2]; rfl
          | succ n ih =>
            intro i l' h1 h2 h3
            have hi : i < s.data.toList.length := by
              have : s.data.toList.length = s.size := rfl
              omega
            have hi' : i < (List.map (fun b : UInt8 => (b.toNat : Int)) s.data.toList).length := by simpa using hi
            have hcell : (bytesRow s (grownCap w s.size 0 e))[i]? = some (.int .u8 ((s.data.toList[i]).toNat : Int)) := by
              have hi2 : i < s.data.size := by simpa using hi
              simp only [bytesRow]
              rw [Array.getElem?_append_left (by simpa using hi2), Array.getElem?_map, Array.getElem?_eq_getElem hi2]
              simp
            have hl' : l' = ((s.data.toList[i]).toNat : Int) :: l.drop (i + 1) := by
              rw [h1, hl, List.drop_eq_getElem_cons hi', List.getElem_map]
            subst hl'
            have h4 := ih (i + 1) (l.drop (i + 1)) rfl (by simpa using h2) (by omega)
            simp only [collect]
            rw [h4]
            simp only [dec, Ty.cells, Nat.mul_one, Nat.add_zero, hcell, if_true]
            rfl
        exact key _ 0 l rfl rfl (by omega)
      obtain ⟨Γ', σ', g1, g2, g3, -, -⟩ := h.newSlice (c := grownCap w s.size 0 e) hz (w' := w.drew.alloc (.cells (bytesRow s (grownCap w s.size 0 e)) e ((bytesRow s (grownCap w s.size 0 e)).size, (bytesRow s (grownCap w s.size 0 e)).size + 1)))
        (fun c hc => heap_alloc_old (w := w.drew) _ c hc) (size_alloc_le (w := w.drew) _) (heap_alloc_new (w := w.drew) _) (.inr (by simp [hsize, Ty.cells])) (by simp [hsize, Ty.cells]) (Nat.le_trans (Nat.le_of_eq hll') hg) hcol (by simp)
      rw [hll'] at g3
      exact Does.set hd hN (hrun _ _ hr) g2 g3 g1
    · cases hz
  · rename_i l hT hT2 he
    rw [he] at hx
    obtain ⟨s, hv, hl⟩ := AVOk.str hx
    have hu := tyOk_str (hcx.T _ _ hT).2
    have hu2 := tyOk_str (hcx.T _ _ hT2).2
    refine Does.set hd hN (hrun (.string s) w ?_) h (hl ▸ AVOk.mk_str s) hz
    rw [hv]
    simp [convert, run_underlying hu, run_underlying hu2]
  · rename_i o1 o2 n hT hT2 he
    split at hz
    · rename_i htt
      subst htt
      split at hz
      · rename_i l hl
        obtain ⟨hlen, hz⟩ := (bif_some hz).elim id fun h => by cases h.2
        have hlen : 0 < List.length l := by simpa using hlen
        obtain ⟨hpd, hr⟩ := look_some hl
        rw [he] at hx
        obtain ⟨hsh, hty⟩ := hcx.T _ _ hT
        obtain ⟨e, hu, hte, -⟩ := tyOk_elem hty
        have hue := tyOk_int hte
        obtain ⟨s, O', R', f1, f2, f3, f4, f5, f6⟩ := h.slice hx hr (show getP (.list true (.int .u8)) l [] = ⟨.list true (.int .u8), l⟩ from rfl)
        obtain ⟨b, n1, c1, hval, hb, hnc, hc0, hbow⟩ : ∃ (b : Addr) (n1 c1 : Nat), a.eval x = .slice (some b) n1 c1 ∧ b.spot = none ∧ n1 ≤ c1 ∧ c1 ≠ 0 ∧ b.block ∈ (σ.ow n).map (·.1) := by
          rcases dec_own f4 with ⟨hs, hl0, -, -⟩ | ⟨b, n1, c1, os, hs, hA, hn, hcol, ho⟩
          · rw [hl0] at hlen; simp at hlen
          · simp only [Src.rd, if_true, Option.some.injEq] at hs
            have hn1 : List.length l = n1 := collect_length _ _ hcol
            have hc1 : c1 ≠ 0 := by omega
            refine ⟨b, n1, c1, hs, hA, hn, hc1, f6 _ ?_⟩
            rcases ho with ⟨h0, -⟩ | ⟨-, ho⟩
            · exact absurd h0 hc1
            · rw [ho]; simp
        have hown : Owned σ b.block := ⟨n, hbow⟩
        obtain ⟨p0, hp0, hp1⟩ := List.mem_map.1 hbow
        obtain ⟨cs, el, lo, hi, hheap, -, -⟩ := h.live n p0 hp0
        rw [hp1] at hheap
        have hrun1 : (convert t t (a.eval x)).run P w = .ok (a.eval x) (w.freeze { block := b.block, off := cs.size } 1) := by
          have hshp : w.shape? b.block = some (el, cs.size) := by unfold World.shape?; rw [hheap]
          rw [hval]
          simp [convert, run_underlying hu, run_underlying hue, markStringish, hshp]
        exact Does.set hd hN (hrun _ _ hrun1) (h.frozen hown hheap) (av := .sref n []) (by
          obtain ⟨r, e', s', k1, k2, k3⟩ := hx
          exact ⟨r, e', s', k1, by rw [memo_freeze]; exact k2, by rw [memo_freeze]; exact k3⟩) hz
      · cases hz
    · cases hz
  · rename_i o' hT hT2
    obtain ⟨hsh, hty⟩ := hcx.T _ _ hT
    obtain ⟨e, hu, hte, -⟩ := tyOk_elem hty
    have hue := tyOk_int hte
    have hu2 := tyOk_str (hcx.T _ _ hT2).2
    obtain ⟨l, hz, A, n, c, cs, hv, hn, hlen, -, ⟨R, hcol, -⟩, hc, hnil, -⟩ := h.elems rfl hx hz
    have hlen' : cs.length = n := by simpa [Ty.cells] using hlen
    have hcs : cs = l.map (Value.int .u8) := by
      have := ints_cells (k := .u8) l n 0 (cs := cs) (by omega) hcol
      rwa [List.drop_zero] at this
    cases A with
    | none =>
      have h0 : l = [] := by
        have := hnil rfl
        exact List.length_eq_zero_iff.1 (by omega)
      refine Does.set hd hN (hrun (.string .empty) w ?_) h (av := .val .str (b2s l)) (by rw [h0]; exact AVOk.mk_str .empty) hz
      rw [hv, run_convert_bytes_string w t t2 e none n c hu hue hu2]
      simp [Conv.bytesToString]
    | some b =>
      refine Does.set hd hN (hrun (.string (l.foldl (fun r n => r.push (UInt8.ofNat n.toNat)) ByteArray.empty)) w ?_) h (av := .val .str (b2s l)) ?_ hz
      · rw [hv, run_convert_bytes_string w t t2 e _ n c hu hue hu2]
        refine run_bytesToString w b n c l ?_
        rw [← hcs, ← hlen']
        exact run_loadCells_list w b cs (hc b rfl)
      · have := push_bytes l ByteArray.empty
        have e1 : b2s l = ((l.foldl (fun r n => r.push (UInt8.ofNat n.toNat)) ByteArray.empty).data.toList.map fun b => (b.toNat : Int)) := by
          exact (this.trans (List.nil_append _)).symm
        rw [e1]
        exact AVOk.mk_str _
  · cases hz

/-- A call of a builtin function. -/
theorem run_blt {o : Oper} {c : Call} {b : Builtin} (ho : o.op = .call c) (hb : c.callee = .builtin b) :
    ∃ cs, (execOp a.eval o).run P w = (builtin b c.argTypes o.type cs (c.args.map a.eval)).run P w := by
  exact ⟨_, by simp [execOp, ho, resolve, hb, invoke]; rfl⟩

theorem eval_args {c : Call} : (c.args.map a.eval).toList = c.args.toList.map a.eval := by simp

theorem does_len {o : Oper} {c : Call} {d : Nat} {cx : Cx} {q : Bool} {K : AE → Rs ρ} {z : ρ} (hcx : CxTy P cx) (ho : o.op = .call c) (hb : c.callee = .builtin .len) (hd : o.dst = some d)
    (h : Rel B Γ N (tmOf a) w σ) (hN : a.tmps.size = N) (hf : fits N o = true) (hz : aop cx q o Γ K = some z) : Does P B N o a w K z := by
  obtain ⟨cs, hrun⟩ := run_blt (P := P) (a := a) (w := w) ho hb
  have hops := fits_op hf
  have hl : ∃ x, c.args.toList = [x] := by
    cases hl : c.args.toList with
    | nil => simp only [aop, ho, hd, hb, hl, List.map_nil, AE.blt] at hz; cases hz
    | cons x l =>
      cases l with
      | nil => exact ⟨x, rfl⟩
      | cons y l => simp only [aop, ho, hd, hb, hl, List.map_cons, AE.blt] at hz; cases hz
  obtain ⟨x, hx⟩ := hl
  have hargs : c.args = #[x] := by rw [← Array.toList_inj]; simpa using hx
  have hxo : opdOk N x = true := hops x (by simp [ho, Op.operands, hb, hargs, Call.operands])
  simp only [aop, ho, hd, hb, hx, List.map_cons, List.map_nil, AE.blt] at hz
  cases ht : c.argTypes.toList.head? with
    | none =>
      rw [ht] at hz
      simp only [Option.bind_none] at hz
      unfold AE.lenK at hz
      split at hz <;> first | (rename_i h1 _; cases h1; done) | (rename_i h1; cases h1; done) | (cases hz; done)
    | some t =>
      rw [ht] at hz
      simp only [Option.bind_some] at hz
      obtain ⟨n, hz, hn⟩ := lenK_some hcx h hxo hz o.type
      have ht0 : c.argTypes[0]? = some t := by
        rw [← Array.getElem?_toList]
        cases hl : c.argTypes.toList with
        | nil => rw [hl] at ht; cases ht
        | cons y l => rw [hl] at ht; simpa using ht
      refine Does.set hd hN (hrun.trans ?_) h (AVOk.mk_int _) hz
      have hsame : Builtin.len_ c.argTypes o.type #[a.eval x] = Builtin.len_ #[t] o.type #[a.eval x] := by
        simp [Builtin.len_, ht0]
      simp [builtin, hargs, hsame, hn]

theorem call_opds {o : Oper} {c : Call} {b : Builtin} (ho : o.op = .call c) (hb : c.callee = .builtin b) (hf : fits N o = true) : ∀ y ∈ c.args.toList, opdOk N y = true := fun y hy =>
  fits_op hf y (by simp only [ho, Op.operands, Call.operands, hb]; simpa using hy)

theorem does_max {o : Oper} {c : Call} {d : Nat} {cx : Cx} {q : Bool} {K : AE → Rs ρ} {z : ρ} (ho : o.op = .call c) (hb : c.callee = .builtin .max) (hd : o.dst = some d)
    (h : Rel B Γ N (tmOf a) w σ) (hN : a.tmps.size = N) (hf : fits N o = true) (hz : aop cx q o Γ K = some z) : Does P B N o a w K z := by
  obtain ⟨cs, hrun⟩ := run_blt (P := P) (a := a) (w := w) ho hb
  have hops := call_opds ho hb hf
  cases hl : c.args.toList with
  | nil => simp only [aop, ho, hd, hb, hl, List.map_nil, AE.blt] at hz; cases hz
  | cons x l =>
    simp only [aop, ho, hd, hb, hl, List.map_cons, AE.blt] at hz
    split at hz
    all_goals first | (rename_i h1; cases h1; done) | (rename_i h1 _; cases h1; done) | (cases hz; done) | skip
    · rename_i k n r h1 h2
      have hx := h.opd (hops x (by rw [hl]; simp))
      obtain ⟨e1, rfl⟩ := List.cons.inj h2
      rw [e1] at hx
      obtain ⟨r, hz, hr⟩ := mins_some (P := P) (f := imax) (g := Builtin.max2) (k := k) (fun x y w => by simp [Builtin.max2, imax]) l n h (fun y hy => hops y (by rw [hl]; simp [hy])) hz
      refine Does.set hd hN (hrun.trans ?_) h (AVOk.mk_int _) hz
      have hm : (c.args.map a.eval).toList = a.eval x :: l.map a.eval := by rw [Array.toList_map, hl]; rfl
      simp only [builtin, Builtin.max_, hm, AVOk.int hx, Sem.run_bind]
      erw [hr]; rfl

theorem does_min {o : Oper} {c : Call} {d : Nat} {cx : Cx} {q : Bool} {K : AE → Rs ρ} {z : ρ} (ho : o.op = .call c) (hb : c.callee = .builtin .min) (hd : o.dst = some d)
    (h : Rel B Γ N (tmOf a) w σ) (hN : a.tmps.size = N) (hf : fits N o = true) (hz : aop cx q o Γ K = some z) : Does P B N o a w K z := by
  obtain ⟨cs, hrun⟩ := run_blt (P := P) (a := a) (w := w) ho hb
  have hops := call_opds ho hb hf
  cases hl : c.args.toList with
  | nil => simp only [aop, ho, hd, hb, hl, List.map_nil, AE.blt] at hz; cases hz
  | cons x l =>
    simp only [aop, ho, hd, hb, hl, List.map_cons, AE.blt] at hz
    split at hz
    all_goals first | (rename_i h1; cases h1; done) | (rename_i h1 _; cases h1; done) | (cases hz; done) | skip
    · rename_i k n r h1 h2
      have hx := h.opd (hops x (by rw [hl]; simp))
      obtain ⟨e1, rfl⟩ := List.cons.inj h2
      rw [e1] at hx
      obtain ⟨r, hz, hr⟩ := mins_some (P := P) (f := imin) (g := Builtin.min2) (k := k) (fun x y w => by simp [Builtin.min2, imin]) l n h (fun y hy => hops y (by rw [hl]; simp [hy])) hz
      refine Does.set hd hN (hrun.trans ?_) h (AVOk.mk_int _) hz
      have hm : (c.args.map a.eval).toList = a.eval x :: l.map a.eval := by rw [Array.toList_map, hl]; rfl
      simp only [builtin, Builtin.min_, hm, AVOk.int hx, Sem.run_bind]
      erw [hr]; rfl

end
end Go.Ab

/- An append on the machine; an owned slice's block. Conditions: as each lemma states. -/
namespace Go.Ab

/-- A place's block is not among those that the place owns. -/
theorem loc_apart {m : Mem} : ∀ (p : Path) (t : Ty) (s : Src) {x O R t' b o y O' R'}, dec m t (s.rd m) = some (x, O, R) → loc m t s p = some (t', .at b o) → dec m t' ((Src.at b o).rd m) = some (y, O', R') →
    (O.map (·.1)).Nodup → (∀ c ∈ O.map (·.1), s.avoids c) → b ∉ O'.map (·.1)
  | [], t, s, x, O, R, t', b, o, y, O', R', h, hl, hy, hn, hs => by
    simp only [loc, locQ, Option.some.injEq, Prod.mk.injEq] at hl
    obtain ⟨rfl, rfl⟩ := hl
    rw [h] at hy
    simp only [Option.some.injEq, Prod.mk.injEq] at hy
    obtain ⟨-, rfl, -⟩ := hy
    exact fun hb => hs b hb rfl
  | .fst :: p, t, s, x, O, R, t', b, o, y, O', R', h, hl, hy, hn, hs => by
    obtain ⟨a, b', bl, so, rfl, rfl, hl⟩ := loc_fst hl
    obtain ⟨x1, o1, r1, x2, o2, r2, h1, h2, rfl, rfl, rfl⟩ := dec_pair h
    simp only [List.map_append] at hn hs
    exact loc_apart p a (.at bl so) h1 hl hy (List.nodup_append.1 hn).1 (fun c hc => hs c (List.mem_append_left _ hc))
  | .snd :: p, t, s, x, O, R, t', b, o, y, O', R', h, hl, hy, hn, hs => by
    obtain ⟨a, b', bl, so, rfl, rfl, hl⟩ := loc_snd hl
    obtain ⟨x1, o1, r1, x2, o2, r2, h1, h2, rfl, rfl, rfl⟩ := dec_pair h
    rw [rd_at] at h2
    simp only [List.map_append] at hn hs
    exact loc_apart p b' (.at bl (so + a.cells)) h2 hl hy (List.nodup_append.1 hn).2.1 (fun c hc => hs c (List.mem_append_right _ hc))
  | .idx i :: p, t, s, x, O, R, t', b, o, y, O', R', h, hl, hy, hn, hs => by
    rcases loc_idx hl with ⟨n, t1, bl, so, rfl, rfl, hi, hl⟩ | ⟨t1, a, n, c, rfl, hv', hi, hl⟩
    · simp only [dec, rd_at] at h
      obtain ⟨y0, o0, r0, A0, B0, A0', B0', hf, -, rfl, rfl⟩ := collect_at n 0 i h hi
      simp only [Nat.zero_add] at hf
      simp only [List.map_append] at hn hs
      exact loc_apart p t1 _ hf hl hy (List.nodup_append.1 (List.nodup_append.1 hn).2.1).1 (fun c hc => hs c (List.mem_append_right _ (List.mem_append_left _ hc)))
    · rcases dec_own h with ⟨hv, -⟩ | ⟨a', n', c', os, hv, ha, hn', hx, ho⟩
      · rw [hv] at hv'; cases hv'
      · rw [hv] at hv'
        simp only [Option.some.injEq, Value.slice.injEq] at hv'
        obtain ⟨rfl, rfl, rfl⟩ := hv'
        obtain ⟨y0, o0, r0, A0, B0, A0', B0', hf, -, rfl, rfl⟩ := collect_at n' 0 i hx hi
        simp only [Nat.zero_add] at hf
        rcases ho with ⟨hc, -⟩ | ⟨-, rfl⟩
        · omega
        · simp only [List.map_append, List.map_cons, List.nodup_cons] at hn hs
          exact loc_apart p t1 _ hf hl hy (List.nodup_append.1 (List.nodup_append.1 hn.2).2.1).1 (fun c hc => by
            rintro rfl
            exact hn.1 (List.mem_append_right _ (List.mem_append_left _ hc)))

section
variable {P : Program} {B : Base} {N : Nat} {ρ : Type} {Γ : AE} {a : Act} {w : World} {σ : Gh}

/-- An owned slice: its header, where it lies, what it owns. -/
theorem Rel.own {tm} (h : Rel B Γ N tm w σ) {n p v r} {e : Ty} {l : List e.den} (ha : AVOk (memo w σ.ov) σ.g Γ.rt (Shr B w σ) (.sref n p) v) (hr : Γ.rt n = some r) (hg : getP r.t r.x p = ⟨.list true e, l⟩) :
    ∃ s O' R', loc (memo w σ.ov) r.t (σ.g n) p = some (.list true e, s) ∧ s.rd (memo w σ.ov) 0 = some v ∧ dec (memo w σ.ov) (.list true e) (s.rd (memo w σ.ov)) = some (l, O', R') ∧
      dec (memo w σ.ov) (.list true e) ((Src.one v).rd (memo w σ.ov)) = some (l, O', R') ∧ (∀ c ∈ R', Shr B w σ c) ∧ (∀ q ∈ O', q ∈ σ.ow n) ∧ (O'.map (·.1)).Nodup ∧ (∀ b o, s = .at b o → b ∉ O'.map (·.1)) := by
  obtain ⟨r', e', s, h1, h2, h3⟩ := ha
  rw [hr] at h1
  simp only [Option.some.injEq] at h1
  subst h1
  obtain ⟨O1, R1, k1, k2, k3, k4, k5, k6⟩ := h.sep hr
  obtain ⟨y, O', R', A, B', A', B'', g1, g2, g3, g4⟩ := dec_loc p r.t _ k1 h2
  rw [hg] at g2
  have hE : e = e' := by have := congrArg Sigma.fst g2; simpa using this
  subst hE
  have g2 := eq_of_heq (Sigma.mk.inj g2).2
  subst g2
  have hsub : ∀ q ∈ O', q ∈ O1 := fun q hq => by rw [g3]; exact List.mem_append_right _ (List.mem_append_left _ hq)
  refine ⟨s, O', R', h2, h3, g1, dec_frame _ g1 (fun j hj => ?_) (fun _ _ _ => rfl), fun c hc => k2 c (by rw [g4]; simp [hc]), fun q hq => ?_, ?_, fun b o hs => ?_⟩
  · have hj0 : j = 0 := by simp only [Ty.cells] at hj; omega
    subst hj0
    rw [h3]; rfl
  · rcases k6 with ⟨-, b, -, hO⟩ | ⟨-, -, -, hO⟩
    · rw [hO]; exact List.mem_cons_of_mem _ (hsub q hq)
    · rw [hO]; exact hsub q hq
  · have := k3.nodup
    rw [g3] at this
    simp only [List.map_append] at this
    exact (List.nodup_append.1 (List.nodup_append.1 this).2.1).1
  · subst hs
    exact loc_apart p r.t _ k1 h2 g1 k3.nodup k3.src

/-- Two rows of elements, one behind the other. -/
theorem rows_append {m : Mem} {e : Ty} {l1 l2 : List e.den} {cs1 cs2 rest : List Value} {n1 n2 : Nat} {R1 R2} (h1 : collect (fun i => dec m e fun j => cs1[i * e.cells + j]?) n1 0 = some (l1, [], R1)) (hl1 : cs1.length = n1 * e.cells)
    (h2 : collect (fun i => dec m e fun j => cs2[i * e.cells + j]?) n2 0 = some (l2, [], R2)) (hl2 : cs2.length = n2 * e.cells) :
    collect (fun i => dec m e fun j => (cs1 ++ (cs2 ++ rest))[i * e.cells + j]?) (n1 + n2) 0 = some (List.append l1 l2, [], R1 ++ R2) := by
  have a1 : collect (fun i => dec m e fun j => (cs1 ++ (cs2 ++ rest))[i * e.cells + j]?) n1 0 = some (l1, [], R1) := by
    refine dec_frame (.arr n1 e) (show dec m (.arr n1 e) (fun j => cs1[j]?) = _ from h1) (rd' := fun j => (cs1 ++ (cs2 ++ rest))[j]?) (fun j hj => ?_) (fun _ _ _ => rfl)
    exact List.getElem?_append_left (by rw [hl1]; exact hj)
  have a2 : collect (fun i => dec m e fun j => (cs1 ++ (cs2 ++ rest))[i * e.cells + j]?) n2 n1 = some (l2, [], R2) := by
    have hs : ∀ (k i : Nat), i + k ≤ n2 → collect (fun i => dec m e fun j => (cs1 ++ (cs2 ++ rest))[i * e.cells + j]?) k (n1 + i) = collect (fun i => dec m e fun j => (cs2 ++ rest)[i * e.cells + j]?) k i := by
      intro k
      induction k with
      | zero => intro i _; rfl
      | succ k ih =>
        intro i hi
        have hf : (fun j => (cs1 ++ (cs2 ++ rest))[(n1 + i) * e.cells + j]?) = fun j => (cs2 ++ rest)[i * e.cells + j]? := by
          funext j
          rw [List.getElem?_append_right (by rw [hl1, Nat.add_mul]; omega), hl1, Nat.add_mul]
          congr 1
          omega
        simp only [collect]
        rw [show n1 + i + 1 = n1 + (i + 1) from by omega, ih (i + 1) (by omega), hf]
    have := hs n2 0 (by omega)
    rw [Nat.add_zero] at this
    rw [this]
    refine dec_frame (.arr n2 e) (show dec m (.arr n2 e) (fun j => cs2[j]?) = _ from h2) (rd' := fun j => (cs2 ++ rest)[j]?) (fun j hj => ?_) (fun _ _ _ => rfl)
    exact List.getElem?_append_left (by rw [hl2]; exact hj)
  have := collect_append n1 n2 0 a1 (by rw [Nat.zero_add]; exact a2)
  simpa using this

theorem notInt_some {cx : Cx} {ts : Array TypeId} (hcx : CxTy P cx) (h : notInt cx ts.toList = true) : ts[1]? = none ∨ ∃ t2, ts[1]? = some t2 ∧ (P.underlying t2 = some .string ∨ ∃ e, P.underlying t2 = some (.slice e)) := by
  rw [← Array.getElem?_toList]
  unfold notInt at h
  split at h
  · rename_i hl; rw [hl]; exact .inl rfl
  · rename_i t2 _ hl
    rw [hl]
    refine .inr ⟨t2, rfl, ?_⟩
    split at h
    · rename_i hT
      obtain ⟨e, he, -⟩ := tyOk_elem (hcx.T _ _ hT).2
      exact .inr ⟨e, he⟩
    · rename_i hT
      exact .inl (tyOk_str (hcx.T _ _ hT).2)
    · cases h
  · cases h

theorem run_append_fits {w2 : World} {t t' ty : TypeId} {ts : Array TypeId} {x : Value} {e : Ty} (I : Info P e t') (h0 : ts[0]? = some t) (hu : P.underlying t = some (.slice t'))
    (h1 : ts[1]? = none ∨ ∃ t2, ts[1]? = some t2 ∧ (P.underlying t2 = some .string ∨ ∃ e, P.underlying t2 = some (.slice e)))
    {A : Option Addr} {n c k : Nat} {new : List Value} (hlen : (Builtin.lenOf x).run P w = .ok k w) (hnew : (Builtin.firstCells e.cells k x).run P w = .ok new.toArray w) (hfit : n + k ≤ c)
    (hst : ∀ b, A = some b → (storeCells (b.add (n * e.cells)) new).run P w = .ok () w2) (hno : A = none → w2 = w) :
    (Builtin.append_ ts ty #[.slice A n c, x]).run P w = .ok (.slice A (n + k) c) w2 := by
  have key : ∀ A, (A = none → w2 = w) → (∀ b, A = some b → (storeCells (b.add (n * e.cells)) new).run P w = .ok () w2) → (Builtin.append_ ts ty #[.slice A n c, x]).run P w = .ok (.slice A (n + k) c) w2 := by
    intro A hno hst
    cases A with
    | none =>
      have := hno rfl
      subst this
      rcases h1 with h1 | ⟨t2, h1, h2 | ⟨e2, h2⟩⟩
      · simp [Builtin.append_, h0, h1, run_underlying hu, I.sizeOf, hlen, hfit, hnew]
      · simp [Builtin.append_, h0, h1, run_underlying hu, run_underlying h2, I.sizeOf, hlen, hfit, hnew]
      · simp [Builtin.append_, h0, h1, run_underlying hu, run_underlying h2, I.sizeOf, hlen, hfit, hnew]
    | some b =>
      have hs := hst b rfl
      rcases h1 with h1 | ⟨t2, h1, h2 | ⟨e2, h2⟩⟩
      · simp [Builtin.append_, h0, h1, run_underlying hu, I.sizeOf, hlen, hfit, hnew, hs]
      · simp [Builtin.append_, h0, h1, run_underlying hu, run_underlying h2, I.sizeOf, hlen, hfit, hnew, hs]
      · simp [Builtin.append_, h0, h1, run_underlying hu, run_underlying h2, I.sizeOf, hlen, hfit, hnew, hs]
  exact key A hno hst

theorem run_append_grown {t t' ty : TypeId} {ts : Array TypeId} {x : Value} {e : Ty} (I : Info P e t') (h0 : ts[0]? = some t) (hu : P.underlying t = some (.slice t'))
    (h1 : ts[1]? = none ∨ ∃ t2, ts[1]? = some t2 ∧ (P.underlying t2 = some .string ∨ ∃ e, P.underlying t2 = some (.slice e)))
    {A : Option Addr} {n c k : Nat} {old new : List Value} (hlen : (Builtin.lenOf x).run P w = .ok k w) (hnew : (Builtin.firstCells e.cells k x).run P w.drew = .ok new.toArray w.drew)
    (hold : (Builtin.firstCells e.cells n (.slice A n c)).run P w.drew = .ok old.toArray w.drew) (hg : c < n + k) (hlim : n + k < 2147483648) :
    (Builtin.append_ ts ty #[.slice A n c, x]).run P w = .ok (.slice (some ⟨w.heap.size, 0, none⟩) (n + k) (grownCap w (n + k) c t'))
      (w.drew.alloc (.cells (old ++ (new ++ (Builtin.zeroCells I.z.cells (grownCap w (n + k) c t' - (n + k))).toList)).toArray t')) := by
  have hn : ¬ (n + k ≤ c) := by omega
  have hfits : Builtin.nextslicecap (n + k) c * I.i.bytes ≤ 281474976710656 := growslice_fits hg (by
    have := Nat.mul_le_mul (Nat.le_of_lt hlim) I.bytes
    exact Nat.le_trans this (by decide))
  have h48 : ¬ (281474976710656 < Builtin.nextslicecap (n + k) c * I.i.bytes) := by omega
  have h63 : ¬ (9223372036854775807 < ((n : Int) + (k : Int))) := by omega
  have fin : ∀ X Y : Array Value, X.toList = Y.toList → w.drew.alloc (Obj.cells X t') = w.drew.alloc (Obj.cells Y t') := fun X Y e => by rw [Array.ext' e]
  rcases h1 with h1 | ⟨t2, h1, h2 | ⟨e2, h2⟩⟩
  · simp [Builtin.append_, h0, h1, run_underlying hu, I.sizeOf, I.typeInfo, I.zeroValue, hlen, hn, hnew, hold, h48, h63, Question.forced, newRow, grownCap]
    exact fin _ _ (by simp)
  · simp [Builtin.append_, h0, h1, run_underlying hu, run_underlying h2, I.sizeOf, I.typeInfo, I.zeroValue, hlen, hn, hnew, hold, h48, h63, Question.forced, newRow, grownCap]
    exact fin _ _ (by simp)
  · simp [Builtin.append_, h0, h1, run_underlying hu, run_underlying h2, I.sizeOf, I.typeInfo, I.zeroValue, hlen, hn, hnew, hold, h48, h63, Question.forced, newRow, grownCap]
    exact fin _ _ (by simp)

end
end Go.Ab

/- An append, abstractly. Conditions: as each lemma states. -/
namespace Go.Ab

/-- An owned slice of pure elements: its header, its cells. -/
theorem own_hdr {m : Mem} {e : Ty} (he : e.sh = e) {v : Value} {l : List e.den} {O R} (h : dec m (.list true e) ((Src.one v).rd m) = some (l, O, R)) :
    (v = .slice none 0 0 ∧ l = [] ∧ O = [] ∧ R = []) ∨ ∃ b n c, ∃ cs : List Value, v = .slice (some b) n c ∧ b.spot = none ∧ n ≤ c ∧ n = l.length ∧ O = (if c = 0 then [] else [(b.block, b.off + c * e.cells)]) ∧
      cs.length = n * e.cells ∧ (∀ j u, cs[j]? = some u → m b.block (b.off + j) = some u) ∧ (∀ u ∈ cs, single u = true) ∧ collect (fun i => dec m e fun j => cs[i * e.cells + j]?) n 0 = some (l, [], R) := by
  rcases dec_own h with ⟨hv, h2, h3, h4⟩ | ⟨b, n, c, os, hv, hb, hn, hx, ho⟩
  · simp only [Src.rd, if_true, Option.some.injEq] at hv
    exact .inl ⟨hv, h2, h3, h4⟩
  · simp only [Src.rd, if_true, Option.some.injEq] at hv
    have hx' : collect (fun i => dec m e fun j => m b.block (b.off + (i * e.cells + j))) n 0 = some (l, os, R) := by simp only [rd_el]; exact hx
    have hos : os = [] := by
      have h1 : dec m (.arr n e) (fun j => m b.block (b.off + j)) = some (l, os, R) := hx'
      exact dec_pure (by simp only [Ty.sh, he]) h1
    subst hos
    obtain ⟨cs, k1, k2, k3, k4⟩ := row_cells hx'
    refine .inr ⟨b, n, c, cs, hv, hb, hn, (collect_length n 0 hx).symm, ?_, k1, k2, k3, k4⟩
    rcases ho with ⟨hc, ho⟩ | ⟨hc, ho⟩
    · rw [if_pos hc, ho]
    · rw [if_neg hc, ho]

theorem hdr_dec {m m0 : Mem} {e : Ty} {b : Addr} {n c : Nat} {cs : List Value} {l : List e.den} {R} (hb : b.spot = none) (hnc : n ≤ c) (hlen : n * e.cells ≤ cs.length) (hm : ∀ j u, j < n * e.cells → cs[j]? = some u → m b.block (b.off + j) = some u)
    (hc : collect (fun i => dec m0 e fun j => cs[i * e.cells + j]?) n 0 = some (l, [], R)) (hR : ∀ c ∈ R, ∀ j, m c j = m0 c j) :
    dec m (.list true e) ((Src.one (.slice (some b) n c)).rd m) = some (l, if c = 0 then [] else [(b.block, b.off + c * e.cells)], R) := by
  have h1 : dec m (.arr n e) (fun j => m b.block (b.off + j)) = some (l, [], R) := dec_frame (.arr n e) (show dec m0 (.arr n e) (fun j => cs[j]?) = _ from hc) (fun j hj => by
    have hj : j < n * e.cells := hj
    have hj' : j < cs.length := by omega
    rw [hm j cs[j] hj (List.getElem?_eq_getElem hj'), List.getElem?_eq_getElem hj']) (fun c j hb => by
    rcases hb with hb | hb
    · simp at hb
    · exact hR c hb j)
  have h1 : collect (fun i => dec m e fun j => m b.block (b.off + (i * e.cells + j))) n 0 = some (l, [], R) := h1
  show decL m true e.cells (dec m e) (some (.slice (some b) n c)) = _
  simp only [decL]
  rw [if_pos ⟨hb, hnc⟩, h1]
  simp only [if_true]
  split <;> rfl

theorem loc_at {m : Mem} : ∀ (p : Path) (t : Ty) (s : Src) {t' s'}, loc m t s p = some (t', s') → p ≠ [] → ∃ b o, s' = .at b o
  | [], _, _, _, _, _, hp => absurd rfl hp
  | .fst :: p, t, s, t', s', hl, _ => by
    obtain ⟨a, b', bl, so, rfl, rfl, hl⟩ := loc_fst hl
    cases p with
    | nil => simp only [loc, locQ, Option.some.injEq, Prod.mk.injEq] at hl; exact ⟨_, _, hl.2.symm⟩
    | cons x p => exact loc_at (x :: p) _ _ hl (by simp)
  | .snd :: p, t, s, t', s', hl, _ => by
    obtain ⟨a, b', bl, so, rfl, rfl, hl⟩ := loc_snd hl
    cases p with
    | nil => simp only [loc, locQ, Option.some.injEq, Prod.mk.injEq] at hl; exact ⟨_, _, hl.2.symm⟩
    | cons x p => exact loc_at (x :: p) _ _ hl (by simp)
  | .idx i :: p, t, s, t', s', hl, _ => by
    rcases loc_idx hl with ⟨n, t1, bl, so, rfl, rfl, hi, hl⟩ | ⟨t1, a, n, c, rfl, hv', hi, hl⟩
    · cases p with
      | nil => simp only [loc, locQ, Option.some.injEq, Prod.mk.injEq] at hl; exact ⟨_, _, hl.2.symm⟩
      | cons x p => exact loc_at (x :: p) _ _ hl (by simp)
    · cases p with
      | nil => simp only [loc, locQ, Option.some.injEq, Prod.mk.injEq] at hl; exact ⟨_, _, hl.2.symm⟩
      | cons x p => exact loc_at (x :: p) _ _ hl (by simp)

theorem setRt_self {Γ : AE} {n : Nat} (r : Option Root) : (Γ.setRt n r).rt n = r := by simp [AE.setRt]

section
variable {P : Program} {B : Base} {N : Nat} {ρ : Type} {Γ : AE} {a : Act} {w : World} {σ : Gh}

/-- What is known of the elements that are appended. -/
structure News (P : Program) (w : World) (m : Mem) (Sh : Nat → Prop) (e : Ty) (ys : List e.den) (x : Value) where
  cs : List Value
  len : (Builtin.lenOf x).run P w = .ok ys.length w
  size : cs.length = ys.length * e.cells
  one : ∀ u ∈ cs, single u = true
  R : List Nat
  rd : collect (fun i => dec m e fun j => cs[i * e.cells + j]?) ys.length 0 = some (ys, [], R)
  shr : ∀ c ∈ R, Sh c
  run : (Builtin.firstCells e.cells ys.length x).run P w = .ok cs.toArray w
  drew : (Builtin.firstCells e.cells ys.length x).run P w.drew = .ok cs.toArray w.drew

/-- A slice that lies at a place takes another header, and what its blocks hold turns. -/
theorem Rel.turn {d : Nat} {K : AE → Rs ρ} {z : ρ} {n : Nat} {p : Path} {r : Root} {e : Ty} {l l' : List e.den} {v v' : Value} {w2 : World} {s O' R' O2 R2} (h : Rel B Γ N (tmOf a) w σ) (hN : a.tmps.size = N) (hr : Γ.look n = some r)
    (hl : loc (memo w σ.ov) r.t (σ.g n) p = some (.list true e, s)) (hg : getP r.t r.x p = ⟨.list true e, l⟩) (hv : s.rd (memo w σ.ov) 0 = some v)
    (hd : dec (memo w σ.ov) (.list true e) (s.rd (memo w σ.ov)) = some (l, O', R')) (hsub : ∀ q ∈ O', q ∈ σ.ow n) (hap : ∀ b o, s = .at b o → b ∉ O'.map (·.1))
    (hd2 : dec (memo w2 none) (.list true e) ((Src.one v').rd (memo w2 none)) = some (l', O2, R2))
    (hmem : ∀ c j, memo w2 none c j = memo w none c j ∨ c ∈ O'.map (·.1) ∨ w.heap.size ≤ c)
    (hO2 : ∀ c ∈ O2.map (·.1), c ∈ O'.map (·.1) ∨ w.heap.size ≤ c) (hn2 : (O2.map (·.1)).Nodup) (hlive : ∀ p ∈ O2, Free w2 p.1 p.2) (hfree : ∀ c k, Free w c k → Owned σ c → Free w2 c k)
    (hsz : w.heap.size ≤ w2.heap.size) (hfr : ∀ b, b < B.size → ¬ B.F b → w2.heap[b]? = B.hp b) (hR2 : ∀ c ∈ R2, Shr B w σ c)
    (hz : (let Γ' := ((Γ.mapv (AV.kill n p)).setRt n (some ⟨r.bx, r.t, setP r.t r.x p (.list true e) l'⟩)).set d (.sref n p)
      match p, r.bx with
      | [], false => K Γ'
      | p, _ => match Γ.pd with
        | none => K { Γ' with pd := some (n, p, d) }
        | some _ => none) = some z) (hio : ioOf w2 = ioOf w := by first | rfl | assumption) :
    ∃ Γ' σ', Rel B Γ' N (tmOf (a.put (some d) v')) w2 σ' ∧ K Γ' = some z := by
  obtain ⟨hpd, hr⟩ := look_some hr
  have hov := h.ov_none hpd
  have hR2' : ∀ c ∈ R2, c < w2.heap.size ∧ (B.S c ∨ B.F c ∨ B.size ≤ c) ∧ ¬ Owned σ c ∧ c ∉ O2.map (·.1) := fun c hc => by
    have hs := hR2 c hc
    refine ⟨Nat.lt_of_lt_of_le hs.1 hsz, hs.2.1, hs.2.2, fun g => ?_⟩
    rcases hO2 c g with g | g
    · obtain ⟨q, hq, rfl⟩ := List.mem_map.1 g
      exact hs.2.2 ⟨n, List.mem_map_of_mem (hsub q hq)⟩
    · have := hs.1; omega
  have top : p = [] → r.bx = false → ∃ Γ' σ', Rel B Γ' N (tmOf (a.put (some d) v')) w2 σ' ∧ K Γ' = some z := by
    intro hp hbx
    subst hp
    obtain ⟨bx, t, x⟩ := r
    simp only at hbx
    subst hbx
    simp only [getP, getQ] at hg
    cases hg
    have hz : K (((Γ.mapv (AV.kill n [])).setRt n (some ⟨false, .list true e, setP (.list true e) l [] (.list true e) l'⟩)).set d (.sref n [])) = some z := hz
    have hset : setP (.list true e) l [] (.list true e) l' = l' := setP_nil _ _ _
    replace hz : K (((Γ.mapv (AV.kill n [])).setRt n (some ⟨false, .list true e, l'⟩)).set d (.sref n [])) = some z := by
      have key : ∀ q, q = l' → K (((Γ.mapv (AV.kill n [])).setRt n (some ⟨false, .list true e, q⟩)).set d (.sref n [])) = some z → K (((Γ.mapv (AV.kill n [])).setRt n (some ⟨false, .list true e, l'⟩)).set d (.sref n [])) = some z := by
        rintro q rfl h; exact h
      exact key _ hset hz
    have hrel := h.top hr (by simp [hpd]) (w' := w2) (v' := v') (l' := l') (by rw [hov]; exact hd2) (fun c j hc hn => by
        rw [hov]
        rcases hmem c j with g | g | g
        · exact g
        · obtain ⟨q, hq, rfl⟩ := List.mem_map.1 g
          exact absurd (List.mem_map_of_mem (hsub q hq)) hn
        · omega) (fun c hc => (hO2 c hc).imp (fun g => by
          obtain ⟨q, hq, rfl⟩ := List.mem_map.1 g
          exact List.mem_map_of_mem (hsub q hq)) id) hn2 hlive hfree hsz hfr hR2' (f := AV.kill n []) (fun av => by
        cases av with
        | ptr m q =>
          simp only [AV.kill]
          by_cases hm : m = n
          · subst hm
            cases q with
            | nil => exact .inr ⟨by simp, fun k q h1 h2 => rfl⟩
            | cons => left; simp [below]
          · right
            have hmn : (m == n) = false := by simpa using hm
            refine ⟨by simp [hmn], fun k q h1 h2 => ?_⟩
            rcases h1 with h1 | h1 | ⟨_, _, h1⟩ <;> cases h1
            exact absurd h2 hm
        | sref m q =>
          simp only [AV.kill]
          by_cases hm : m = n
          · left; simp [hm, below]
          · right
            have hmn : (m == n) = false := by simpa using hm
            refine ⟨by simp [hmn], fun k q h1 h2 => ?_⟩
            rcases h1 with h1 | h1 | ⟨_, _, h1⟩ <;> cases h1
            exact absurd h2 hm
        | swin m q o k =>
          simp only [AV.kill]
          by_cases hm : m = n
          · left; simp [hm, below]
          · right
            have hmn : (m == n) = false := by simpa using hm
            refine ⟨by simp [hmn], fun k q h1 h2 => ?_⟩
            rcases h1 with h1 | h1 | ⟨_, _, h1⟩ <;> cases h1
            exact absurd h2 hm
        | _ => exact .inr ⟨rfl, fun k q h1 _ => by rcases h1 with h1 | h1 | ⟨_, _, h1⟩ <;> cases h1⟩)
    refine ⟨_, _, hrel.putd (sv := .one (.sref n [])) (v := v') hN (fun _ => ⟨⟨false, .list true e, l'⟩, e, .one v', setRt_self _, ?_, rfl⟩), hz⟩
    show some (_, if n = n then Src.one v' else _) = _
    rw [if_pos rfl]
  have pnd : (∃ b o, s = .at b o) → K { (((Γ.mapv (AV.kill n p)).setRt n (some ⟨r.bx, r.t, setP r.t r.x p (.list true e) l'⟩)).set d (.sref n p)) with pd := some (n, p, d) } = some z →
      ∃ Γ' σ', Rel B Γ' N (tmOf (a.put (some d) v')) w2 σ' ∧ K Γ' = some z := by
    rintro ⟨b, o, rfl⟩ hz
    have hb := h.place hr hl
    have hbo : Owned σ b := ⟨n, hb⟩
    have hblt := h.lt hbo
    have hbO2 : b ∉ O2.map (·.1) := fun g => by
      rcases hO2 b g with g | g
      · exact hap b o rfl g
      · omega
    have hbR2 : b ∉ R2 := fun g => (hR2 b g).2.2 hbo
    have hm2 : ∀ c j, c ≠ b → memo w2 (some (b, o, v')) c j = memo w2 none c j := fun c j hc => by
      simp only [memo]
      rw [if_neg (fun g => hc g.1)]
    have hd3 : dec (memo w2 (some (b, o, v'))) (.list true e) ((Src.at b o).rd (memo w2 (some (b, o, v')))) = some (l', O2, R2) := dec_frame _ hd2 (fun j hj => by
      have hj0 : j = 0 := by simp only [Ty.cells] at hj; omega
      subst hj0
      simp [Src.rd, memo]) (fun c j hc => hm2 c j fun e => by
        subst e
        rcases hc with hc | hc
        · exact hbO2 hc
        · exact hbR2 hc)
    obtain ⟨ow', how, hrel⟩ := h.chg hr hl hd (w' := w2) (ov' := some (b, o, v')) (pd' := some (n, p, d)) (.new d v' e hpd rfl) hd3 (fun c j => by
        by_cases hc : c = b ∧ j = o
        · exact .inr (.inl ⟨hc.1, by omega, by simp only [Ty.cells]; omega⟩)
        · have e1 : memo w2 (some (b, o, v')) c j = memo w2 none c j := by
            simp only [memo]
            rw [if_neg (fun g => hc ⟨g.1, g.2⟩)]
          rw [e1, hov]
          rcases hmem c j with g | g | g
          · exact .inl g
          · exact .inr (.inr (.inl g))
          · exact .inr (.inr (.inr g))) hO2 hn2 hlive hfree hsz hfr hR2' (f := AV.kill n p) (fun av => kill_keeps n p _ av)
    obtain ⟨r'', e'', h1, h2⟩ := hrel.pend
    exact ⟨_, _, hrel.putd (sv := .one (.sref n p)) (v := v') hN (fun _ => ⟨r'', e'', .at b o, h1, h2, by simp [Src.rd, memo]⟩), hz⟩
  cases p with
  | nil =>
    cases hb : r.bx with
    | false =>
      exact top rfl hb
    | true =>
      have hz2 : (match Γ.pd with
        | none => K { (((Γ.mapv (AV.kill n [])).setRt n (some ⟨r.bx, r.t, setP r.t r.x [] (.list true e) l'⟩)).set d (.sref n [])) with pd := some (n, [], d) }
        | some _ => none) = some z := by
        revert hz
        cases r
        simp only at hb
        subst hb
        exact id
      rw [hpd] at hz2
      refine pnd ?_ hz2
      simp only [loc, locQ, Option.some.injEq, Prod.mk.injEq] at hl
      obtain ⟨O'', R'', -, -, -, -, -, h6⟩ := h.sep hr
      rcases h6 with ⟨-, b, hs, -⟩ | ⟨hbx, -⟩
      · exact ⟨b, 0, by rw [← hl.2, hs]⟩
      · rw [hb] at hbx; cases hbx
  | cons x p =>
    have hz2 : (match Γ.pd with
      | none => K { (((Γ.mapv (AV.kill n (x :: p))).setRt n (some ⟨r.bx, r.t, setP r.t r.x (x :: p) (.list true e) l'⟩)).set d (.sref n (x :: p))) with pd := some (n, x :: p, d) }
      | some _ => none) = some z := hz
    rw [hpd] at hz2
    exact pnd (loc_at _ _ _ hl (by simp)) hz2

end
end Go.Ab

/- Operations: append. Conditions: as each lemma states. -/
namespace Go.Ab

section
variable {P : Program} {B : Base} {N : Nat} {ρ : Type} {Γ : AE} {a : Act} {w : World} {σ : Gh}

theorem ioOf_setCells (b : Nat) : ∀ (vs : List Value) (o : Nat) (w : World), ioOf (w.setCells b o vs) = ioOf w
  | [], _, _ => rfl
  | v :: r, o, w => (ioOf_setCells b r (o + 1) (w.setCell ⟨b, o, none⟩ v)).trans rfl

theorem zeros_made {z : Array Value} (n : Nat) : Builtin.zeroCells z n = madeCells z (n * z.size) := rfl

/-- **An append.** -/
theorem apnd_some {q : Bool} {d : Nat} {e : Ty} (he : e.sh = e) {t t' ty : TypeId} {ts : Array TypeId} (I : Info P e t') (h0 : ts[0]? = some t) (hu : P.underlying t = some (.slice t'))
    (h1 : ts[1]? = none ∨ ∃ t2, ts[1]? = some t2 ∧ (P.underlying t2 = some .string ∨ ∃ e, P.underlying t2 = some (.slice e)))
    {av : AV} {s x : Value} {ys : List e.den} {K : AE → Rs ρ} {z : ρ} (h : Rel B Γ N (tmOf a) w σ) (hN : a.tmps.size = N) (hav : AVOk (memo w σ.ov) σ.g Γ.rt (Shr B w σ) av s)
    (Y : News P w (memo w σ.ov) (Shr B w σ) e ys x) (hz : Γ.apnd q d e av ys K = some z) :
    ∃ v w' Γ' σ', (Builtin.append_ ts ty #[s, x]).run P w = .ok v w' ∧ Rel B Γ' N (tmOf (a.put (some d) v)) w' σ' ∧ K Γ' = some z := by
  -- the new row
  have row : ∀ (l : List e.den) (n : Nat) (cs : List Value) (R : List Nat) (rest : List Value), cs.length = n * e.cells → collect (fun i => dec (memo w σ.ov) e fun j => cs[i * e.cells + j]?) n 0 = some (l, [], R) →
      collect (fun i => dec (memo w σ.ov) e fun j => (cs ++ (Y.cs ++ rest)).toArray[i * e.cells + j]?) (n + ys.length) 0 = some (List.append l ys, [], R ++ Y.R) := by
    intro l n cs R rest hl hc
    simp only [List.getElem?_toArray]
    exact rows_append hc hl Y.rd Y.size
  have zsz : ∀ k, (Builtin.zeroCells I.z.cells k).size = k * e.cells := fun k => by rw [zeros_made, size_madeCells, I.zsize]
  have nil0 : ∀ A : Option Addr, s = .slice A 0 0 → (∀ b, A = some b → b.spot = none) → (bif lim ys.length then Γ.fresh q d ⟨false, .list true e, ys⟩ fun Γ => K (Γ.set d (.sref d [])) else none) = some z →
      ∃ v w' Γ' σ', (Builtin.append_ ts ty #[s, x]).run P w = .ok v w' ∧ Rel B Γ' N (tmOf (a.put (some d) v)) w' σ' ∧ K Γ' = some z := by
    intro A hs hA hz
    subst hs
    obtain ⟨hlim, hz⟩ : lim ys.length = true ∧ _ := (bif_some hz).elim id fun h => by cases h.2
    simp only [lim, decide_eq_true_eq] at hlim
    by_cases hk : ys.length = 0
    · have hcs : Y.cs = [] := List.length_eq_zero_iff.1 (by rw [Y.size, hk]; omega)
      have hy : ys = [] := List.length_eq_zero_iff.1 hk
      have hrun := run_append_fits (P := P) (w2 := w) (ty := ty) I h0 hu h1 (A := A) (n := 0) (c := 0) Y.len Y.run (by omega) (fun b _ => by rw [hcs]; rfl) (fun _ => rfl)
      obtain ⟨Γ', σ', g1, g2, g3, g4, g5, g6⟩ := h.fresh hz (fun _ _ => rfl) (Nat.le_refl _) (s := .one (.slice A (0 + ys.length) 0)) (O := []) (by simp) (by simp) (by simp) ⟨[], [], by
        show decL (memo w σ.ov) true e.cells (dec (memo w σ.ov) e) (some (.slice A (0 + ys.length) 0)) = some (ys, [], [])
        rw [hk, hy]
        cases A with
        | none => rfl
        | some b => simp [decL, hA b rfl, collect], by simp, .inr ⟨rfl, ⟨_, rfl⟩, ⟨e, rfl⟩, rfl⟩⟩
      exact ⟨_, w, _, σ', hrun, g2.putd (sv := .one (.sref d [])) hN (fun _ => ⟨_, e, _, g3, by rw [g4]; rfl, rfl⟩), g1⟩
    · have hold : (Builtin.firstCells e.cells 0 (.slice A 0 0)).run P w.drew = .ok ([] : List Value).toArray w.drew := by
        have := run_first (P := P) (w := w) (w2 := w.drew) (e := e) (v := .slice A 0 0) (cs := []) rfl (fun _ => rfl) (by simp) (by simp) (fun _ => rfl) 0 (by omega)
        simpa using this
      have hrun := run_append_grown (P := P) (w := w) (ty := ty) I h0 hu h1 (A := A) (n := 0) (c := 0) Y.len Y.drew hold (by omega) (by omega)
      have hg := grownCap_ge w (0 + ys.length) 0 t'
      obtain ⟨Γ', σ', g1, g2, g3, -, -⟩ := h.newSlice (c := grownCap w (0 + ys.length) 0 t') hz (fun c hc => heap_alloc_old (w := w.drew) _ c hc) (size_alloc_le (w := w.drew) _)
        (heap_alloc_new (w := w.drew) (Obj.cells (([] : List Value) ++ (Y.cs ++ (Builtin.zeroCells I.z.cells (grownCap w (0 + ys.length) 0 t' - (0 + ys.length))).toList)).toArray t')) (.inl rfl) (by
          have : (([] : List Value) ++ (Y.cs ++ (Builtin.zeroCells I.z.cells (grownCap w (0 + ys.length) 0 t' - (0 + ys.length))).toList)).length = grownCap w (0 + ys.length) 0 t' * e.cells := by
            simp only [List.nil_append, List.length_append, Y.size, Array.length_toList, zsz]
            rw [← Nat.add_mul]
            congr 1; omega
          rw [List.size_toArray, this]; exact Nat.le_refl _) (by omega) (by
          have := row [] 0 [] [] (Builtin.zeroCells I.z.cells (grownCap w (0 + ys.length) 0 t' - (0 + ys.length))).toList (by simp) rfl
          rw [Nat.zero_add] at this
          rw [Nat.zero_add]
          exact this) Y.shr
      refine ⟨_, _, _, σ', hrun, g2.putd (sv := .one (.sref d [])) hN (fun _ => ?_), g1⟩
      rw [Nat.zero_add] at g3 ⊢
      exact g3
  unfold AE.apnd at hz
  split at hz
  · have hav : s = .slice none 0 0 := hav
    exact nil0 none hav (by simp) hz
  · obtain ⟨A, hv, hA⟩ := hav
    exact nil0 A hv hA hz
  · rename_i n p
    obtain ⟨-, hz⟩ : q = false ∧ _ := by
      by_cases hq : q
      · rw [hq] at hz; simp at hz
      · exact ⟨by simpa using hq, (bif_some hz).elim (fun h => absurd h.1 hq) (·.2)⟩
    split at hz
    · rename_i r hr
      obtain ⟨hpd, hr'⟩ := look_some hr
      have hov := h.ov_none hpd
      split at hz
      · rename_i e' l hg
        split at hz
        · rename_i hee
          subst hee
          obtain ⟨hlim, hz⟩ : lim (List.length l + ys.length) = true ∧ _ := (bif_some hz).elim id fun h => by cases h.2
          simp only [lim, decide_eq_true_eq] at hlim
          obtain ⟨s', O', R', f1, f2, f3, f4, f5, f6, f7, f8⟩ := h.own hav hr' hg
          have hsh : ∀ c ∈ R' ++ Y.R, Shr B w σ c := fun c hc => (List.mem_append.1 hc).elim (f5 c) (Y.shr c)
          have hownb : ∀ c ∈ O'.map (·.1), Owned σ c := fun c hc => by
            obtain ⟨q, hq, rfl⟩ := List.mem_map.1 hc
            exact ⟨n, List.mem_map_of_mem (f6 q hq)⟩
          -- the append grows
          have grow : ∀ (A : Option Addr) (n0 c : Nat) (cs : List Value), s = .slice A n0 c → n0 = List.length l → cs.length = n0 * e.cells → (∀ b, A = some b → ∀ j u, cs[j]? = some u → w.cell? (b.add j) = some u) → (A = none → n0 = 0) →
              collect (fun i => dec (memo w σ.ov) e fun j => cs[i * e.cells + j]?) n0 0 = some (l, [], R') → c < n0 + ys.length →
              ∃ v w' Γ' σ', (Builtin.append_ ts ty #[s, x]).run P w = .ok v w' ∧ Rel B Γ' N (tmOf (a.put (some d) v)) w' σ' ∧ K Γ' = some z := by
            intro A n0 c cs hs hn0 hcl hcell hnone hcol hgt
            subst hs
            have hold : (Builtin.firstCells e.cells n0 (.slice A n0 c)).run P w.drew = .ok cs.toArray w.drew := by
              have := run_first (P := P) (w := w) (w2 := w.drew) (e := e) (v := .slice A n0 c) (cs := cs) rfl (fun _ => rfl) hcl hcell hnone n0 (Nat.le_refl _)
              rw [← hcl, List.take_length] at this
              exact this
            have hrun := run_append_grown (P := P) (w := w) (ty := ty) I h0 hu h1 (A := A) (n := n0) (c := c) Y.len Y.drew hold hgt (by rw [hn0]; exact hlim)
            have hge := grownCap_ge w (n0 + ys.length) c t'
            generalize hw2 : w.drew.alloc _ = w2 at hrun
            generalize hgc : grownCap w (n0 + ys.length) c t' = gc at hrun hge
            have hold2 : ∀ c, c < w.heap.size → w2.heap[c]? = w.heap[c]? := fun c hc => by rw [← hw2]; exact heap_alloc_old (w := w.drew) _ c hc
            have hnew2 := heap_alloc_new (w := w.drew) (.cells (cs ++ (Y.cs ++ (Builtin.zeroCells I.z.cells (gc - (n0 + ys.length))).toList)).toArray t')
            have hnew2 : w2.heap[w.heap.size]? = some (.cells (cs ++ (Y.cs ++ (Builtin.zeroCells I.z.cells (gc - (n0 + ys.length))).toList)).toArray t') := by
              rw [← hw2, hgc]; exact hnew2
            have hsz2 : w.heap.size ≤ w2.heap.size := by rw [← hw2]; exact size_alloc_le (w := w.drew) _
            have hcs2 : (cs ++ (Y.cs ++ (Builtin.zeroCells I.z.cells (gc - (n0 + ys.length))).toList)).length = gc * e.cells := by
              simp only [List.length_append, hcl, Y.size, Array.length_toList, zsz]
              rw [← Nat.add_mul, ← Nat.add_mul]
              congr 1; omega
            have hd2 := hdr_dec (m := memo w2 none) (m0 := memo w σ.ov) (b := ⟨w.heap.size, 0, none⟩) (n := n0 + ys.length) (c := gc) (cs := cs ++ (Y.cs ++ (Builtin.zeroCells I.z.cells (gc - (n0 + ys.length))).toList)) rfl hge (by
                rw [hcs2]; exact Nat.mul_le_mul_right _ hge) (fun j u _ hu => by
                simp only [memo, Nat.zero_add, World.cell?, hnew2]
                simpa using hu) (by
                have := row l n0 cs R' (Builtin.zeroCells I.z.cells (gc - (n0 + ys.length))).toList hcl hcol
                simpa only [List.getElem?_toArray] using this) (fun c hc j => by
                rw [hov]
                exact memo_heap none (hold2 c (hsh c hc).1) j)
            have hgc0 : gc ≠ 0 := by omega
            rw [if_neg hgc0] at hd2
            have hfree : ∀ c k, Free w c k → Free w2 c k := fun c k hf => by
              obtain ⟨cc, e1, lo, hi, g1, g2⟩ := hf
              exact ⟨cc, e1, lo, hi, by rw [hold2 c (Array.getElem?_eq_some_iff.1 g1).1]; exact g1, g2⟩
            obtain ⟨Γ', σ', k1, k2⟩ := h.turn (w2 := w2) hN hr f1 hg f2 f3 f6 f8 hd2 (fun c j => by
                by_cases hc : c < w.heap.size
                · exact .inl (memo_heap none (hold2 c hc) j)
                · exact .inr (.inr (by omega))) (fun c hc => by
                simp only [List.map_cons, List.map_nil, List.mem_singleton] at hc
                exact .inr (by omega)) (by simp) (fun p hp => by
                simp only [List.mem_singleton] at hp
                subst hp
                exact ⟨_, t', 0, 0, hnew2, by show 0 + gc * e.cells ≤ _; rw [List.size_toArray, hcs2]; omega, .inl rfl⟩) (fun c k hf _ => hfree c k hf) hsz2 (fun b hb hF => by
                have := h.size
                rw [hold2 b (by omega)]; exact h.frame b hb hF) hsh hz (hio := by rw [← hw2]; rfl)
            exact ⟨_, w2, Γ', σ', hrun, k1, k2⟩
          rcases own_hdr he f4 with ⟨hs, hl0, hO0, hR0⟩ | ⟨b, n0, c, cs, hs, hb, hnc, hn0, hO, hcl, hcell, hone, hcol⟩
          · by_cases hk : ys.length = 0
            · have hcs : Y.cs = [] := List.length_eq_zero_iff.1 (by rw [Y.size, hk]; omega)
              have hy : ys = [] := List.length_eq_zero_iff.1 hk
              have hrun := run_append_fits (P := P) (w2 := w) (ty := ty) I h0 hu h1 (A := none) (n := 0) (c := 0) Y.len Y.run (by omega) (fun b hb => by cases hb) (fun _ => rfl)
              subst hs
              obtain ⟨Γ', σ', k1, k2⟩ := h.turn (w2 := w) (v' := .slice none (0 + ys.length) 0) (O2 := []) (R2 := []) (l' := List.append l ys) hN hr f1 hg f2 f3 f6 f8 (by
                  rw [hk, hy]
                  have : List.append l ([] : List e.den) = [] := by rw [hl0]; rfl
                  rw [this]; rfl) (fun c j => .inl rfl) (by simp) (by simp) (by simp) (fun _ _ hf _ => hf) (Nat.le_refl _) h.frame (by simp) hz
              exact ⟨_, w, Γ', σ', hrun, k1, k2⟩
            · exact grow none 0 0 [] hs (by rw [hl0]; rfl) (by simp) (by simp) (fun _ => rfl) (by rw [hl0, hR0]; rfl) (by omega)
          · have hcell' : ∀ b', some b = some b' → ∀ j u, cs[j]? = some u → w.cell? (b'.add j) = some u := fun b' hb' j u hu => by
              simp only [Option.some.injEq] at hb'
              subst hb'
              rw [add_cell hb]
              have := hcell j u hu
              rw [hov] at this
              exact this
            by_cases hfit : n0 + ys.length ≤ c
            · -- it fits
              let w2 := w.setCells b.block (b.off + n0 * e.cells) Y.cs
              have hlive : c ≠ 0 → Free w b.block (b.off + c * e.cells) := fun hc => h.live n (b.block, b.off + c * e.cells) (f6 _ (by rw [hO, if_neg hc]; simp))
              have hroom : Y.cs ≠ [] → c ≠ 0 ∧ b.off + n0 * e.cells + Y.cs.length ≤ b.off + c * e.cells := fun hne => by
                have : ys.length ≠ 0 := fun e0 => hne (List.length_eq_zero_iff.1 (by rw [Y.size, e0]; omega))
                refine ⟨by omega, ?_⟩
                have := Nat.mul_le_mul_right e.cells hfit
                rw [Nat.add_mul, ← Y.size] at this
                omega
              have hstore : (storeCells (b.add (n0 * e.cells)) Y.cs).run P w = .ok () w2 := by
                rw [add_none hb]
                by_cases hne : Y.cs = []
                · simp only [w2, hne]; rfl
                · obtain ⟨hc, hle⟩ := hroom hne
                  have := run_storeCells_cells (P := P) b.block (b.off + n0 * e.cells) Y.cs 0 w (fun j hj => ((hlive hc).cell (by omega)).1) (fun j hj => ((hlive hc).cell (by omega)).2) (fun u hu => single_oneCell' (Y.one u hu))
                  simpa using this
              have hcells : ∀ c' j, w2.cell? ⟨c', j, none⟩ = if c' = b.block ∧ b.off + n0 * e.cells ≤ j ∧ j < b.off + n0 * e.cells + Y.cs.length then Y.cs[j - (b.off + n0 * e.cells)]? else w.cell? ⟨c', j, none⟩ := fun c' j => by
                by_cases hne : Y.cs = []
                · simp only [w2, hne, World.setCells, List.length_nil]
                  rw [if_neg (by omega)]
                · obtain ⟨hc, hle⟩ := hroom hne
                  exact cell_setCells _ _ _ w _ (hlive hc) hle c' j
              have hrun := run_append_fits (P := P) (w2 := w2) (ty := ty) I h0 hu h1 (A := some b) (n := n0) (c := c) Y.len Y.run hfit (fun b' hb' => by
                simp only [Option.some.injEq] at hb'
                subst hb'
                exact hstore) (fun hn => by cases hn)
              have hother : ∀ c', c' ≠ b.block → w2.heap[c']? = w.heap[c']? := fun c' hc' => heap_setCells_other _ _ _ _ _ hc'
              have hbO : Y.cs ≠ [] → b.block ∈ O'.map (·.1) := fun hne => by rw [hO, if_neg (hroom hne).1]; simp
              have hd2 := hdr_dec (m := memo w2 none) (m0 := memo w σ.ov) (b := b) (n := n0 + ys.length) (c := c) (cs := cs ++ (Y.cs ++ [])) (l := List.append l ys) (R := R' ++ Y.R) hb hfit (by
                  simp only [List.length_append, hcl, Y.size, List.length_nil]
                  rw [Nat.add_mul]; omega) (fun j u hj hu => by
                  simp only [memo, hcells]
                  by_cases hj2 : j < n0 * e.cells
                  · rw [if_neg (by omega)]
                    rw [List.getElem?_append_left (by omega)] at hu
                    have := hcell j u hu
                    rw [hov] at this
                    exact this
                  · rw [Nat.add_mul, ← Y.size] at hj
                    rw [if_pos ⟨trivial, by omega, by omega⟩]
                    rw [List.getElem?_append_right (by omega), List.append_nil, hcl] at hu
                    rw [← hu]; congr 1; omega) (by
                  have := row l n0 cs R' [] hcl hcol
                  simpa only [List.getElem?_toArray] using this) (fun c' hc' j => by
                  rw [hov]
                  by_cases hne : Y.cs = []
                  · simp only [w2, hne, World.setCells]
                  · exact memo_heap none (hother c' fun e1 => (hsh c' hc').2.2 (by rw [e1]; exact hownb _ (hbO hne))) j)
              rw [← hO] at hd2
              subst hs
              obtain ⟨Γ', σ', k1, k2⟩ := h.turn (w2 := w2) hN hr f1 hg f2 f3 f6 f8 hd2 (fun c' j => by
                  by_cases hne : Y.cs = []
                  · left; simp only [w2, hne, World.setCells]
                  · by_cases hc' : c' = b.block
                    · exact .inr (.inl (by rw [hc']; exact hbO hne))
                    · exact .inl (memo_heap none (hother c' hc') j)) (fun c' hc' => .inl hc') f7 (fun p hp => (h.live n p (f6 p hp)).setCells _ _ _) (fun _ _ hf _ => hf.setCells _ _ _) (by rw [size_setCells]; exact Nat.le_refl _) (fun b' hb' hF => by
                  by_cases hne : Y.cs = []
                  · simp only [w2, hne, World.setCells]; exact h.frame b' hb' hF
                  · rw [hother b' ?_]
                    · exact h.frame b' hb' hF
                    · rintro rfl
                      rcases h.mine _ (hownb _ (hbO hne)) with g | g
                      · exact hF g
                      · omega) hsh hz (hio := ioOf_setCells _ _ _ _)
              exact ⟨_, w2, Γ', σ', hrun, k1, k2⟩
            · exact grow (some b) n0 c cs hs hn0 hcl hcell' (by simp) hcol (by omega)
        · cases hz
      · cases hz
    · cases hz
  · cases hz

end
end Go.Ab

/- Operations: append, of all that it may be given. Conditions: as each lemma states. -/
namespace Go.Ab

section
variable {P : Program} {B : Base} {N : Nat} {ρ : Type} {Γ : AE} {a : Act} {w : World} {σ : Gh}

theorem Elems.news {m Sh} {e : Ty} {l : List e.den} {v : Value} (h : Elems w m Sh e l v) : Nonempty (News P w m Sh e l v) := by
  obtain ⟨A, n, c, cs, hv, hn, hlen, hone, ⟨R, hcol, hR⟩, hc, hnone, -⟩ := h
  have f1 := run_first (P := P) (w := w) (w2 := w) (e := e) hv (fun _ => rfl) hlen hc hnone n (Nat.le_refl _)
  have f2 := run_first (P := P) (w := w) (w2 := w.drew) (e := e) hv (fun _ => rfl) hlen hc hnone n (Nat.le_refl _)
  rw [← hlen, List.take_length] at f1 f2
  refine ⟨⟨cs, ?_, by rw [← hn]; exact hlen, hone, R, by rw [← hn]; exact hcol, hR, by rw [← hn]; exact f1, by rw [← hn]; exact f2⟩⟩
  rw [hv, ← hn]; rfl

theorem str_news {m Sh} (s : ByteArray) {l : List (Ty.int .u8).den} (hl : l = (s.data.toList.map fun b => (b.toNat : Int) : List Int)) : Nonempty (News P w m Sh (.int .u8) l (.string s)) := by
  have hlen : (s.data.toList.map fun b => (b.toNat : Int)).length = s.size := by rw [List.length_map]; rfl
  have hlen' : l.length = s.size := (congrArg List.length hl).trans hlen
  have hfirst : ∀ w : World, (Builtin.firstCells (Ty.int .u8).cells s.size (.string s)).run P w = .ok (s.data.toList.map fun b => Value.int .u8 (b.toNat : Int)).toArray w := fun w => by
    have hx : s.extract 0 s.size = s := by simp
    simp only [Builtin.firstCells, hx, Sem.run_pure]
    congr 1
    apply Array.ext'
    simp
  refine ⟨⟨s.data.toList.map fun b => Value.int .u8 (b.toNat : Int), ?_, ?_, ?_, [], ?_, by simp, ?_, ?_⟩⟩
  · rw [hlen']; rfl
  · rw [hlen', List.length_map]
    show s.data.toList.length = s.size * 1
    rw [Nat.mul_one]; rfl
  · intro u hu
    obtain ⟨b, -, rfl⟩ := List.mem_map.1 hu
    rfl
  · have key : ∀ (l : List UInt8) (pre : List Value) (i : Nat), pre.length = i → collect (fun i => dec m (.int .u8) fun j => (pre ++ l.map fun b => Value.int .u8 (b.toNat : Int))[i * (Ty.int .u8).cells + j]?) l.length i =
        some ((l.map fun b => (b.toNat : Int) : List Int), [], []) := by
      intro l
      induction l with
      | nil => intro pre i _; rfl
      | cons b l ih =>
        intro pre i hp
        have h1 := ih (pre ++ [Value.int .u8 (b.toNat : Int)]) (i + 1) (by simp [hp])
        simp only [List.append_assoc, List.singleton_append] at h1
        have hcell : (pre ++ (b :: l).map fun b => Value.int .u8 (b.toNat : Int))[i * (Ty.int .u8).cells + 0]? = some (.int .u8 (b.toNat : Int)) := by
          show (pre ++ _)[i * 1 + 0]? = _
          rw [Nat.mul_one, Nat.add_zero, List.getElem?_append_right (by omega), hp, Nat.sub_self]; rfl
        simp only [List.length_cons, collect]
        rw [show dec m (.int .u8) (fun j => (pre ++ (b :: l).map fun b => Value.int .u8 (b.toNat : Int))[i * (Ty.int .u8).cells + j]?) = some ((b.toNat : Int), [], []) from by
          simp only [dec]
          rw [hcell]
          simp only [if_true]
          rfl]
        simp only [List.map_cons]
        rw [h1]
        rfl
    have := key s.data.toList [] 0 rfl
    rw [hlen']
    rw [show s.data.toList.length = s.size from rfl] at this
    rw [hl]
    exact this
  · rw [hlen']; exact hfirst w
  · rw [hlen']; exact hfirst w.drew

theorem does_append {o : Oper} {c : Call} {d : Nat} {cx : Cx} {q : Bool} {K : AE → Rs ρ} {z : ρ} (hcx : CxTy P cx) (ho : o.op = .call c) (hb : c.callee = .builtin .append) (hd : o.dst = some d)
    (h : Rel B Γ N (tmOf a) w σ) (hN : a.tmps.size = N) (hf : fits N o = true) (hz : aop cx q o Γ K = some z) : Does P B N o a w K z := by
  obtain ⟨cs, hrun⟩ := run_blt (P := P) (a := a) (w := w) ho hb
  have hl : ∃ x y, c.args.toList = [x, y] := by
    cases hl : c.args.toList with
    | nil => simp only [aop, ho, hd, hb, hl, List.map_nil, AE.blt] at hz; cases hz
    | cons x l =>
      cases l with
      | nil => simp only [aop, ho, hd, hb, hl, List.map_cons, List.map_nil, AE.blt] at hz; cases hz
      | cons y l =>
        cases l with
        | nil => exact ⟨x, y, rfl⟩
        | cons u l => simp only [aop, ho, hd, hb, hl, List.map_cons, AE.blt] at hz; cases hz
  obtain ⟨x, y, hxy⟩ := hl
  have hargs : c.args = #[x, y] := by rw [← Array.toList_inj]; simpa using hxy
  have hops := call_opds ho hb hf
  rw [hxy] at hops
  have hx := h.opd (hops x (by simp))
  have hy := h.opd (hops y (by simp))
  simp only [aop, ho, hd, hb, hxy, List.map_cons, List.map_nil, AE.blt] at hz
  obtain ⟨hni, hz⟩ := (bif_some hz).elim id fun h => by cases h.2
  have h1 := notInt_some hcx hni
  split at hz
  · rename_i o' e hT
    obtain ⟨t, ht, hT⟩ := Option.bind_eq_some_iff.1 hT
    have ht0 : c.argTypes[0]? = some t := by
      rw [← Array.getElem?_toList]
      cases hl : c.argTypes.toList with
      | nil => rw [hl] at ht; cases ht
      | cons y l => rw [hl] at ht; simpa using ht
    obtain ⟨hsh, hty⟩ := hcx.T t _ hT
    obtain ⟨t', hu, hte, hpos⟩ := tyOk_elem hty
    obtain ⟨I⟩ := baseOk_info (tyOk_base hte)
    have he : e.sh = e := by
      simp only [Ty.sh, Ty.list.injEq] at hsh
      exact hsh.2
    have fin : ∀ ys, Nonempty (News P w (memo w σ.ov) (Shr B w σ) e ys (a.eval y)) → Γ.apnd q d e (Γ.opd x) ys K = some z → Does P B N o a w K z := by
      rintro ys ⟨Y⟩ hz
      obtain ⟨v, w', Γ', σ', k1, k2, k3⟩ := apnd_some (ty := o.type) he I ht0 hu h1 h hN hx Y hz
      refine ⟨v, w', Γ', σ', .inl (hrun.trans ?_), by rw [hd]; exact k2, k3⟩
      simp [builtin, hargs, k1]
    split at hz
    · rename_i u hyv
      split at hz
      · rename_i hee
        subst hee
        rw [hyv] at hy
        obtain ⟨s, hv, hl⟩ := AVOk.str hy
        refine fin u ?_ hz
        rw [hv]
        have hl : u = (s.data.toList.map fun b => (b.toNat : Int) : List Int) := hl
        exact str_news s hl
      · cases hz
    · obtain ⟨l, hz, hE⟩ := h.elems he hy hz
      exact fin l hE.news hz
  · cases hz

end
end Go.Ab

/- Operations: a variable that takes a value. Conditions: as each lemma states. -/
namespace Go.Ab

theorem kill_top (n : Nat) (av : AV) : AV.kill n [] av = .dead ∨ (AV.kill n [] av = av ∧ ∀ k q, (av = .ptr k q ∨ av = .sref k q ∨ ∃ o l, av = .swin k q o l) → k = n → av = .ptr n []) := by
  cases av with
  | ptr m q =>
    simp only [AV.kill]
    by_cases hm : m = n
    · subst hm
      cases q with
      | nil => exact .inr ⟨by simp, fun k q h1 h2 => rfl⟩
      | cons => left; simp [below]
    · right
      have hmn : (m == n) = false := by simpa using hm
      refine ⟨by simp [hmn], fun k q h1 h2 => ?_⟩
      rcases h1 with h1 | h1 | ⟨_, _, h1⟩ <;> cases h1
      exact absurd h2 hm
  | sref m q =>
    simp only [AV.kill]
    by_cases hm : m = n
    · left; simp [hm, below]
    · right
      have hmn : (m == n) = false := by simpa using hm
      refine ⟨by simp [hmn], fun k q h1 h2 => ?_⟩
      rcases h1 with h1 | h1 | ⟨_, _, h1⟩ <;> cases h1
      exact absurd h2 hm
  | swin m q o k =>
    simp only [AV.kill]
    by_cases hm : m = n
    · left; simp [hm, below]
    · right
      have hmn : (m == n) = false := by simpa using hm
      refine ⟨by simp [hmn], fun k q h1 h2 => ?_⟩
      rcases h1 with h1 | h1 | ⟨_, _, h1⟩ <;> cases h1
      exact absurd h2 hm
  | _ => exact .inr ⟨rfl, fun k q h1 _ => by rcases h1 with h1 | h1 | ⟨_, _, h1⟩ <;> cases h1⟩

section
variable {P : Program} {B : Base} {N : Nat} {ρ : Type} {Γ : AE} {a : Act} {w : World} {σ : Gh}

theorem does_assign {o : Oper} {x : Operand} {d : Nat} {cx : Cx} {q : Bool} {K : AE → Rs ρ} {z : ρ} (ho : o.op = .assign x) (hd : o.dst = some d)
    (h : Rel B Γ N (tmOf a) w σ) (hN : a.tmps.size = N) (hf : fits N o = true) (hz : aop cx q o Γ K = some z) : Does P B N o a w K z := by
  have hx := h.opd (fits_op hf x (by simp [ho, Op.operands]))
  have hrun : (execOp a.eval o).run P w = .ok (.value (a.eval x)) w := by simp [execOp, ho]
  simp only [aop, ho, hd] at hz
  have same : ∀ av, Γ.opd x = av → K (Γ.set d av) = some z → Does P B N o a w K z := fun av hav hz => Does.set hd hN hrun h (hav ▸ hx) hz
  unfold AE.asg at hz
  split at hz
  · rename_i r hav
    split at hz
    · rename_i t x0 hl
      obtain ⟨hpd, hr⟩ := look_some hl
      rcases bif_some hz with ⟨-, hz⟩ | ⟨hrd, hz⟩
      · exact same _ hav hz
      · rcases bif_some hz with ⟨-, hz⟩ | ⟨-, hz⟩
        · exact same _ hav hz
        · obtain ⟨hdp, hz⟩ := (bif_some hz).elim id fun h => by cases h.2
          have hdp : d < pinned := by simpa using hdp
          have hne : r ≠ d := by
            intro e; rw [e] at hrd; simp at hrd
          have h1 := h.drop (n := d) (by simp [hpd])
          have hr1 : ((Γ.mapv (AV.drop d)).setRt d none).rt r = some ⟨false, t, x0⟩ := by
            have : (r == d) = false := by simpa using hne
            simp only [AE.setRt, AE.mapv, this]
            exact hr
          have h2 := h1.rename hr1 (d := d) (setRt_self _) hdp (by simp [AE.setRt, AE.mapv, hpd])
          have hΓ : ((((Γ.mapv (AV.drop d)).setRt d none).mapv (AV.ren r d)).setRt r none).setRt d (some ⟨false, t, x0⟩) = (((Γ.mapv (AV.drop d)).mapv (AV.ren r d)).setRt r none).setRt d (some ⟨false, t, x0⟩) := by
            simp only [AE.setRt, AE.mapv]
            congr 1
            funext j
            by_cases hj : j = d
            · subst hj; simp
            · have : (j == d) = false := by simpa using hj
              simp [this]
          rw [hΓ] at h2
          rw [hav] at hx
          obtain ⟨r', e', s', g1, g2, g3⟩ := hx
          rw [hr] at g1
          simp only [Option.some.injEq] at g1
          subst g1
          simp only [loc, locQ, Option.some.injEq, Prod.mk.injEq] at g2
          have hloc : loc (memo w σ.ov) t (if d = d then σ.g r else σ.g d) [] = some (.list true e', s') := by
            show some (t, if d = d then σ.g r else _) = _
            rw [if_pos rfl, g2.1, g2.2]
          have h3 := h2.putd (sv := .one (.sref d [])) (v := a.eval x) (d := d) hN (fun _ => ⟨⟨false, t, x0⟩, e', s', setRt_self _, hloc, g3⟩)
          exact ⟨_, w, _, _, .inl hrun, by rw [hd]; exact h3, hz⟩
    · exact same _ hav hz
  · rename_i r k hav
    split at hz
    · rename_i e l hl
      obtain ⟨hpd, hr⟩ := look_some hl
      rcases bif_some hz with ⟨hrd, hz⟩ | ⟨-, hz⟩
      · simp only [Bool.and_eq_true, beq_iff_eq] at hrd
        obtain ⟨rfl, -⟩ := hrd
        obtain ⟨hkl, hz⟩ := (bif_some hz).elim id fun h => by cases h.2
        rw [hav] at hx
        obtain ⟨s, O', R', a0, n0, c, f1, f2, f3, f4, f5, f6, a', hv, f7, f8⟩ := h.window hx hr (show getP (.list true e) l [] = ⟨.list true e, l⟩ from rfl)
        rw [Nat.zero_add] at f6
        rw [Nat.sub_zero] at hv
        have hov := h.ov_none hpd
        simp only [loc, locQ, Option.some.injEq, Prod.mk.injEq, true_and] at f1
        obtain ⟨O1, R1, k1, k2, k3, k4, k5, k6⟩ := h.sep hr
        rw [f1] at k1
        have hd0 : dec (memo w σ.ov) (.list true e) (s.rd (memo w σ.ov)) = some (l, O', R') := dec_frame _ f3 (fun j hj => by
          have hj0 : j = 0 := by simp only [Ty.cells] at hj; omega
          subst hj0
          rw [f2]; rfl) (fun _ _ _ => rfl)
        rw [hd0] at k1
        simp only [Option.some.injEq, Prod.mk.injEq, true_and] at k1
        obtain ⟨rfl, rfl⟩ := k1
        have key : ∃ O2 R2, dec (memo w σ.ov) (.list true e) ((Src.one (.slice a' k c)).rd (memo w σ.ov)) = some (List.take k l, O2, R2) ∧ (∀ p ∈ O2, p ∈ O') ∧ (O2.map (·.1)).Nodup ∧ (∀ c ∈ R2, c ∈ R') := by
          rcases dec_own f3 with ⟨hs, hl0, -, -⟩ | ⟨A, n1, c1, os, hs, hA, hn, hx', ho⟩
          · simp only [Src.rd, if_true, Option.some.injEq, Value.slice.injEq] at hs
            obtain ⟨rfl, rfl, rfl⟩ := hs
            have hk : k = 0 := by omega
            subst hk
            refine ⟨[], [], ?_, by simp, by simp, by simp⟩
            show decL (memo w σ.ov) true e.cells (dec (memo w σ.ov) e) (some (.slice a' 0 0)) = some (([] : List e.den), [], [])
            cases a' with
            | none => rfl
            | some b => simp [decL, f7 b rfl, collect]
          · simp only [Src.rd, if_true, Option.some.injEq, Value.slice.injEq] at hs
            obtain ⟨rfl, rfl, rfl⟩ := hs
            rw [show n0 = k + (n0 - k) from by omega] at hx'
            obtain ⟨os1, rs1, os2, rs2, j1, -, rfl, rfl⟩ := collect_take k _ 0 hx'
            have hnd := k3.nodup
            by_cases hc : c = 0
            · subst hc
              have hk : k = 0 := by omega
              subst hk
              refine ⟨[], [], ?_, by simp, by simp, by simp⟩
              show decL (memo w σ.ov) true e.cells (dec (memo w σ.ov) e) (some (.slice a' 0 0)) = some (([] : List e.den), [], [])
              cases a' with
              | none => rfl
              | some b => simp [decL, f7 b rfl, collect]
            · rcases ho with ⟨h0, -⟩ | ⟨-, ho⟩
              · exact absurd h0 hc
              · have ha' : a' = some ⟨A.block, A.off, none⟩ := by
                  rcases f8 with f8 | f8
                  · exact absurd f8 hc
                  · rw [f8]; simp [add_none hA]
                subst ha'
                refine ⟨(A.block, A.off + c * e.cells) :: os1, rs1, dec_own_mk (a := ⟨A.block, A.off, none⟩) rfl rfl (by omega) hc j1, ?_, ?_, fun c hc => List.mem_append_left _ hc⟩
                · intro p hp
                  rw [ho]
                  rcases List.mem_cons.1 hp with rfl | hp
                  · exact List.mem_cons_self
                  · exact List.mem_cons_of_mem _ (List.mem_append_left _ hp)
                · rw [ho] at hnd
                  simp only [List.map_cons, List.map_append, List.nodup_cons, List.mem_append, List.nodup_append] at hnd ⊢
                  exact ⟨fun g => hnd.1 (.inl g), hnd.2.1⟩
        obtain ⟨O2, R2, j1, j2, j3, j4⟩ := key
        have hsub : ∀ p ∈ O2, p ∈ σ.ow r := fun p hp => by
          rcases k6 with ⟨hbx, -⟩ | ⟨-, -, -, hO⟩
          · cases hbx
          · rw [hO]; exact j2 p hp
        have hsubc : ∀ c ∈ O2.map (·.1), c ∈ (σ.ow r).map (·.1) := fun c hc => by
          obtain ⟨p, hp, rfl⟩ := List.mem_map.1 hc
          exact List.mem_map_of_mem (hsub p hp)
        have hrel := h.top hr (by simp [hpd]) (w' := w) (v' := .slice a' k c) (l' := List.take k l) j1 (fun _ _ _ _ => rfl) (fun c hc => .inl (hsubc c hc)) j3 (fun p hp => h.live r p (hsub p hp)) (fun _ _ hf _ => hf) (Nat.le_refl _) h.frame
          (fun c hc => by
            have hs := f4 c (j4 c hc)
            exact ⟨hs.1, hs.2.1, hs.2.2, fun g => hs.2.2 ⟨r, hsubc c g⟩⟩) (f := AV.kill r []) (kill_top r)
        have hloc : loc (memo w σ.ov) (.list true e) (if r = r then Src.one (.slice a' k c) else σ.g r) [] = some (.list true e, .one (.slice a' k c)) := by
          show some (_, if r = r then Src.one _ else _) = _
          rw [if_pos rfl]
        have h3 := hrel.putd (sv := .one (.sref r [])) (v := a.eval x) (d := r) hN (fun _ => ⟨⟨false, .list true e, List.take k l⟩, e, .one (.slice a' k c), setRt_self _, hloc, by rw [hv]; rfl⟩)
        exact ⟨_, w, _, _, .inl hrun, by rw [hd]; exact h3, hz⟩
      · exact same _ hav hz
    · exact same _ hav hz
  · exact same _ rfl hz

end
end Go.Ab

/- A slice that moves into a variable; stores. Conditions: as each lemma states. -/
namespace Go.Ab

/-- **The slice root m0 moves** into a place of the root n. -/
theorem Rel.move {B Γ N tm w σ} (h : Rel B Γ N tm w σ) {n r p ε b o y O1 R1} (hr : Γ.rt n = some r) (hl : loc (memo w σ.ov) r.t (σ.g n) p = some ((.list true ε), .at b o))
    (hy : dec (memo w σ.ov) (.list true ε) ((Src.at b o).rd (memo w σ.ov)) = some (y, O1, R1)) {m0 : Nat} {y' : List ε.den} {v : Value} (hm0 : Γ.rt m0 = some ⟨false, (.list true ε), y'⟩) (hg0 : σ.g m0 = .one v) (hne0 : m0 ≠ n) (hpd : Γ.pd = none)
    {f : AV → AV} (hf : ∀ a, f a = .dead ∨ (f a = a ∧ Keeps n p (.list true ε) a ∧ ∀ k q, (a = .ptr k q ∨ a = .sref k q ∨ ∃ o l, a = .swin k q o l) → k ≠ m0)) :
    ∃ ow', Rel B (((Γ.mapv f).setRt m0 none).setRt n (some ⟨r.bx, r.t, setP r.t r.x p (.list true ε) y'⟩)) N tm (w.setCell ⟨b, o, none⟩ v) ⟨σ.g, ow', none⟩ := by
  have hov : σ.ov = none := h.ov_none hpd
  obtain ⟨O2, R2, i1, i2, i3, i4, i5, i6⟩ := h.sep hm0
  have i6 : σ.ow m0 = O2 := by
    rcases i6 with ⟨hbx, -⟩ | ⟨-, -, -, hO⟩
    · cases hbx
    · exact hO
  rw [hg0] at i1
  obtain ⟨w', hw'⟩ : ∃ w', w' = w.setCell ⟨b, o, none⟩ v := ⟨_, rfl⟩
  rw [← hw']
  have hb0 : b ∈ (σ.ow n).map (·.1) := h.place hr hl
  have hroom := h.room hr hl
  have hcells1 : (Ty.list true ε).cells = 1 := rfl
  have hmem0 : ∀ c j, memo w' none c j = if c = b ∧ j = o then some v else memo w σ.ov c j := fun c j => by
    rw [hov, hw']
    simp only [memo]
    by_cases e1 : c = b ∧ j = o
    · obtain ⟨rfl, rfl⟩ := e1
      have := (hroom.cell (o := j) (by omega)).1
      obtain ⟨u, hu⟩ := Option.isSome_iff_exists.1 this
      rw [World.cell?_setCell_same _ _ _ hu]
      simp
    · rw [if_neg e1, World.cell?_setCell_other]
      intro e'
      simp only [Addr.mk.injEq, and_true] at e'
      exact e1 ⟨e'.1.symm, e'.2.symm⟩
  have hchg : ∀ c j, memo w' none c j = memo w σ.ov c j ∨ (c = b ∧ o ≤ j ∧ j < o + (Ty.list true ε).cells) ∨ c ∈ O1.map (·.1) ∨ w.heap.size ≤ c := fun c j => by
    by_cases e1 : c = b ∧ j = o
    · exact .inr (.inl ⟨e1.1, by omega, by omega⟩)
    · exact .inl (by rw [hmem0, if_neg e1])
  have hy' : dec (memo w' none) (.list true ε) ((Src.at b o).rd (memo w' none)) = some (y', O2, R2) := by
    refine dec_frame _ i1 (fun j hj => ?_) (fun c j hc => ?_)
    · have hj0 : j = 0 := by simp only [Ty.cells] at hj; omega
      subst hj0
      simp [Src.rd, hmem0]
    · rw [hmem0, if_neg]
      rintro ⟨rfl, -⟩
      rcases hc with hc | hc
      · exact h.disj n m0 (Ne.symm hne0) c hb0 (i4 c hc)
      · exact (i2 c hc).2.2 ⟨n, hb0⟩
  have hO2 : ∀ c ∈ O2.map (·.1), c ∈ (σ.ow m0).map (·.1) := i4
  have hn2 : (O2.map (·.1)).Nodup := i3.nodup
  have hfree : ∀ c k, Free w c k → Owned σ c → Free w' c k := fun c k hf _ => by rw [hw']; exact hf.setCell _ _
  have hlive : ∀ p ∈ O2, Free w' p.1 p.2 := fun p hp => by
    rw [← i6] at hp
    exact hfree _ _ (h.live m0 p hp) ⟨m0, List.mem_map_of_mem hp⟩
  have hsz : w.heap.size ≤ w'.heap.size := by rw [hw']; simp
  have hfr : ∀ b, b < B.size → ¬ B.F b → w'.heap[b]? = B.hp b := fun c hc hF => by
    rw [hw', heap_setCell, if_neg]
    · exact h.frame c hc hF
    · rintro rfl
      rcases h.mine c ⟨n, hb0⟩ with g | g
      · exact hF g
      · omega
  obtain ⟨O', R, h1, h2, h3, h4, h5, h6⟩ := h.sep hr
  obtain ⟨y1, O1', R1', A1, B1, A1', B1', hd, hg, e1, e2⟩ := dec_loc p r.t _ h1 hl
  rw [hy] at hd
  simp only [Option.some.injEq, Prod.mk.injEq] at hd
  obtain ⟨rfl, rfl, rfl⟩ := hd
  have hO1 : ∀ c, c ∈ O1.map (·.1) → c ∈ (σ.ow n).map (·.1) := fun c hc => h4 c (by rw [e1]; exact mem_mid hc)
  have hb : b ∈ (σ.ow n).map (·.1) := h.place hr hl
  have hc1 : Chg (memo w σ.ov) (memo w' none) (σ.g n) O' R b o (Ty.list true ε).cells O1 := fun c j => by
    rcases hchg c j with g | g | g | g
    · exact .inl g
    · exact .inr (.inl g)
    · exact .inr (.inr (.inl g))
    · refine .inr (.inr (.inr ⟨fun g' => ?_, fun g' => ?_, ?_⟩))
      · exact absurd (h.lt ⟨n, h4 c g'⟩) (by omega)
      · exact absurd (h2 c g').1 (by omega)
      · cases e : σ.g n with
        | one v => trivial
        | _ =>
          rename_i b' o'
          rintro rfl
          exact absurd (h.lt ⟨n, h5 _ _ e⟩) (by omega)
  obtain ⟨A, B', R', e3, h7, h8⟩ := repl p r.t (σ.g n) h1 hl hy hy' h3 hc1
  -- what other roots own, and what is shared, is as it was
  have hother : ∀ c j, c ∉ (σ.ow n).map (·.1) → c < w.heap.size → memo w' none c j = memo w σ.ov c j := fun c j hc hlt => by
    rcases hchg c j with g | ⟨rfl, -⟩ | g | g
    · exact g
    · exact absurd hb hc
    · exact absurd (hO1 c g) hc
    · omega
  have hoth : ∀ m, m ≠ n → ∀ c j, c ∈ (σ.ow m).map (·.1) → memo w' none c j = memo w σ.ov c j := fun m hm c j hc =>
    hother c j (h.disj m n hm c hc) (h.lt ⟨m, hc⟩)
  have hshm : ∀ c j, Shr B w σ c → memo w' none c j = memo w σ.ov c j := fun c j hc => hother c j (fun g => hc.2.2 ⟨n, g⟩) hc.1
  -- the new ownership
  let on : Owns := match r.bx with | true => (match σ.g n with | .at b0 _ => [(b0, r.t.cells)] | _ => []) ++ (A ++ (O2 ++ B')) | false => A ++ (O2 ++ B')
  let ow' : Nat → Owns := fun m => if m = n then on else if m = m0 then [] else σ.ow m
  have hon : ow' n = on := by simp [ow']
  have hom : ∀ m, m ≠ n → m ≠ m0 → ow' m = σ.ow m := fun m hm hm' => by simp [ow', hm, hm']
  have hom0 : ow' m0 = [] := by simp [ow', hne0]
  have hon1 : ∀ c, c ∈ on.map (·.1) → c ∈ (σ.ow n).map (·.1) ∨ c ∈ O2.map (·.1) := by
    intro c hc
    have key : c ∈ (A ++ (O2 ++ B')).map (·.1) → c ∈ (σ.ow n).map (·.1) ∨ c ∈ O2.map (·.1) := by
      intro hc
      simp only [List.map_append, List.mem_append] at hc
      rcases hc with hc | hc | hc
      · exact .inl (h4 c (by rw [e3]; simp only [List.map_append, List.mem_append]; exact .inl hc))
      · exact .inr hc
      · exact .inl (h4 c (by rw [e3]; simp only [List.map_append, List.mem_append]; exact .inr (.inr hc)))
    rcases h6 with ⟨hbx, b0, hs, ho⟩ | ⟨hbx, -, -, ho⟩
    · simp only [on, hbx, hs, List.map_append, List.mem_append, List.map_cons, List.map_nil, List.mem_cons, List.not_mem_nil, or_false] at hc
      rcases hc with rfl | hc
      · exact .inl (by rw [ho]; simp)
      · exact key (by simpa only [List.map_append, List.mem_append] using hc)
    · simp only [on, hbx] at hc
      exact key hc
  have hOwned : ∀ c, (∃ m, c ∈ (ow' m).map (·.1)) → Owned σ c := by
    rintro c ⟨m, hm⟩
    by_cases e : m = n
    · subst e
      rw [hon] at hm
      rcases hon1 c hm with g | g
      · exact ⟨m, g⟩
      · exact ⟨m0, hO2 c g⟩
    · by_cases e' : m = m0
      · rw [e', hom0] at hm; simp at hm
      · rw [hom m e e'] at hm
        exact ⟨m, hm⟩
  have hsh : ∀ c, Shr B w σ c → Shr B w' ⟨σ.g, ow', none⟩ c := fun c ⟨g1, g2, g3⟩ => ⟨Nat.lt_of_lt_of_le g1 hsz, g2, fun g4 => g3 (hOwned c g4)⟩
  have hshR2 : ∀ c ∈ R2, Shr B w' ⟨σ.g, ow', none⟩ c := fun c hc => hsh c (i2 c hc)
  -- places
  have hplace : ∀ m q rm tq s, Γ.rt m = some rm → loc (memo w σ.ov) rm.t (σ.g m) q = some (tq, s) → (m = n → ∀ rest, q = p ++ rest → rest = [] ∨ (Ty.list true ε).sh = (Ty.list true ε)) →
      loc (memo w' none) rm.t (σ.g m) q = some (tq, s) ∧ ∀ e, tq = .list true e → (m = n → ∀ rest, q = p ++ rest → (Ty.list true ε).sh = (Ty.list true ε)) → s.rd (memo w' none) 0 = s.rd (memo w σ.ov) 0 := by
    intro m q rm tq s hrm hlq hq
    by_cases e : m = n
    · subst e
      rw [hr] at hrm
      simp only [Option.some.injEq] at hrm
      subst hrm
      have := loc_chg p q r.t (σ.g m) h1 hl hy h3 hc1 (hq rfl) hlq
      refine ⟨this.1, fun e ht hne => this.2 e s (by rw [ht]) (fun rest he => ?_)⟩
      have hp := hne rfl rest he
      subst he
      rw [loc_append p rest r.t _ hl] at hlq
      have := loc_sub_pure rest (Ty.list true ε) _ hp hlq
      rw [ht] at this
      simp [Ty.sh] at this
    · obtain ⟨Om, Rm, g1, g2, g3, g4, g5, -⟩ := h.sep hrm
      have hcell : ∀ j, j < rm.t.cells → (σ.g m).rd (memo w' none) j = (σ.g m).rd (memo w σ.ov) j := fun j _ => by
        cases es : σ.g m with
        | one v => rfl
        | _ => rename_i b' o'; exact hoth m e b' _ (g5 _ _ es)
      refine ⟨loc_frame q rm.t _ g1 hlq hcell (fun c j hc => hoth m e c j (g4 c hc)), fun e' ht _ => ?_⟩
      rw [ht] at hlq
      exact hdr_frame g1 hlq hcell (fun c j hc => hoth m e c j (g4 c hc))
  have hkeep : ∀ a v, AVOk (memo w σ.ov) σ.g Γ.rt (Shr B w σ) a v → AVOk (memo w' none) σ.g (fun j => bif j == n then some ⟨r.bx, r.t, setP r.t r.x p (Ty.list true ε) y'⟩ else bif j == m0 then none else Γ.rt j) (Shr B w' ⟨σ.g, ow', none⟩) (f a) v := by
    intro a v ha
    rcases hf a with g | ⟨g, hk, hk0⟩
    · rw [g]; trivial
    · rw [g]
      refine ha.frame hshm hsh fun m q rm tq s hcase hrm hlq => ?_
      have hq : m = n → ∀ rest, q = p ++ rest → rest = [] ∨ (Ty.list true ε).sh = (Ty.list true ε) := by
        intro e rest he
        rcases hcase with rfl | rfl | ⟨o', l', rfl⟩
        · exact hk e rest he
        · exact .inr (hk e rest he)
        · exact .inr (hk e rest he)
      have hp := hplace m q rm tq s hrm hlq hq
      refine ⟨if m = n then ⟨r.bx, r.t, setP r.t r.x p (Ty.list true ε) y'⟩ else rm, ?_, ?_, ?_⟩
      · by_cases e : m = n
        · simp [e]
        · have e' : (m == n) = false := by simpa using e
          have e0 : (m == m0) = false := by simpa using hk0 m q hcase
          simp [e, e', e0, hrm]
      · by_cases e : m = n
        · subst e
          rw [hr] at hrm
          simp only [Option.some.injEq] at hrm
          subst hrm
          simpa using hp.1
        · simpa [e] using hp.1
      · intro u hne hu
        rcases hcase with rfl | rfl | ⟨o', l', rfl⟩
        · exact absurd rfl hne
        · obtain ⟨r0, e0, s0, k1, k2, k3⟩ := ha
          rw [hrm] at k1
          simp only [Option.some.injEq] at k1
          subst k1
          rw [hlq] at k2
          simp only [Option.some.injEq, Prod.mk.injEq] at k2
          rw [hp.2 e0 k2.1 (fun e rest he => hk e rest he)]; exact hu
        · obtain ⟨r0, e0, s0, a0, l0, c0, k1, k2, k3⟩ := ha
          rw [hrm] at k1
          simp only [Option.some.injEq] at k1
          subst k1
          rw [hlq] at k2
          simp only [Option.some.injEq, Prod.mk.injEq] at k2
          rw [hp.2 e0 k2.1 (fun e rest he => hk e rest he)]; exact hu
  have hpins : ∀ i b, B.pin i = some b → (bif pinned + i == n then some (Root.mk r.bx r.t (setP r.t r.x p (Ty.list true ε) y')) else bif pinned + i == m0 then none else Γ.rt (pinned + i)) ≠ none → σ.g (pinned + i) = .at b 0 := fun i b hb hne => by
    refine h.pins i b hb fun e => hne ?_
    by_cases e' : pinned + i = n
    · rw [e', hr] at e; cases e
    · have e'' : (pinned + i == n) = false := by simpa using e'
      rw [e'', e]; simp
  refine ⟨ow', ?_, ?_, ?_, ?_, ?_, ?_, ?_, Nat.le_trans h.size hsz, hfr, ?_, hpins, by rw [hw']; exact h.still⟩
  · intro m rm hrm
    by_cases e : m = n
    · subst e
      simp only [AE.setRt, beq_self_eq_true, cond_true, Option.some.injEq] at hrm
      subst hrm
      refine ⟨_, R', h7, fun c hc => ?_, ?_⟩
      · rcases h8 c hc with g | g
        · exact hsh c (h2 c g)
        · exact hshR2 c g
      · rcases h6 with ⟨hbx, b0, hs, ho⟩ | ⟨hbx, hs, ht, ho⟩
        · exact .inl ⟨hbx, b0, hs, by show ow' m = _; rw [hon]; simp [on, hbx, hs]⟩
        · exact .inr ⟨hbx, hs, ht, by show ow' m = _; rw [hon]; simp [on, hbx]⟩
    · have e1 : m ≠ m0 := by
        rintro rfl
        have e' : (m == n) = false := by simpa using e
        simp [AE.setRt, e', AE.mapv] at hrm
      have hrm' : Γ.rt m = some rm := by
        have e' : (m == n) = false := by simpa using e
        have e1' : (m == m0) = false := by simpa using e1
        simpa [AE.setRt, e', e1', AE.mapv] using hrm
      obtain ⟨Om, Rm, g1, g2, g3, g4, g5, g6⟩ := h.sep hrm'
      refine ⟨Om, Rm, dec_frame rm.t g1 (fun j _ => ?_) (fun c j hc => ?_), fun c hc => hsh c (g2 c hc), ?_⟩
      · cases es : σ.g m with
        | one v => rfl
        | _ => rename_i b' o'; exact hoth m e b' _ (g5 _ _ es)
      · rcases hc with hc | hc
        · exact hoth m e c j (g4 c hc)
        · exact hshm c j (g2 c hc)
      · show (rm.bx = true ∧ ∃ b, σ.g m = .at b 0 ∧ ow' m = (b, rm.t.cells) :: Om) ∨ (rm.bx = false ∧ (∃ v, σ.g m = .one v) ∧ (∃ e, rm.t = .list true e) ∧ ow' m = Om)
        rw [hom m e e1]; exact g6
  · intro m hm
    by_cases e : m = n
    · subst e; simp [AE.setRt] at hm
    · by_cases e1 : m = m0
      · show ow' m = []
        rw [e1]; exact hom0
      · have e' : (m == n) = false := by simpa using e
        have e1' : (m == m0) = false := by simpa using e1
        show ow' m = []
        rw [hom m e e1]
        exact h.norm m (by simpa [AE.setRt, e', e1', AE.mapv] using hm)
  · intro m
    show ((ow' m).map (·.1)).Nodup
    by_cases e : m = n
    · subst e
      rw [hon]
      have hnd := h.nodup m
      have key : ((A ++ (O2 ++ B')).map (·.1)).Nodup := by
        have hO'n := h3.nodup
        rw [e3] at hO'n
        simp only [List.map_append, List.nodup_append, List.mem_append] at hO'n ⊢
        obtain ⟨k1, ⟨k2, k3, k4⟩, k5⟩ := hO'n
        refine ⟨k1, ⟨hn2, k3, fun a ha c hc e => ?_⟩, fun a ha c hc e => ?_⟩
        · subst e
          exact h.disj m m0 (Ne.symm hne0) a (h4 a (by rw [e3]; simp only [List.map_append, List.mem_append]; exact .inr (.inr hc))) (hO2 a ha)
        · subst e
          rcases hc with hc | hc
          · exact h.disj m m0 (Ne.symm hne0) a (h4 a (by rw [e3]; simp only [List.map_append, List.mem_append]; exact .inl ha)) (hO2 a hc)
          · exact k5 a ha a (.inr hc) rfl
      rcases h6 with ⟨hbx, b0, hs, ho⟩ | ⟨hbx, -, -, ho⟩
      · simp only [on, hbx, hs, List.singleton_append, List.map_cons, List.nodup_cons]
        refine ⟨fun g => ?_, key⟩
        rw [ho] at hnd
        simp only [List.map_cons, List.nodup_cons] at hnd
        simp only [List.map_append, List.mem_append] at g
        rcases g with g | g | g
        · exact hnd.1 (by rw [e3]; simp only [List.map_append, List.mem_append]; exact .inl g)
        · exact h.disj m m0 (Ne.symm hne0) b0 (by rw [ho]; simp) (hO2 b0 g)
        · exact hnd.1 (by rw [e3]; simp only [List.map_append, List.mem_append]; exact .inr (.inr g))
      · simp only [on, hbx]; exact key
    · by_cases e1 : m = m0
      · rw [e1, hom0]; simp
      · rw [hom m e e1]; exact h.nodup m
  · have one : ∀ m m', m ≠ m' → m = n → ∀ c, c ∈ (ow' m).map (·.1) → c ∉ (ow' m').map (·.1) := by
      intro m m' hmm e c hc hc'
      subst e
      by_cases e1 : m' = m0
      · rw [e1, hom0] at hc'; simp at hc'
      · rw [hon] at hc
        rw [hom m' (Ne.symm hmm) e1] at hc'
        rcases hon1 c hc with g | g
        · exact h.disj m m' hmm c g hc'
        · exact h.disj m0 m' (Ne.symm e1) c (hO2 c g) hc'
    intro m m' hmm c hc hc'
    by_cases e : m = n
    · exact one m m' hmm e c hc hc'
    · by_cases e' : m' = n
      · exact one m' m (Ne.symm hmm) e' c hc' hc
      · by_cases e1 : m = m0
        · rw [show (Gh.mk σ.g ow' none).ow m = ow' m from rfl, e1, hom0] at hc; simp at hc
        · by_cases e2 : m' = m0
          · rw [show (Gh.mk σ.g ow' none).ow m' = ow' m' from rfl, e2, hom0] at hc'; simp at hc'
          · rw [show (Gh.mk σ.g ow' none).ow m = ow' m from rfl, hom m e e1] at hc
            rw [show (Gh.mk σ.g ow' none).ow m' = ow' m' from rfl, hom m' e' e2] at hc'
            exact h.disj m m' hmm c hc hc'
  · intro m q hq
    rw [show (Gh.mk σ.g ow' none).ow m = ow' m from rfl] at hq
    by_cases e : m = n
    · subst e
      rw [hon] at hq
      have hold : q ∈ σ.ow m → Free w' q.1 q.2 := fun g => hfree _ _ (h.live m q g) ⟨m, List.mem_map_of_mem g⟩
      have key : q ∈ A ++ (O2 ++ B') → Free w' q.1 q.2 := by
        intro g
        simp only [List.mem_append] at g
        have hmem : q ∈ O' → q ∈ σ.ow m := fun g => by
          rcases h6 with ⟨-, b0, -, ho⟩ | ⟨-, -, -, ho⟩
          · rw [ho]; exact List.mem_cons_of_mem _ g
          · rw [ho]; exact g
        rcases g with g | g | g
        · exact hold (hmem (by rw [e3]; simp [g]))
        · exact hlive q g
        · exact hold (hmem (by rw [e3]; simp [g]))
      rcases h6 with ⟨hbx, b0, hs, ho⟩ | ⟨hbx, -, -, ho⟩
      · simp only [on, hbx, hs, List.singleton_append, List.mem_cons] at hq
        rcases hq with g | g
        · exact hold (by rw [ho, g]; simp)
        · exact key g
      · simp only [on, hbx] at hq; exact key hq
    · by_cases e1 : m = m0
      · rw [e1, hom0] at hq; cases hq
      · rw [hom m e e1] at hq
        exact hfree _ _ (h.live m q hq) ⟨m, List.mem_map_of_mem hq⟩
  · intro i hi
    exact (h.slots i hi).mapv hkeep
  · show PendOk _ _ _ Γ.pd none
    rw [hpd]; trivial
  · rintro c ⟨m, hm⟩
    exact h.mine c (hOwned c ⟨m, hm⟩)

end Go.Ab

/- Operations: store. Conditions: as each lemma states. -/
namespace Go.Ab

section
variable {P : Program} {B : Base} {N : Nat} {ρ : Type} {Γ : AE} {a : Act} {w : World} {σ : Gh}

theorem run_store1 {τ : Ty} {t : TypeId} {A : Option Addr} {n c b o k : Nat} (ht : tyOk P τ (.inl t) = true) (h1 : τ.cells = 1) (hf : Free w b k) (hk : o + 1 ≤ k) :
    (Instr.storeAt t (.pointer (some ⟨b, o, none⟩)) (.slice A n c)).run P w = .ok () (w.setCell ⟨b, o, none⟩ (.slice A n c)) := by
  obtain ⟨I⟩ := baseOk_info (tyOk_base ht)
  have hcs : (Value.slice A n c).cells = #[Value.slice A n c] := rfl
  have := run_storeCells_cells (P := P) b o [Value.slice A n c] 0 w (fun j hj => (hf.cell (o := o + 0 + j) (by simp at hj; omega)).1) (fun j hj => (hf.cell (o := o + 0 + j) (by simp at hj; omega)).2) (fun u hu => by
    simp only [List.mem_singleton] at hu
    subst hu; rfl)
  have hsz : (Value.slice A n c).cells.size = τ.cells := by rw [hcs, h1]; rfl
  simp only [Instr.storeAt, Instr.sureAddr, storeVar, Sem.run_bind, Sem.run_pure, Result.andThen_ok, I.sizeOf, hsz, ne_eq, not_true_eq_false, if_false]
  rw [hcs]
  simp only [Nat.add_zero] at this
  exact this

theorem setCell_memo {b o k : Nat} (hf : Free w b k) (hk : o < k) (v : Value) (c j : Nat) : memo (w.setCell ⟨b, o, none⟩ v) none c j = if c = b ∧ j = o then some v else memo w none c j := by
  simp only [memo]
  by_cases e1 : c = b ∧ j = o
  · obtain ⟨rfl, rfl⟩ := e1
    obtain ⟨u, hu⟩ := Option.isSome_iff_exists.1 (hf.cell hk).1
    rw [World.cell?_setCell_same _ _ _ hu]
    simp
  · rw [if_neg e1, World.cell?_setCell_other]
    intro e'
    simp only [Addr.mk.injEq, and_true] at e'
    exact e1 ⟨e'.1.symm, e'.2.symm⟩

theorem mapv_id (Γ : AE) : Γ.mapv id = Γ := by
  have : ∀ s : SV, s.mapv id = s := fun s => by cases s <;> simp [SV.mapv]
  simp only [AE.mapv, this]

theorem Does.skip {o : Oper} {K : AE → Rs ρ} {z : ρ} {w' : World} {Γ' : AE} {σ' : Gh} (hN : a.tmps.size = N) (hrun : (execOp a.eval o).run P w = .ok .skip w') (h : Rel B Γ' N (tmOf a) w' σ') (hK : K (Γ'.setD o.dst .dead) = some z) : Does P B N o a w K z := by
  cases hd : o.dst with
  | none => exact ⟨undef, w', Γ', σ', .inr ⟨hrun, rfl⟩, by rw [hd]; exact h, by rw [hd] at hK; exact hK⟩
  | some d => exact ⟨undef, w', Γ'.set d .dead, σ', .inr ⟨hrun, rfl⟩, by rw [hd]; exact h.putd hN (fun _ => trivial), by rw [hd] at hK; exact hK⟩

theorem isList_cells {t : Ty} (h : t.isList = true) : t.cells = 1 := by cases t <;> first | rfl | cases h

theorem pathEq_eq : ∀ (p q : Path), pathEq p q = true → p = q
  | [], [], _ => rfl
  | .fst :: p, .fst :: q, h => by rw [pathEq_eq p q h]
  | .snd :: p, .snd :: q, h => by rw [pathEq_eq p q h]
  | .idx i :: p, .idx j :: q, h => by
    simp only [pathEq, Bool.and_eq_true, beq_iff_eq] at h
    rw [h.1, pathEq_eq p q h.2]
  | [], _ :: _, h => by cases h
  | .fst :: _, [], h => by cases h
  | .fst :: _, .snd :: _, h => by cases h
  | .fst :: _, .idx _ :: _, h => by cases h
  | .snd :: _, [], h => by cases h
  | .snd :: _, .fst :: _, h => by cases h
  | .snd :: _, .idx _ :: _, h => by cases h
  | .idx _ :: _, [], h => by cases h
  | .idx _ :: _, .fst :: _, h => by cases h
  | .idx _ :: _, .snd :: _, h => by cases h

theorem does_store {o : Oper} {t : TypeId} {x y : Operand} {cx : Cx} {q : Bool} {K : AE → Rs ρ} {z : ρ} (hcx : CxTy P cx) (ho : o.op = .store t x y)
    (h : Rel B Γ N (tmOf a) w σ) (hN : a.tmps.size = N) (hf : fits N o = true) (hz : aop cx q o Γ K = some z) : Does P B N o a w K z := by
  have hx := h.opd (fits_op hf x (by simp [ho, Op.operands]))
  have hy := h.opd (fits_op hf y (by simp [ho, Op.operands]))
  have hz : (if q then none else match Γ.opd x with
    | .ptr n p => match cx.T t with
      | some t => Γ.stor t n p (Γ.opd y) fun Γ => K (Γ.setD o.dst .dead)
      | none => none
    | _ => none) = some z := by
    simp only [aop, ho] at hz
    exact hz
  split at hz
  · cases hz
  · split at hz
    · rename_i n p hxe
      rw [hxe] at hx
      split at hz
      · rename_i ty hT
        obtain ⟨hsh, hty⟩ := hcx.T t _ hT
        have hrunS : ∀ w', (Instr.storeAt t (a.eval x) (a.eval y)).run P w = .ok () w' → (execOp a.eval o).run P w = .ok .skip w' := fun w' hw => by simp [execOp, ho, hw]
        obtain ⟨r, t0, b, off, hr, hl, hxv⟩ := id hx
        obtain ⟨O1, R1, k1, k2, k3, k4, k5, k6⟩ := h.sep hr
        obtain ⟨y0, O', R', A1, B1, A1', B1', hd, hg, e1, e2⟩ := dec_loc p r.t _ k1 hl
        unfold AE.stor at hz
        rw [hr] at hz
        simp only at hz
        split at hz
        · rename_i e l hge
          split at hz
          · rename_i hlist
            have ht0 : t0 = .list true e := by
              have := hg.symm.trans hge
              exact congrArg Sigma.fst this
            subst ht0
            have hroom := h.room hr hl
            have hbown : Owned σ b := ⟨n, h.place hr hl⟩
            split at hz
            · -- nil
              rename_i hye
              rw [hye] at hy
              have hy : a.eval y = .slice none 0 0 := hy
              split at hz
              · cases hz
              · rename_i r2 hlk
                obtain ⟨hpd, -⟩ := look_some hlk
                have hov := h.ov_none hpd
                have hrun := run_store1 (A := none) (n := 0) (c := 0) hty (isList_cells hlist) hroom (o := off) (Nat.le_refl _)
                rw [← hxv, ← hy] at hrun
                have hm := setCell_memo (v := a.eval y) hroom (o := off) (Nat.lt_succ_self _)
                obtain ⟨ow', -, hrel⟩ := h.chg hr hl hd (w' := w.setCell ⟨b, off, none⟩ (a.eval y)) (ov' := σ.ov) (pd' := Γ.pd) (y' := ([] : List e.den)) (O2 := []) (R2 := []) (.same (by simp [hpd])) (by
                    rw [hov]
                    show decL _ true e.cells _ (memo _ none b (off + 0)) = _
                    rw [hm, if_pos ⟨rfl, rfl⟩, hy]; rfl) (fun c j => by
                    rw [hov, hm]
                    by_cases e1 : c = b ∧ j = off
                    · exact .inr (.inl ⟨e1.1, by omega, by simp only [Ty.cells]; omega⟩)
                    · exact .inl (by rw [if_neg e1])) (by simp) (by simp) (by simp) (fun c k hf _ => hf.setCell _ _) (by simp) (fun c hc hF => by
                    rw [heap_setCell, if_neg]
                    · exact h.frame c hc hF
                    · rintro rfl
                      rcases h.mine _ hbown with g | g
                      · exact hF g
                      · omega) (by simp) (f := AV.kill n p) (fun av => kill_keeps n p _ av)
                exact Does.skip hN (hrunS _ hrun) hrel hz
            · -- a slice that a slot holds
              rename_i m p' hye
              rw [hye] at hy
              rcases bif_some hz with ⟨hc, hz1⟩ | ⟨-, hz1⟩ <;> clear hz
              · simp only [Bool.and_eq_true, beq_iff_eq] at hc
                obtain ⟨rfl, hc⟩ := hc
                have hpp := pathEq_eq _ _ hc
                subst hpp
                split at hz1
                · rename_i m2 p2 d2 hpd
                  rcases bif_some hz1 with ⟨hc2, hz2⟩ | ⟨-, hz2⟩ <;> clear hz1
                  · simp only [Bool.and_eq_true, beq_iff_eq] at hc2
                    obtain ⟨rfl, hc2⟩ := hc2
                    have hpp := pathEq_eq _ _ hc2
                    subst hpp
                    have hp := h.pend
                    rw [hpd] at hp
                    cases hov : σ.ov with
                    | none => rw [hov] at hp; exact hp.elim
                    | some ov =>
                      obtain ⟨b2, o2, v2⟩ := ov
                      rw [hov] at hp
                      obtain ⟨r2, e2, q1, q2⟩ := hp
                      rw [hr] at q1
                      simp only [Option.some.injEq] at q1
                      subst q1
                      rw [← hov, hl] at q2
                      simp only [Option.some.injEq, Prod.mk.injEq, Src.at.injEq] at q2
                      obtain ⟨-, rfl, rfl⟩ := q2
                      obtain ⟨r3, e3, s3, q3, q4, q5⟩ := hy
                      rw [hr] at q3
                      simp only [Option.some.injEq] at q3
                      subst q3
                      rw [hl] at q4
                      simp only [Option.some.injEq, Prod.mk.injEq] at q4
                      obtain ⟨-, rfl⟩ := q4
                      have hv : v2 = a.eval y := by
                        rw [hov] at q5
                        simpa [Src.rd, memo] using q5
                      have hsl : ∃ A n' c', a.eval y = .slice A n' c' := by
                        rcases dec_own hd with ⟨g, -⟩ | ⟨A, n', c', os, g, -⟩
                        · rw [q5] at g
                          exact ⟨_, _, _, Option.some.inj g⟩
                        · rw [q5] at g
                          exact ⟨_, _, _, Option.some.inj g⟩
                      obtain ⟨A, n', c', hsl⟩ := hsl
                      have hrun := run_store1 (A := A) (n := n') (c := c') hty (isList_cells hlist) hroom (o := off) (Nat.le_refl _)
                      rw [← hxv, ← hsl, ← hv] at hrun
                      have := h.done hpd hov
                      refine Does.skip hN (hrunS _ ?_) this hz2
                      rw [← hv]; exact hrun
                  · cases hz2
                · cases hz1
              · split at hz1
                · rename_i r2 e' l' hl1 hl2
                  split at hz1
                  · rename_i hee
                    subst hee
                    rcases bif_some hz1 with ⟨-, hz2⟩ | ⟨hmn, hz2⟩ <;> clear hz1
                    · cases hz2
                    · have hmn : m ≠ n := by simpa using hmn
                      obtain ⟨hpd, hrm⟩ := look_some hl2
                      obtain ⟨r3, e3, s3, q3, q4, q5⟩ := hy
                      rw [hrm] at q3
                      simp only [Option.some.injEq] at q3
                      subst q3
                      simp only [loc, locQ, Option.some.injEq, Prod.mk.injEq] at q4
                      obtain ⟨q4, rfl⟩ := q4
                      obtain ⟨O3, R3, i1, -, -, -, -, i6⟩ := h.sep hrm
                      have hg0 : σ.g m = .one (a.eval y) := by
                        rcases i6 with ⟨hbx, -⟩ | ⟨-, ⟨v, hs⟩, -⟩
                        · cases hbx
                        · rw [hs] at q5 ⊢
                          simp only [Src.rd, if_true, Option.some.injEq] at q5
                          rw [q5]
                      have hsl : ∃ A n' c', a.eval y = .slice A n' c' := by
                        rcases dec_own i1 with ⟨g, -⟩ | ⟨A, n', c', os, g, -⟩
                        · rw [q5] at g
                          exact ⟨_, _, _, Option.some.inj g⟩
                        · rw [q5] at g
                          exact ⟨_, _, _, Option.some.inj g⟩
                      obtain ⟨A, n', c', hsl⟩ := hsl
                      have hrun := run_store1 (A := A) (n := n') (c := c') hty (isList_cells hlist) hroom (o := off) (Nat.le_refl _)
                      rw [← hxv, ← hsl] at hrun
                      obtain ⟨ow', hrel⟩ := h.move hr hl hd hrm hg0 hmn hpd (f := fun av => AV.drop m (AV.kill n p av)) (fun av => by
                        rcases kill_keeps n p (.list true e') av with g | ⟨g, g2⟩
                        · left; rw [g]; rfl
                        · rw [g]
                          cases av with
                          | ptr m2 q2 =>
                            simp only [AV.drop]
                            by_cases hm : m2 = m
                            · left; simp [hm]
                            · have : (m2 == m) = false := by simpa using hm
                              refine .inr ⟨by simp [this], g2, fun k q hh => ?_⟩
                              rcases hh with hh | hh | ⟨_, _, hh⟩ <;> cases hh
                              exact hm
                          | sref m2 q2 =>
                            simp only [AV.drop]
                            by_cases hm : m2 = m
                            · left; simp [hm]
                            · have : (m2 == m) = false := by simpa using hm
                              refine .inr ⟨by simp [this], g2, fun k q hh => ?_⟩
                              rcases hh with hh | hh | ⟨_, _, hh⟩ <;> cases hh
                              exact hm
                          | swin m2 q2 o2 k2 =>
                            simp only [AV.drop]
                            by_cases hm : m2 = m
                            · left; simp [hm]
                            · have : (m2 == m) = false := by simpa using hm
                              refine .inr ⟨by simp [this], g2, fun k q hh => ?_⟩
                              rcases hh with hh | hh | ⟨_, _, hh⟩ <;> cases hh
                              exact hm
                          | _ => exact .inr ⟨rfl, g2, fun k q hh => by rcases hh with hh | hh | ⟨_, _, hh⟩ <;> cases hh⟩)
                      have hmm : (Γ.mapv (AV.kill n p)).mapv (AV.drop m) = Γ.mapv fun av => AV.drop m (AV.kill n p av) := by
                        have : ∀ s : SV, (s.mapv (AV.kill n p)).mapv (AV.drop m) = s.mapv fun av => AV.drop m (AV.kill n p av) := fun s => by
                          cases s <;> simp [SV.mapv]
                        simp only [AE.mapv, this]
                      rw [hmm] at hz2
                      exact Does.skip hN (hrunS _ hrun) hrel hz2
                  · cases hz1
                · cases hz1
            · cases hz
          · cases hz
        · rename_i t1 y1 hnl hge
          split at hz
          · rename_i hpt
            obtain ⟨hpure, rfl⟩ := hpt
            obtain ⟨yv, Γ1, σ1, hz, h1, hv, hev, -⟩ := h.asV (.inl hy) hz
            split at hz
            · rename_i r1 hlk
              obtain ⟨hpd, hr1⟩ := look_some hlk
              have hov := h1.ov_none hpd
              split at hz
              · rename_i hgt
                have hx1 : AVOk (memo w σ1.ov) σ1.g Γ1.rt (Shr B w σ1) (.ptr n p) (a.eval x) := by
                  rcases hev.live (.inl hx) with g | ⟨k, q, g1, g2⟩
                  · exact g
                  · rcases g1 with g1 | g1 | ⟨_, _, g1⟩ <;> cases g1
                    rw [hr1] at g2; cases g2
                obtain ⟨r3, t3, b3, o3, q1, q2, q3⟩ := hx1
                rw [hr1] at q1
                simp only [Option.some.injEq] at q1
                subst q1
                obtain ⟨O4, R4, j1, j2, j3, j4, j5, j6⟩ := h1.sep hr1
                obtain ⟨y4, O5, R5, A5, B5, A5', B5', hd5, hg5, -, -⟩ := dec_loc p r1.t _ j1 q2
                have ht3 : t3 = t1 := by
                  rw [hg5] at hgt; exact hgt
                subst ht3
                have hO5 := dec_pure hpure hd5
                subst hO5
                have hroom := h1.room hr1 q2
                have hbown : Owned σ1 b3 := ⟨n, h1.place hr1 q2⟩
                have hrun := run_storeAt hty hv hroom (o := o3) (Nat.le_refl _)
                rw [← q3] at hrun
                obtain ⟨hvs, -⟩ := hv.cells
                obtain ⟨-, -, R6, hv3, hv4⟩ := id hv
                have hvl : (a.eval y).cells.toList.length = t3.cells := by simpa using hvs
                have hm : ∀ c j, memo (w.setCells b3 o3 (a.eval y).cells.toList) none c j = if c = b3 ∧ o3 ≤ j ∧ j < o3 + t3.cells then (a.eval y).cells.toList[j - o3]? else memo w none c j := fun c j => by
                  have := cell_setCells b3 (a.eval y).cells.toList o3 w _ hroom (by omega) c j
                  rw [hvl] at this
                  exact this
                obtain ⟨ow', -, hrel⟩ := h1.chg hr1 q2 hd5 (w' := w.setCells b3 o3 (a.eval y).cells.toList) (ov' := σ1.ov) (pd' := Γ1.pd) (y' := yv) (O2 := []) (R2 := R6) (.same (by simp [hpd])) (by
                    rw [hov]
                    refine dec_frame t3 hv3 (fun j hj => ?_) (fun c j hc => ?_)
                    · show memo _ none b3 (o3 + j) = _
                      rw [hm, if_pos ⟨rfl, by omega, by omega⟩, Nat.add_sub_cancel_left]; simp
                    · rcases hc with hc | hc
                      · simp at hc
                      · rw [hm, if_neg, hov]
                        rintro ⟨rfl, -⟩
                        exact (hv4 c hc).2.2 hbown) (fun c j => by
                    rw [hov, hm]
                    by_cases e1 : c = b3 ∧ o3 ≤ j ∧ j < o3 + t3.cells
                    · exact .inr (.inl e1)
                    · exact .inl (by rw [if_neg e1])) (by simp) (by simp) (by simp) (fun c k hf _ => hf.setCells _ _ _) (by rw [size_setCells]; exact Nat.le_refl _) (fun c hc hF => by
                    rw [heap_setCells_other]
                    · exact h1.frame c hc hF
                    · rintro rfl
                      rcases h1.mine _ hbown with g | g
                      · exact hF g
                      · omega) (fun c hc => ⟨by rw [size_setCells]; exact (hv4 c hc).1, (hv4 c hc).2.1, (hv4 c hc).2.2, by simp⟩) (f := id) (fun av => .inr ⟨rfl, pure_keeps n p hpure av⟩) (hio := ioOf_setCells _ _ _ _)
                rw [mapv_id] at hrel
                exact Does.skip hN (hrunS _ hrun) hrel hz
              · cases hz
            · cases hz
          · cases hz
      · cases hz
    · cases hz

end
end Go.Ab

/- All operations that are no calls of the program's functions. Conditions: as each lemma states. -/
namespace Go.Ab

section
variable {P : Program} {B : Base} {N : Nat} {ρ : Type} {Γ : AE} {a : Act} {w : World} {σ : Gh}

theorem aop_sound {o : Oper} {cx : Cx} {q : Bool} {K : AE → Rs ρ} {z : ρ} (hcx : CxTy P cx) (hnc : ∀ c v, o.op = .call c → c.callee ≠ .value v)
    (h : Rel B Γ N (tmOf a) w σ) (hN : a.tmps.size = N) (hf : fits N o = true) (hz : aop cx q o Γ K = some z) : Does P B N o a w K z := by
  cases hd : o.dst with
  | none =>
    cases ho : o.op
    case store t x y => exact does_store hcx ho h hN hf hz
    case call c =>
      cases hc : c.callee with
      | value v => exact absurd hc (hnc c v ho)
      | builtin b => simp only [aop, ho, hd, hc] at hz; cases hz
      | invoke r n => simp only [aop, ho, hd, hc] at hz; cases hz
    all_goals (simp only [aop, ho, hd] at hz; cases hz)
  | some d =>
    cases ho : o.op
    case store t x y => exact does_store hcx ho h hN hf hz
    case call c =>
      cases hc : c.callee with
      | value v => exact absurd hc (hnc c v ho)
      | builtin b =>
        cases b
        case len => exact does_len hcx ho hc hd h hN hf hz
        case max => exact does_max ho hc hd h hN hf hz
        case min => exact does_min ho hc hd h hN hf hz
        case append => exact does_append hcx ho hc hd h hN hf hz
        all_goals (simp only [aop, ho, hd, hc] at hz; unfold AE.blt at hz; first | (cases hz; done) | (split at hz <;> first | (cases hz; done) | (rename_i h1; cases h1; done) | (rename_i h1 _; cases h1; done)))
      | invoke r n => simp only [aop, ho, hd, hc] at hz; cases hz
    case move x => exact does_move ho hd h hN hf hz
    case assign x => exact does_assign ho hd h hN hf hz
    case pick x y u => exact does_pick ho hd h hN hf hz
    case alloc t => exact does_alloc hcx ho hd h hN hz
    case box t x => exact does_box ho hd h hN hf hz
    case build t x => exact does_build hcx ho hd h hN hf hz
    case buildSlice t n x => exact does_buildSlice hcx ho hd h hN hf hz
    case load t x => exact does_load hcx ho hd h hN hf hz
    case nilCheck x => exact does_nilCheck ho hd h hN hf hz
    case binOp op t x y s => exact does_binOp hcx ho hd h hN hf hz
    case unOp op t x => exact does_unOp ho hd h hN hf hz
    case convert s t x => exact does_convert hcx ho hd h hN hf hz
    case makeSlice t x y => exact does_makeSlice hcx ho hd h hN hf hz
    case slice t x u v m => exact does_slice hcx ho hd h hN hf hz
    case fieldAddr s x f => exact does_fieldAddr hcx ho hd h hN hf hz
    case field s x f => exact does_field hcx ho hd h hN hf hz
    case indexAddr t x i => exact does_indexAddr hcx ho hd h hN hf hz
    case index t x i => exact does_index hcx ho hd h hN hf hz
    case extract x i =>
      cases x with
      | tmp t => exact does_extract ho hd h hN hf hz
      | _ => simp only [aop, ho, hd] at hz; cases hz
    all_goals (simp only [aop, ho, hd] at hz; cases hz)

end
end Go.Ab
