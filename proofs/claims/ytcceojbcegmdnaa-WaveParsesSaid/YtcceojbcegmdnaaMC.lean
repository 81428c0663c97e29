import Derived.Tactics
import Derived.Deep.LoopGhost
import Derived.Test.YtcceojbcegmdnaaMB
/- A call's work comes home: some roots are another's work, all else is as it was. Conditions: as each lemma states. -/
namespace Go.Ab

def cells (w : World) : Mem := fun b o => w.cell? ⟨b, o, none⟩

theorem memo_none (w : World) : memo w none = cells w := rfl

/-- A root with where it lies and what it owns. -/
structure Ent1 where
  r : Root
  s : Src
  O : Owns

def merged (Γ : AE) (f : AV → AV) (E : Nat → Option Ent1) : AE :=
  ⟨(Γ.mapv f).sl, fun n => match E n with | some e => some e.r | none => Γ.rt n, none⟩

def mergedG (σ : Gh) (E : Nat → Option Ent1) : Gh :=
  ⟨fun n => match E n with | some e => e.s | none => σ.g n, fun n => match E n with | some e => e.O | none => σ.ow n, none⟩

theorem merged_rt_none {Γ f E n} (h : E n = none) : (merged Γ f E).rt n = Γ.rt n := by simp [merged, h]
theorem merged_rt_some {Γ f E n e} (h : E n = some e) : (merged Γ f E).rt n = some e.r := by simp [merged, h]
theorem mergedG_g_none {σ E n} (h : E n = none) : (mergedG σ E).g n = σ.g n := by simp [mergedG, h]
theorem mergedG_g_some {σ E n e} (h : E n = some e) : (mergedG σ E).g n = e.s := by simp [mergedG, h]
theorem mergedG_ow_none {σ E n} (h : E n = none) : (mergedG σ E).ow n = σ.ow n := by simp [mergedG, h]
theorem mergedG_ow_some {σ E n e} (h : E n = some e) : (mergedG σ E).ow n = e.O := by simp [mergedG, h]

structure Work (w w' : World) (σ : Gh) (F' : Nat → Prop) (E : Nat → Option Ent1) : Prop where
  own : ∀ c, F' c → ∃ n e, E n = some e ∧ c ∈ (σ.ow n).map (·.1)
  size : w.heap.size ≤ w'.heap.size
  same : ∀ b, b < w.heap.size → ¬ F' b → w'.heap[b]? = w.heap[b]?
  mine : ∀ n e c, E n = some e → c ∈ e.O.map (·.1) → F' c ∨ w.heap.size ≤ c
  nodup : ∀ n e, E n = some e → (e.O.map (·.1)).Nodup
  disj : ∀ n e n' e', E n = some e → E n' = some e' → n ≠ n' → ∀ c, c ∈ e.O.map (·.1) → c ∉ e'.O.map (·.1)
  live : ∀ n e p, E n = some e → p ∈ e.O → Free w' p.1 p.2
  still : ioOf w' = ioOf w

theorem Rel.merge {B Γ N tm w σ} (h : Rel B Γ N tm w σ) (hov : σ.ov = none) {w' : World} {F' : Nat → Prop} {E : Nat → Option Ent1} (W : Work w w' σ F' E)
    (hroot : ∀ n e, E n = some e → RootOk (cells w') (fun c => c < w'.heap.size ∧ (Shr B w σ c ∨ F' c ∨ w.heap.size ≤ c) ∧ ∀ n e, E n = some e → c ∉ e.O.map (·.1)) e.r e.s e.O)
    (hpin : ∀ i b e, B.pin i = some b → E (pinned + i) = some e → e.s = .at b 0) {f : AV → AV}
    (hf : ∀ a v, AVOk (memo w σ.ov) σ.g Γ.rt (Shr B w σ) a v → f a = .dead ∨ (f a = a ∧ ∀ k q, (a = .ptr k q ∨ a = .sref k q ∨ ∃ o l, a = .swin k q o l) → E k = none ∨ (a = .ptr k [] ∧ ∃ e b, E k = some e ∧ e.s = .at b 0 ∧ σ.g k = .at b 0))) :
    Rel B (merged Γ f E) N tm w' (mergedG σ E) ∧
      (∀ c, c < w'.heap.size ∧ (Shr B w σ c ∨ F' c ∨ w.heap.size ≤ c) ∧ (∀ n e, E n = some e → c ∉ e.O.map (·.1)) → Shr B w' (mergedG σ E) c) := by
  have hFo : ∀ c, F' c → Owned σ c := fun c hc => by obtain ⟨n, e, -, hn⟩ := W.own c hc; exact ⟨n, hn⟩
  have hFlt : ∀ c, F' c → c < w.heap.size := fun c hc => h.lt (hFo c hc)
  -- blocks of other roots
  have hoth : ∀ n c, E n = none → c ∈ (σ.ow n).map (·.1) → ¬ F' c := fun n c hn hc hF => by
    obtain ⟨n', e', h1, h2⟩ := W.own c hF
    have hne : n ≠ n' := by rintro rfl; rw [hn] at h1; cases h1
    exact h.disj n n' hne c hc h2
  have hOw : ∀ c, Owned (mergedG σ E) c → (∃ n, E n = none ∧ c ∈ (σ.ow n).map (·.1)) ∨ ∃ n e, E n = some e ∧ c ∈ e.O.map (·.1) := by
    rintro c ⟨n, hn⟩
    cases hE : E n with
    | none => rw [mergedG_ow_none hE] at hn; exact .inl ⟨n, hE, hn⟩
    | some e => rw [mergedG_ow_some hE] at hn; exact .inr ⟨n, e, hE, hn⟩
  have hsh : ∀ c, c < w'.heap.size ∧ (Shr B w σ c ∨ F' c ∨ w.heap.size ≤ c) ∧ (∀ n e, E n = some e → c ∉ e.O.map (·.1)) → Shr B w' (mergedG σ E) c := by
    rintro c ⟨h1, h2, h3⟩
    refine ⟨h1, ?_, fun ho => ?_⟩
    · rcases h2 with h2 | h2 | h2
      · exact h2.2.1
      · exact .inr (h.mine c (hFo c h2))
      · exact .inr (.inr (Nat.le_trans h.size h2))
    · rcases hOw c ho with ⟨n, hE, hn⟩ | ⟨n, e, hE, hn⟩
      · rcases h2 with h2 | h2 | h2
        · exact h2.2.2 ⟨n, hn⟩
        · exact hoth n c hE hn h2
        · have := h.lt ⟨n, hn⟩; omega
      · exact h3 n e hE hn
  have hshO : ∀ c, Shr B w σ c → Shr B w' (mergedG σ E) c := fun c hc => hsh c ⟨Nat.lt_of_lt_of_le hc.1 W.size, .inl hc, fun n e hE hn => by
    rcases W.mine n e c hE hn with g | g
    · exact hc.2.2 (hFo c g)
    · have := hc.1; omega⟩
  have hmem : ∀ c j, c < w.heap.size → ¬ F' c → memo w' none c j = memo w σ.ov c j := fun c j hc hF => by
    rw [hov]
    exact memo_heap none (W.same c hc hF) j
  have hmemo : ∀ n c j, E n = none → c ∈ (σ.ow n).map (·.1) → memo w' none c j = memo w σ.ov c j := fun n c j hn hc => hmem c j (h.lt ⟨n, hc⟩) (hoth n c hn hc)
  have hmems : ∀ c j, Shr B w σ c → memo w' none c j = memo w σ.ov c j := fun c j hc => hmem c j hc.1 fun hF => hc.2.2 (hFo c hF)
  have hplace : ∀ n q r t s, E n = none → Γ.rt n = some r → loc (memo w σ.ov) r.t (σ.g n) q = some (t, s) → loc (memo w' none) r.t (σ.g n) q = some (t, s) ∧ s.rd (memo w' none) 0 = s.rd (memo w σ.ov) 0 := by
    intro n q r t s hE hr hl
    obtain ⟨O1, R1, l1, l2, l3, l4, l5, l6⟩ := h.sep hr
    refine ⟨loc_frame q r.t _ l1 hl (fun j _ => ?_) (fun c j hc => hmemo n c j hE (l4 c hc)), ?_⟩
    · cases es : σ.g n with
      | one v => rfl
      | _ => rename_i b o; exact hmemo n b _ hE (l5 _ _ es)
    · cases s with
      | one v => rfl
      | _ => rename_i b o; exact hmemo n b _ hE (h.place hr hl)
  refine ⟨⟨fun n r hr => ?_, fun n hn => ?_, fun n => ?_, fun n n' hne c hc hc' => ?_, fun n p hp => ?_, fun i hi => ?_, trivial, Nat.le_trans h.size W.size, fun b hb hF => ?_, fun c hc => ?_, fun i b hb hne => ?_, W.still.trans h.still⟩, hsh⟩
  · cases hE : E n with
    | none =>
      rw [merged_rt_none hE] at hr
      rw [mergedG_g_none hE, mergedG_ow_none hE]
      obtain ⟨O1, R1, l1, l2, l3, l4, l5, l6⟩ := h.sep hr
      refine ⟨O1, R1, ?_, fun c hc => hshO c (l2 c hc), l6⟩
      show dec (memo w' none) r.t ((σ.g n).rd (memo w' none)) = _
      refine dec_frame r.t l1 (fun j _ => ?_) (fun c j hc => ?_)
      · cases es : σ.g n with
        | one v => rfl
        | _ => rename_i b o; exact hmemo n b _ hE (l5 _ _ es)
      · rcases hc with hc | hc
        · exact hmemo n c j hE (l4 c hc)
        · exact hmems c j (l2 c hc)
    | some e =>
      rw [merged_rt_some hE] at hr
      rw [mergedG_g_some hE, mergedG_ow_some hE]
      simp only [Option.some.injEq] at hr
      subst hr
      exact (hroot n e hE).mono hsh
  · cases hE : E n with
    | none => rw [merged_rt_none hE] at hn; rw [mergedG_ow_none hE]; exact h.norm n hn
    | some e => rw [merged_rt_some hE] at hn; cases hn
  · cases hE : E n with
    | none => rw [mergedG_ow_none hE]; exact h.nodup n
    | some e => rw [mergedG_ow_some hE]; exact W.nodup n e hE
  · have cross : ∀ n n', E n = none → ∀ e', E n' = some e' → c ∈ (σ.ow n).map (·.1) → c ∈ e'.O.map (·.1) → False := fun n n' hE e' hE' hc hc' => by
      rcases W.mine n' e' c hE' hc' with g | g
      · exact hoth n c hE hc g
      · have := h.lt ⟨n, hc⟩; omega
    cases hE : E n with
    | none =>
      rw [mergedG_ow_none hE] at hc
      cases hE' : E n' with
      | none => rw [mergedG_ow_none hE'] at hc'; exact h.disj n n' hne c hc hc'
      | some e' => rw [mergedG_ow_some hE'] at hc'; exact cross n n' hE e' hE' hc hc'
    | some e =>
      rw [mergedG_ow_some hE] at hc
      cases hE' : E n' with
      | none => rw [mergedG_ow_none hE'] at hc'; exact cross n' n hE' e hE hc' hc
      | some e' => rw [mergedG_ow_some hE'] at hc'; exact W.disj n e n' e' hE hE' hne c hc hc'
  · cases hE : E n with
    | none =>
      rw [mergedG_ow_none hE] at hp
      obtain ⟨c, e, lo, hi, h1, h2, h3⟩ := h.live n p hp
      have hc := List.mem_map_of_mem (f := (·.1)) hp
      exact ⟨c, e, lo, hi, by rw [W.same p.1 (h.lt ⟨n, hc⟩) (hoth n p.1 hE hc)]; exact h1, h2, h3⟩
    | some e => rw [mergedG_ow_some hE] at hp; exact W.live n e p hE hp
  · refine (h.slots i hi).mapv fun a v ha => ?_
    rcases hf a v ha with g | ⟨g, hk⟩
    · rw [g]; trivial
    · rw [g]
      by_cases hz : ∃ k e b, a = .ptr k [] ∧ E k = some e ∧ e.s = .at b 0 ∧ σ.g k = .at b 0
      · obtain ⟨k, e, b, rfl, hE, hs, hg⟩ := hz
        obtain ⟨r, t, b', o, h1, h2, h3⟩ := ha
        simp only [loc, locQ, hg, Option.some.injEq, Prod.mk.injEq, Src.at.injEq] at h2
        obtain ⟨rfl, rfl, rfl⟩ := h2
        refine ⟨e.r, e.r.t, b, 0, merged_rt_some hE, ?_, h3⟩
        rw [mergedG_g_some hE, hs]; rfl
      · refine ha.frame hmems hshO fun k q r t s hcase hr hl => ?_
        have hE : E k = none := by
          rcases hk k q hcase with g | ⟨rfl, e, b, h1, h2, h3⟩
          · exact g
          · exact absurd ⟨k, e, b, rfl, h1, h2, h3⟩ hz
        have hp := hplace k q r t s hE hr hl
        refine ⟨r, by rw [merged_rt_none hE]; exact hr, by rw [mergedG_g_none hE]; exact hp.1, fun u _ hu => by rw [← hu]; exact hp.2⟩
  · rw [W.same b (Nat.lt_of_lt_of_le hb h.size) ?_]
    · exact h.frame b hb hF
    · intro g
      rcases h.mine b (hFo b g) with g | g
      · exact hF g
      · omega
  · rcases hOw c hc with ⟨n, hE, hn⟩ | ⟨n, e, hE, hn⟩
    · exact h.mine c ⟨n, hn⟩
    · rcases W.mine n e c hE hn with g | g
      · exact h.mine c (hFo c g)
      · exact .inr (Nat.le_trans h.size g)
  · cases hE : E (pinned + i) with
    | none => rw [merged_rt_none hE] at hne; rw [mergedG_g_none hE]; exact h.pins i b hb hne
    | some e => rw [mergedG_g_some hE]; exact hpin i b e hb hE

end Go.Ab

/- The arguments of a call. Conditions: as each lemma states. -/
namespace Go.Ab

structure ArgsOk (fz : Bool) (B : Base) (w : World) (Γ' : AE) (σ' : Gh) (ps : List PA) (x : (prods (ps.map PA.ty)).den) (vs : List Value) (used us : List Nat) (i0 : Nat) : Prop where
  vals : ∀ (i : Nat) (t : Ty) (y : t.den) (v : Value), (pitems ps x)[i]? = some ⟨.v t, y⟩ → vs[i]? = some v →
    VOk (memo w σ'.ov) (fun c => Shr B w σ' c ∨ (fz = false ∧ ∃ n, n ∉ used ∧ n ∉ us ∧ c ∈ (σ'.ow n).map (·.1))) t y v
  refs : ∀ (k n : Nat), us[k]? = some n → ∃ (i : Nat) (t : Ty) (y : t.den) (b : Nat), (refIdx ps i0)[k]? = some (i0 + i) ∧ (pitems ps x)[i]? = some ⟨.r t, y⟩ ∧ vs[i]? = some (.pointer (some ⟨b, 0, none⟩)) ∧
    Γ'.rt n = some ⟨true, t, y⟩ ∧ σ'.g n = .at b 0
  len : us.length = (refIdx ps i0).length
  nodup : us.Nodup
  apart : ∀ n ∈ us, n ∉ used

section
variable {ρ : Type} {B : Base} {N : Nat} {tm : Nat → Value} {w : World}

/-- One argument. -/
theorem Rel.arg {Γ : AE} {σ : Gh} (h : Rel B Γ N tm w σ) {fz q : Bool} {used seen : List Nat} {p : PA} {a : AV} {v : Value} {K : p.ty.den → AE → List Nat → List Nat → Rs ρ} {z : ρ}
    (ha : AVOk (memo w σ.ov) σ.g Γ.rt (Shr B w σ) a v ∨ Dang Γ a) (hK : Γ.arg fz q used seen p a K = some z) :
    ∃ x Γ' σ' used' seen', K x Γ' used' seen' = some z ∧ Rel B Γ' N tm w σ' ∧ Ev B w Γ σ Γ' σ' ∧ Boxes Γ σ Γ' σ' ∧ (fz = false ∨ q = true → Γ' = Γ ∧ σ' = σ) ∧ (∀ n ∈ seen, n ∈ seen') ∧
      match p, x with
      | .v t, x => used' = used ∧ VOk (memo w σ'.ov) (fun c => Shr B w σ' c ∨ (fz = false ∧ ∃ n, n ∉ used ∧ n ∈ seen' ∧ c ∈ (σ'.ow n).map (·.1))) t x v
      | .r t, x => ∃ n b, used' = n :: used ∧ n ∉ used ∧ n ∉ seen ∧ seen' = seen ∧ v = .pointer (some ⟨b, 0, none⟩) ∧ Γ'.rt n = some ⟨true, t, x⟩ ∧ σ'.g n = .at b 0 := by
  cases p with
  | v t =>
    simp only [AE.arg] at hK
    cases fz with
    | true =>
      simp only [if_true] at hK
      obtain ⟨x, Γ', σ', h1, h2, h3, h4, h5, h6⟩ := h.asVB ha hK
      exact ⟨x, Γ', σ', used, seen, h1, h2, h4, h6, fun g => h5 (g.resolve_left (by simp)), fun _ g => g, rfl, h3.frame (fun _ _ _ => rfl) (fun c hc => .inl hc)⟩
    | false =>
      simp only [Bool.false_eq_true, if_false] at hK
      obtain ⟨hv, hK⟩ : (a.viewed.any fun n => used.contains n) = false ∧ _ := by
        rcases bif_some hK with ⟨-, g⟩ | ⟨g1, g2⟩
        · cases g
        · exact ⟨g1, g2⟩
      have hvu : ∀ n ∈ a.viewed, n ∉ used := fun n hn hu => by
        have := List.any_eq_false.1 hv n hn
        simp [hu] at this
      obtain ⟨x, h1, h2⟩ := h.viewR ha hK
      exact ⟨x, Γ, σ, used, a.viewed ++ seen, h1, h, Ev.refl, Boxes.refl, fun _ => ⟨rfl, rfl⟩, fun _ g => List.mem_append_right _ g, rfl,
        h2.frame (fun _ _ _ => rfl) (fun c hc => hc.imp id fun ⟨n, hn, hc⟩ => ⟨rfl, n, hvu n hn, List.mem_append_left _ hn, hc⟩)⟩
  | r t =>
    cases a with
    | ptr n p =>
      cases p with
      | cons => simp only [AE.arg] at hK; cases hK
      | nil =>
        simp only [AE.arg] at hK
        split at hK
        · cases hK
        · rename_i hq
          simp only [Bool.or_eq_true, List.contains_iff_mem, not_or, Bool.not_eq_true] at hq
          split at hK
          · rename_i t' x hl
            obtain ⟨hpd, hr⟩ := look_some hl
            split at hK
            · rename_i ht
              subst ht
              rcases ha with ⟨r', t1, b, o, g1, g2, g3⟩ | ⟨k, q', hc, hk⟩
              · rw [hr] at g1
                simp only [Option.some.injEq] at g1
                subst g1
                obtain ⟨O', R, -, -, hc⟩ := (h.roots n _ hr).rd
                rcases hc with ⟨-, b', hs, -⟩ | ⟨hb, -⟩
                · simp only [loc, locQ, hs, Option.some.injEq, Prod.mk.injEq, Src.at.injEq] at g2
                  obtain ⟨-, rfl, rfl⟩ := g2
                  exact ⟨x, Γ, σ, n :: used, seen, hK, h, Ev.refl, Boxes.refl, fun _ => ⟨rfl, rfl⟩, fun _ g => g, n, b', rfl, hq.1.2, hq.2, rfl, g3, hr, hs⟩
                · cases hb
              · rcases hc with g | g | ⟨o, l, g⟩ <;> cases g
                rw [hr] at hk; cases hk
            · cases hK
          · cases hK
    | _ => simp only [AE.arg] at hK; cases hK

theorem refIdx_succ (ps : List PA) : ∀ i0, refIdx ps (i0 + 1) = (refIdx ps i0).map (· + 1) := by
  induction ps with
  | nil => intro i0; rfl
  | cons p ps ih => intro i0; cases p <;> simp [refIdx, ih]

theorem Rel.args : ∀ (ps : List PA) (as : List AV) (vs : List Value) {Γ : AE} {σ : Gh} (_ : Rel B Γ N tm w σ) {fz q : Bool} {used seen : List Nat} {i0 : Nat} {K : (prods (ps.map PA.ty)).den → AE → List Nat → Rs ρ} {z : ρ}
    (_ : ∀ (i : Nat) (a : AV) (v : Value), as[i]? = some a → vs[i]? = some v → AVOk (memo w σ.ov) σ.g Γ.rt (Shr B w σ) a v ∨ Dang Γ a) (_ : vs.length = as.length) (_ : Γ.args fz q used seen ps as K = some z),
    ps.length = as.length ∧ ∃ x Γ' σ' us, K x Γ' (us.reverse ++ used) = some z ∧ Rel B Γ' N tm w σ' ∧ Ev B w Γ σ Γ' σ' ∧ Boxes Γ σ Γ' σ' ∧ (fz = false ∨ q = true → Γ' = Γ ∧ σ' = σ) ∧ (∀ n ∈ seen, n ∉ us) ∧
      ArgsOk fz B w Γ' σ' ps x vs used us i0
  | [], as, vs, Γ, σ, h, fz, q, used, seen, i0, K, z, has, hlen, hK => by
    cases as with
    | nil => exact ⟨rfl, (), Γ, σ, [], hK, h, Ev.refl, Boxes.refl, fun _ => ⟨rfl, rfl⟩, by simp, ⟨fun i t y v hi => by simp [pitems] at hi, by simp, rfl, by simp, by simp⟩⟩
    | cons => simp only [AE.args] at hK; cases hK
  | [p], as, vs, Γ, σ, h, fz, q, used, seen, i0, K, z, has, hlen, hK => by
    match as, vs, hlen with
    | [a], [v], _ =>
      simp only [AE.args] at hK
      obtain ⟨x, Γ', σ', used', seen', h1, h2, h3, h4, h5, h6, h7⟩ := h.arg (has 0 a v rfl rfl) hK
      cases p with
      | v t =>
        obtain ⟨rfl, h7⟩ := h7
        refine ⟨rfl, x, Γ', σ', [], h1, h2, h3, h4, h5, by simp, ⟨fun i t' y v' hi hv => ?_, by simp, rfl, by simp, by simp⟩⟩
        cases i with
        | zero =>
          simp only [pitems, List.getElem?_cons_zero, Option.some.injEq] at hi hv
          cases hi; cases hv
          exact h7.frame (fun _ _ _ => rfl) (fun c hc => hc.imp id fun ⟨e, n, g1, g2, g3⟩ => ⟨e, n, g1, by simp, g3⟩)
        | succ i => simp [pitems] at hi
      | r t =>
        obtain ⟨n, b, rfl, g1, g2, g3, g4, g5, g6⟩ := h7
        refine ⟨rfl, x, Γ', σ', [n], h1, h2, h3, h4, h5, fun m hm => by rintro hm'; simp only [List.mem_singleton] at hm'; exact g2 (hm' ▸ hm), ⟨fun i t' y v' hi hv => ?_, fun k m hk => ?_, rfl, by simp, by simpa using g1⟩⟩
        · cases i with
          | zero => simp only [pitems, List.getElem?_cons_zero, Option.some.injEq] at hi; cases hi
          | succ i => simp [pitems] at hi
        · cases k with
          | zero =>
            simp only [List.getElem?_cons_zero, Option.some.injEq] at hk
            subst hk
            exact ⟨0, t, x, b, rfl, rfl, by rw [g4]; rfl, g5, g6⟩
          | succ k => simp at hk
    | [], _, _ => simp only [AE.args] at hK; cases hK
    | _ :: _ :: _, _, _ => simp only [AE.args] at hK; cases hK
  | p :: p' :: ps, as, vs, Γ, σ, h, fz, q, used, seen, i0, K, z, has, hlen, hK => by
    match as, vs, hlen with
    | [], _, _ => simp only [AE.args] at hK; cases hK
    | a :: as, v :: vs, hlen =>
      simp only [AE.args] at hK
      obtain ⟨x, Γ1, σ1, used1, seen1, h1, h2, h3, h4, h5, h6, h7⟩ := h.arg (has 0 a v rfl rfl) hK
      have ⟨hl, y, Γ', σ', us, k1, k2, k3, k4, k5, k6, k7⟩ := Rel.args (p' :: ps) as vs (i0 := i0 + 1) h2 (fun i a' v' hi hv => h3.live (has (i + 1) a' v' (by simpa using hi) (by simpa using hv))) (by simpa using hlen) h1
      refine ⟨by simpa using hl, ?_⟩
      have hboth : fz = false ∨ q = true → Γ' = Γ ∧ σ' = σ := fun g => ⟨(k5 g).1.trans (h5 g).1, (k5 g).2.trans (h5 g).2⟩
      cases p with
      | v t =>
        obtain ⟨rfl, h7⟩ := h7
        refine ⟨(x, y), Γ', σ', us, k1, k2, h3.trans k3, h4.trans k4, hboth, fun n hn => k6 n (h6 n hn), ⟨fun i t' y' v' hi hv => ?_, fun k n hk => ?_, k7.len, k7.nodup, k7.apart⟩⟩
        · cases i with
          | zero =>
            simp only [pitems, List.getElem?_cons_zero, Option.some.injEq] at hi hv
            cases hi; cases hv
            cases fz with
            | false =>
              obtain ⟨rfl, rfl⟩ := k5 (.inl rfl)
              exact h7.frame (fun _ _ _ => rfl) (fun c hc => hc.imp id fun ⟨e, n, g1, g2, g3⟩ => ⟨e, n, g1, k6 n g2, g3⟩)
            | true =>
              have h70 : VOk (memo w σ1.ov) (Shr B w σ1) t x v := h7.frame (fun _ _ _ => rfl) (fun c hc => hc.resolve_right (by simp))
              have h71 := k3.vok h70
              rw [k3.ov]
              rw [k3.ov] at h71
              exact h71.frame (fun _ _ _ => rfl) (fun c hc => .inl hc)
          | succ i => exact k7.vals i t' y' v' (by simpa [pitems] using hi) (by simpa using hv)
        · obtain ⟨i, t', y', b, j1, j2, j3, j4, j5⟩ := k7.refs k n hk
          exact ⟨i + 1, t', y', b, by simp only [refIdx]; rw [j1]; congr 1; omega, by simpa [pitems] using j2, by simpa using j3, j4, j5⟩
      | r t =>
        obtain ⟨n, b, rfl, g1, g2, rfl, g4, g5, g6⟩ := h7
        have hn := k4.1 n _ rfl g5
        refine ⟨(x, y), Γ', σ', n :: us, by simpa using k1, k2, h3.trans k3, h4.trans k4, hboth, fun m hm => ?_, ⟨fun i t' y' v' hi hv => ?_, fun k m hk => ?_, by simp [refIdx, k7.len], ?_, ?_⟩⟩
        · simp only [List.mem_cons, not_or]
          exact ⟨fun e => g2 (e ▸ hm), k6 m hm⟩
        · cases i with
          | zero => simp only [pitems, List.getElem?_cons_zero, Option.some.injEq] at hi; cases hi
          | succ i =>
            exact (k7.vals i t' y' v' (by simpa [pitems] using hi) (by simpa using hv)).frame (fun _ _ _ => rfl) (fun c hc => hc.imp id fun ⟨e, m, g1, g2, g3⟩ =>
              ⟨e, m, fun g => g1 (List.mem_cons_of_mem _ g), by simp only [List.mem_cons, not_or]; exact ⟨fun e => g1 (by simp [e]), g2⟩, g3⟩)
        · cases k with
          | zero =>
            simp only [List.getElem?_cons_zero, Option.some.injEq] at hk
            subst hk
            exact ⟨0, t, x, b, rfl, rfl, by rw [g4]; rfl, hn.1, hn.2.1.trans g6⟩
          | succ k =>
            obtain ⟨i, t', y', b', j1, j2, j3, j4, j5⟩ := k7.refs k m (by simpa using hk)
            exact ⟨i + 1, t', y', b', by simp only [refIdx, List.getElem?_cons_succ]; rw [j1]; congr 1; omega, by simpa [pitems] using j2, by simpa using j3, j4, j5⟩
        · simp only [List.nodup_cons]
          exact ⟨fun g => k7.apart n g (by simp), k7.nodup⟩
        · intro m hm
          rcases List.mem_cons.1 hm with rfl | hm
          · exact g1
          · exact fun g => k7.apart m hm (List.mem_cons_of_mem _ g)

end
end Go.Ab

/- What a function of the program promises; how a call keeps that. Conditions: as each lemma states. -/
namespace Go.Ab

def ItemOk (m : Mem) (Sh : Nat → Prop) : ((r : RA) × r.ty.den) → Value → Src × Owns → Prop
  | ⟨.v t, x⟩, v, L => VOk m Sh t x v ∧ L.2 = []
  | ⟨.o e, x⟩, v, L => L.1 = .one v ∧ RootOk m Sh ⟨false, .list true e, x⟩ L.1 L.2
  | ⟨.b t, x⟩, v, L => RootOk m Sh ⟨true, t, x⟩ L.1 L.2 ∧ ∃ b, L.1 = .at b 0 ∧ v = .pointer (some ⟨b, 0, none⟩)

/-- What a call hands back, and how it leaves memory. -/
structure Back (B : Base) (w' : World) (its : List ((r : RA) × r.ty.den)) (vs : List Value) (Ls : List (Src × Owns)) : Prop where
  lv : vs.length = its.length
  ll : Ls.length = its.length
  ok : ∀ (k : Nat) (it : (r : RA) × r.ty.den) (v : Value) (L : Src × Owns), its[k]? = some it → vs[k]? = some v → Ls[k]? = some L →
    ItemOk (cells w') (fun c => c < w'.heap.size ∧ (B.S c ∨ B.F c ∨ B.size ≤ c) ∧ ∀ L ∈ Ls, c ∉ L.2.map (·.1)) it v L
  nodup : ∀ L ∈ Ls, (L.2.map (·.1)).Nodup
  disj : ∀ (k k' : Nat) (L L' : Src × Owns), Ls[k]? = some L → Ls[k']? = some L' → k ≠ k' → ∀ c, c ∈ L.2.map (·.1) → c ∉ L'.2.map (·.1)
  live : ∀ L ∈ Ls, ∀ p ∈ L.2, Free w' p.1 p.2
  mine : ∀ L ∈ Ls, ∀ c ∈ L.2.map (·.1), B.F c ∨ B.size ≤ c
  size : B.size ≤ w'.heap.size
  frame : ∀ b, b < B.size → ¬ B.F b → w'.heap[b]? = B.hp b
  still : ioOf w' = B.io

def packV : List Value → Value
  | [v] => v
  | vs => .tuple vs.toArray

def FSound (P : Program) (f : FuncId) (s : FSem) : Prop :=
  ∀ (w : World) (B : Base) (σ : Gh) (args : Array Value) x y, s.F x = some y → B.size = w.heap.size → (∀ b, B.hp b = w.heap[b]?) → σ.ov = none → args.size = s.ps.length →
    Rel B (ini s.ps x) s.ps.length (fun i => args.getD i undef) w σ → (∀ i ∈ refIdx s.ps 0, ∃ b, B.pin i = some b ∧ args.getD i undef = .pointer (some ⟨b, 0, none⟩)) →
    Calls P f args w fun e w' => ∃ vr Ls, e = .returned (packV vr) ∧ vr.length = s.rs.length ∧ Back B w' (items (RA.all s.ps s.rs) y) (vr ++ (refIdx s.ps 0).map fun i => args.getD i undef) Ls

/-- A function that has a body in Go. -/
def Bodied (P : Program) (f : FuncId) : Prop := ∃ fn c, P.funcs[f]? = some fn ∧ fn.body = some c ∧ (fn.name == "runtime.NumGoroutine") = false

/-! Lists of items -/

theorem items_length : ∀ (rs : List RA) (x : (prods (rs.map RA.ty)).den), (items rs x).length = rs.length
  | [], _ => rfl
  | [_], _ => rfl
  | _ :: r' :: rs, x => by simp only [items, List.length_cons]; rw [items_length (r' :: rs) x.2]; rfl

theorem items_fst : ∀ (rs : List RA) (x : (prods (rs.map RA.ty)).den) (k : Nat) it, (items rs x)[k]? = some it → rs[k]? = some it.1
  | [], _, k, it, h => by simp [items] at h
  | [r], x, 0, it, h => by simp only [items, List.getElem?_cons_zero, Option.some.injEq] at h; rw [← h]; rfl
  | [r], x, k + 1, it, h => by simp [items] at h
  | r :: r' :: rs, x, 0, it, h => by simp only [items, List.getElem?_cons_zero, Option.some.injEq] at h; rw [← h]; rfl
  | r :: r' :: rs, x, k + 1, it, h => by simpa using items_fst (r' :: rs) x.2 k it (by simpa [items] using h)

theorem pitems_length : ∀ (ps : List PA) (x : (prods (ps.map PA.ty)).den), (pitems ps x).length = ps.length
  | [], _ => rfl
  | [_], _ => rfl
  | _ :: p' :: ps, x => by simp only [pitems, List.length_cons]; rw [pitems_length (p' :: ps) x.2]; rfl

theorem pitems_ref : ∀ (ps : List PA) (x : (prods (ps.map PA.ty)).den) (i0 i : Nat) t y, (pitems ps x)[i]? = some ⟨.r t, y⟩ → ∃ k : Nat, (refIdx ps i0)[k]? = some (i0 + i)
  | [], _, _, i, t, y, h => by simp [pitems] at h
  | [p], x, i0, 0, t, y, h => by
    simp only [pitems, List.getElem?_cons_zero, Option.some.injEq] at h
    cases h
    exact ⟨0, rfl⟩
  | [p], x, _, i + 1, t, y, h => by simp [pitems] at h
  | p :: p' :: ps, x, i0, 0, t, y, h => by
    simp only [pitems, List.getElem?_cons_zero, Option.some.injEq] at h
    cases h
    exact ⟨0, rfl⟩
  | p :: p' :: ps, x, i0, i + 1, t, y, h => by
    obtain ⟨k, hk⟩ := pitems_ref (p' :: ps) x.2 (i0 + 1) i t y (by simpa [pitems] using h)
    have hk : (refIdx (p' :: ps) (i0 + 1))[k]? = some (i0 + (i + 1)) := by rw [hk]; congr 1; omega
    cases p with
    | v t' => exact ⟨k, hk⟩
    | r t' => exact ⟨k + 1, by simpa [refIdx] using hk⟩

theorem refIdx_lt : ∀ (ps : List PA) (i0 : Nat), (refIdx ps i0).Pairwise (· < ·) ∧ ∀ i ∈ refIdx ps i0, i0 ≤ i
  | [], _ => ⟨List.Pairwise.nil, by simp [refIdx]⟩
  | .v _ :: ps, i0 => by
    obtain ⟨h1, h2⟩ := refIdx_lt ps (i0 + 1)
    exact ⟨h1, fun i hi => by have := h2 i hi; omega⟩
  | .r _ :: ps, i0 => by
    obtain ⟨h1, h2⟩ := refIdx_lt ps (i0 + 1)
    refine ⟨List.Pairwise.cons (fun i hi => by have := h2 i hi; omega) h1, fun i hi => ?_⟩
    rcases List.mem_cons.1 hi with rfl | hi
    · exact Nat.le_refl _
    · have := h2 i hi; omega

theorem refIdx_inj (ps : List PA) {i0 k k' i : Nat} (h : (refIdx ps i0)[k]? = some i) (h' : (refIdx ps i0)[k']? = some i) : k = k' := by
  have hp := (refIdx_lt ps i0).1
  obtain ⟨hk, rfl⟩ := List.getElem?_eq_some_iff.1 h
  obtain ⟨hk', he⟩ := List.getElem?_eq_some_iff.1 h'
  rcases Nat.lt_trichotomy k k' with g | g | g
  · have := List.pairwise_iff_getElem.1 hp k k' hk hk' g; omega
  · exact g
  · have := List.pairwise_iff_getElem.1 hp k' k hk' hk g; omega

theorem refsOf_length (ps : List PA) : ∀ i0, (refIdx ps i0).length = (refsOf ps).length := by
  induction ps with
  | nil => intro i0; rfl
  | cons p ps ih => intro i0; cases p <;> simp [refIdx, refsOf, ih]

/-! The start of a call -/

def nmOf : List Nat → List Nat → Nat → Option Nat
  | i :: is, n :: ns, j => if j = i then some n else nmOf is ns j
  | _, _, _ => none

theorem nmOf_some : ∀ (is ns : List Nat) (j n : Nat), nmOf is ns j = some n → ∃ k : Nat, is[k]? = some j ∧ ns[k]? = some n
  | [], ns, j, n, h => by simp [nmOf] at h
  | i :: is, [], j, n, h => by simp [nmOf] at h
  | i :: is, m :: ns, j, n, h => by
    simp only [nmOf] at h
    split at h
    · rename_i e
      simp only [Option.some.injEq] at h
      exact ⟨0, by simp [e], by simp [h]⟩
    · obtain ⟨k, h1, h2⟩ := nmOf_some is ns j n h
      exact ⟨k + 1, by simpa using h1, by simpa using h2⟩

theorem nmOf_of : ∀ (is ns : List Nat) (k j n : Nat), is[k]? = some j → ns[k]? = some n → (∀ k', is[k']? = some j → k' = k) → nmOf is ns j = some n
  | [], ns, k, j, n, h, _, _ => by simp at h
  | i :: is, [], k, j, n, _, h, _ => by simp at h
  | i :: is, m :: ns, 0, j, n, h, h', _ => by
    simp only [List.getElem?_cons_zero, Option.some.injEq] at h h'
    simp [nmOf, h, h']
  | i :: is, m :: ns, k + 1, j, n, h, h', hu => by
    have hne : j ≠ i := fun e => by have := hu 0 (by simp [e]); omega
    simp only [nmOf, if_neg hne]
    exact nmOf_of is ns k j n (by simpa using h) (by simpa using h') (fun k' hk' => by have := hu (k' + 1) (by simpa using hk'); omega)

section
variable {B : Base} {N : Nat} {tm : Nat → Value} {w : World} {Γ : AE} {σ : Gh}

def calleeBase (fz : Bool) (B : Base) (w : World) (σ : Gh) (ps : List PA) (us : List Nat) : Base where
  size := w.heap.size
  hp := fun b => w.heap[b]?
  F := fun c => ∃ n ∈ us, c ∈ (σ.ow n).map (·.1)
  S := fun c => Shr B w σ c ∨ (fz = false ∧ Owned σ c)
  io := ioOf w
  pin := fun i => match nmOf (refIdx ps 0) us i with
    | some n => match σ.g n with
      | .at b _ => some b
      | _ => none
    | none => none

def calleeGh (σ : Gh) (ps : List PA) (us : List Nat) : Gh where
  g := fun m => match nmOf (refIdx ps 0) us (m - pinned) with
    | some n => σ.g n
    | none => .one undef
  ow := fun m => if m < pinned then [] else match nmOf (refIdx ps 0) us (m - pinned) with
    | some n => σ.ow n
    | none => []
  ov := none

theorem Rel.enter (h : Rel B Γ N tm w σ) (hov : σ.ov = none) {fz : Bool} {ps : List PA} {x : (prods (ps.map PA.ty)).den} {vs : List Value} {us : List Nat} (ha : ArgsOk fz B w Γ σ ps x vs [] us 0) (hl : vs.length = ps.length) :
    Rel (calleeBase fz B w σ ps us) (ini ps x) ps.length (fun i => vs.toArray.getD i undef) w (calleeGh σ ps us) ∧
      ∀ i ∈ refIdx ps 0, ∃ b, (calleeBase fz B w σ ps us).pin i = some b ∧ vs.toArray.getD i undef = .pointer (some ⟨b, 0, none⟩) := by
  have huniq : ∀ k i, (refIdx ps 0)[k]? = some i → ∀ k', (refIdx ps 0)[k']? = some i → k' = k := fun k i h1 k' h2 => refIdx_inj ps h2 h1
  have hget : ∀ (i : Nat) v, vs[i]? = some v → vs.toArray.getD i undef = v := fun i v hv => by simp [Array.getD_eq_getD_getElem?, hv]
  -- a reference's name
  have href : ∀ (i : Nat) t y, (pitems ps x)[i]? = some ⟨.r t, y⟩ → ∃ n b, nmOf (refIdx ps 0) us i = some n ∧ n ∈ us ∧ vs[i]? = some (.pointer (some ⟨b, 0, none⟩)) ∧ Γ.rt n = some ⟨true, t, y⟩ ∧ σ.g n = .at b 0 := by
    intro i t y hi
    obtain ⟨k, hk⟩ := pitems_ref ps x 0 i t y hi
    rw [Nat.zero_add] at hk
    have hlt : k < us.length := by rw [ha.len]; exact (List.getElem?_eq_some_iff.1 hk).1
    have hn : us[k]? = some us[k] := List.getElem?_eq_getElem hlt
    obtain ⟨i', t', y', b, j1, j2, j3, j4, j5⟩ := ha.refs k _ hn
    rw [hk] at j1
    simp only [Nat.zero_add, Option.some.injEq] at j1
    subst j1
    rw [hi] at j2
    simp only [Option.some.injEq] at j2
    cases j2
    exact ⟨us[k], b, nmOf_of _ _ k i _ hk hn (huniq k i hk), List.getElem_mem hlt, j3, j4, j5⟩
  have hnm : ∀ i n, nmOf (refIdx ps 0) us i = some n → n ∈ us ∧ ∃ t y b, (pitems ps x)[i]? = some ⟨.r t, y⟩ ∧ vs[i]? = some (.pointer (some ⟨b, 0, none⟩)) ∧ Γ.rt n = some ⟨true, t, y⟩ ∧ σ.g n = .at b 0 := by
    intro i n hi
    obtain ⟨k, h1, h2⟩ := nmOf_some _ _ _ _ hi
    obtain ⟨i', t', y', b, j1, j2, j3, j4, j5⟩ := ha.refs k n h2
    rw [h1] at j1
    simp only [Nat.zero_add, Option.some.injEq] at j1
    subst j1
    exact ⟨List.mem_of_getElem? h2, t', y', b, j2, j3, j4, j5⟩
  have hinj : ∀ i i' n, nmOf (refIdx ps 0) us i = some n → nmOf (refIdx ps 0) us i' = some n → i = i' := by
    intro i i' n h1 h2
    obtain ⟨k, h1, h3⟩ := nmOf_some _ _ _ _ h1
    obtain ⟨k', h2, h4⟩ := nmOf_some _ _ _ _ h2
    obtain ⟨a1, b1⟩ := List.getElem?_eq_some_iff.1 h3
    obtain ⟨a2, b2⟩ := List.getElem?_eq_some_iff.1 h4
    have : k = k' := by
      have hp := List.pairwise_iff_getElem.1 ha.nodup
      rcases Nat.lt_trichotomy k k' with g | g | g
      · exact absurd (b1.trans b2.symm) (hp k k' a1 a2 g)
      · exact g
      · exact absurd (b2.trans b1.symm) (hp k' k a2 a1 g)
    subst this
    rw [h1] at h2
    exact Option.some.inj h2
  have how : ∀ m c, c ∈ ((calleeGh σ ps us).ow m).map (·.1) → pinned ≤ m ∧ ∃ n, nmOf (refIdx ps 0) us (m - pinned) = some n ∧ n ∈ us ∧ c ∈ (σ.ow n).map (·.1) := by
    intro m c hc
    simp only [calleeGh] at hc
    split at hc
    · simp at hc
    · rename_i hm
      cases hn : nmOf (refIdx ps 0) us (m - pinned) with
      | none => rw [hn] at hc; simp at hc
      | some n => rw [hn] at hc; exact ⟨by omega, n, rfl, (hnm _ _ hn).1, hc⟩
  have hown : ∀ c, Owned (calleeGh σ ps us) c → ∃ n ∈ us, c ∈ (σ.ow n).map (·.1) := by
    rintro c ⟨m, hm⟩
    obtain ⟨-, n, -, h1, h2⟩ := how m c hm
    exact ⟨n, h1, h2⟩
  have hsh : ∀ c, Shr B w σ c → Shr (calleeBase fz B w σ ps us) w (calleeGh σ ps us) c := fun c hc => ⟨hc.1, .inl (.inl hc), fun g => by
    obtain ⟨n, -, h2⟩ := hown c g
    exact hc.2.2 ⟨n, h2⟩⟩
  have hmemo : memo w σ.ov = memo w (calleeGh σ ps us).ov := by rw [hov]; rfl
  have hgpin : ∀ m n, nmOf (refIdx ps 0) us m = some n → (calleeGh σ ps us).g (pinned + m) = σ.g n ∧ (calleeGh σ ps us).ow (pinned + m) = σ.ow n := fun m n hn => by
    have e : pinned + m - pinned = m := by omega
    have e' : ¬ pinned + m < pinned := by omega
    simp only [calleeGh, e, hn, if_neg e', and_self]
  have hini : ∀ m r, (ini ps x).rt m = some r → ∃ i t y, m = pinned + i ∧ (pitems ps x)[i]? = some ⟨.r t, y⟩ ∧ r = ⟨true, t, y⟩ := by
    intro m r hr
    simp only [ini] at hr
    rcases bif_some hr with ⟨-, g⟩ | ⟨g1, hr⟩
    · cases g
    · simp only [decide_eq_false_iff_not] at g1
      split at hr
      · rename_i t y hi
        simp only [Option.some.injEq] at hr
        exact ⟨m - pinned, t, y, by omega, hi, hr.symm⟩
      · cases hr
  have hinirt : ∀ i t y, (pitems ps x)[i]? = some ⟨.r t, y⟩ → (ini ps x).rt (pinned + i) = some ⟨true, t, y⟩ := by
    intro i t y hi
    have e : pinned + i - pinned = i := by omega
    have e' : decide (pinned + i < pinned) = false := by simp
    simp only [ini, e, e', hi, cond_false]
  have hpin : ∀ i n b, nmOf (refIdx ps 0) us i = some n → σ.g n = .at b 0 → (calleeBase fz B w σ ps us).pin i = some b := fun i n b hn hg => by
    simp only [calleeBase, hn, hg]
  refine ⟨⟨fun m r hr => ?_, fun m hm => ?_, fun m => ?_, fun m m' hne c hc hc' => ?_, fun m p hp => ?_, fun i hi => ?_, trivial, Nat.le_refl _, fun b _ _ => rfl, fun c hc => .inl ?_, fun i b hb hne => ?_, rfl⟩, fun i hi => ?_⟩
  · obtain ⟨i, t, y, rfl, hi, rfl⟩ := hini m r hr
    obtain ⟨n, b, h1, h2, h3, h4, h5⟩ := href i t y hi
    rw [← hmemo, (hgpin i n h1).1, (hgpin i n h1).2]
    exact (h.roots n _ h4).mono hsh
  · cases ho : (calleeGh σ ps us).ow m with
    | nil => rfl
    | cons p l =>
      obtain ⟨h1, n, h2, h3, h4⟩ := how m p.1 (by rw [ho]; simp)
      obtain ⟨-, t, y, b, h5, -⟩ := hnm _ _ h2
      have := hinirt _ t y h5
      rw [show pinned + (m - pinned) = m from by omega, hm] at this
      cases this
  · simp only [calleeGh]
    split
    · simp
    · split
      · exact h.nodup _
      · simp
  · obtain ⟨h1, n, h2, h3, h4⟩ := how m c hc
    obtain ⟨h1', n', h2', h3', h4'⟩ := how m' c hc'
    by_cases e : n = n'
    · subst e
      have := hinj _ _ _ h2 h2'
      exact hne (by omega)
    · exact h.disj n n' e c h4 h4'
  · have hc := how m p.1 (List.mem_map_of_mem hp)
    obtain ⟨h1, n, h2, h3, h4⟩ := hc
    have e : ¬ m < pinned := by omega
    simp only [calleeGh, if_neg e, h2] at hp
    exact h.live n p hp
  · have hlt : i < (pitems ps x).length := by rw [pitems_length]; exact hi
    have hvl : i < vs.length := by rw [hl]; exact hi
    have hv : vs[i]? = some vs[i] := List.getElem?_eq_getElem hvl
    have hit : (pitems ps x)[i]? = some (pitems ps x)[i] := List.getElem?_eq_getElem hlt
    show SVOk _ _ _ _ ((ini ps x).sl i) (vs.toArray.getD i undef)
    rw [hget i _ hv]
    revert hit
    generalize (pitems ps x)[i] = it
    intro hit
    obtain ⟨p, y⟩ := it
    cases p with
    | v t =>
      have e : (ini ps x).sl i = .one (.val t y) := by simp only [ini, hit]
      rw [e]
      have := ha.vals i t y _ hit hv
      refine this.frame (fun c j _ => by rw [hmemo]) (fun c hc => ?_)
      rcases hc with hc | ⟨hf, n, -, hn, hc⟩
      · exact hsh c hc
      · refine ⟨h.lt ⟨n, hc⟩, .inl (.inr ⟨hf, n, hc⟩), fun g => ?_⟩
        obtain ⟨n', h1, h2⟩ := hown c g
        exact h.disj n n' (fun e => hn (e ▸ h1)) c hc h2
    | r t =>
      have e : (ini ps x).sl i = .one (.ptr (pinned + i) []) := by simp only [ini, hit]
      rw [e]
      obtain ⟨n, b, h1, h2, h3, h4, h5⟩ := href i t y hit
      rw [hv] at h3
      simp only [Option.some.injEq] at h3
      rw [h3]
      refine ⟨⟨true, t, y⟩, t, b, 0, hinirt i t y hit, ?_, rfl⟩
      rw [(hgpin i n h1).1, h5]; rfl
  · obtain ⟨n, h1, h2⟩ := hown c hc
    exact ⟨n, h1, h2⟩
  · have hne' : ∃ r, (ini ps x).rt (pinned + i) = some r := Option.ne_none_iff_exists'.1 hne
    obtain ⟨r, hr⟩ := hne'
    obtain ⟨i', t, y, e, hi, -⟩ := hini _ r hr
    obtain rfl : i' = i := by omega
    obtain ⟨n, b', h1, h2, h3, h4, h5⟩ := href i' t y hi
    rw [hpin i' n b' h1 h5] at hb
    simp only [Option.some.injEq] at hb
    rw [(hgpin i' n h1).1, h5, hb]
  · obtain ⟨k, hk⟩ := List.mem_iff_getElem?.1 hi
    have hlt : k < us.length := by rw [ha.len]; exact (List.getElem?_eq_some_iff.1 hk).1
    obtain ⟨i', t', y', b, j1, j2, j3, j4, j5⟩ := ha.refs k _ (List.getElem?_eq_getElem hlt)
    rw [hk] at j1
    simp only [Nat.zero_add, Option.some.injEq] at j1
    subst j1
    exact ⟨b, hpin _ _ b (nmOf_of _ _ k i _ hk (List.getElem?_eq_getElem hlt) (huniq k i hk)) j5, hget _ _ j3⟩

end
end Go.Ab

/- A call of a function of the program. Conditions: as each lemma states. -/
namespace Go.Ab

theorem collect_nil {α : Type} {f : Nat → Option (α × Owns × List Nat)} : ∀ (n i : Nat) {xs os rs}, collect f n i = some (xs, os, rs) → (∀ j x o r, f j = some (x, o, r) → o = [] ∧ r = []) → os = [] ∧ rs = []
  | 0, i, xs, os, rs, h, _ => by simp [collect] at h; simp [h]
  | n + 1, i, xs, os, rs, h, hf => by
    simp only [collect] at h
    split at h
    · cases h
    · rename_i x o r h1
      split at h
      · cases h
      · rename_i xs' os' rs' h2
        simp only [Option.some.injEq, Prod.mk.injEq] at h
        obtain ⟨rfl, rfl, rfl⟩ := h
        obtain ⟨rfl, rfl⟩ := hf _ _ _ _ h1
        obtain ⟨rfl, rfl⟩ := collect_nil n (i + 1) h2 hf
        exact ⟨rfl, rfl⟩

theorem dec_nolist {m : Mem} : ∀ (t : Ty) {rd : Nat → Option Value} {x O R}, t.hasList = false → dec m t rd = some (x, O, R) → O = [] ∧ R = []
  | .int k, rd, x, O, R, _, h => by
    simp only [dec] at h
    split at h
    · split at h
      · cases h; exact ⟨rfl, rfl⟩
      · cases h
    · cases h
  | .bool, rd, x, O, R, _, h => by
    simp only [dec] at h
    split at h
    · cases h; exact ⟨rfl, rfl⟩
    · cases h
  | .str, rd, x, O, R, _, h => by
    simp only [dec] at h
    split at h
    · cases h; exact ⟨rfl, rfl⟩
    · cases h
  | .unit, rd, x, O, R, _, h => by
    simp only [dec] at h; cases h; exact ⟨rfl, rfl⟩
  | .pair a b, rd, x, O, R, ht, h => by
    simp only [Ty.hasList, Bool.or_eq_false_iff] at ht
    obtain ⟨x1, o1, r1, x2, o2, r2, h1, h2, -, rfl, rfl⟩ := dec_pair h
    obtain ⟨rfl, rfl⟩ := dec_nolist a ht.1 h1
    obtain ⟨rfl, rfl⟩ := dec_nolist b ht.2 h2
    exact ⟨rfl, rfl⟩
  | .arr n t, rd, x, O, R, ht, h => collect_nil n 0 h fun j x o r hj => dec_nolist t ht hj
  | .list o t, rd, x, O, R, ht, h => by simp [Ty.hasList] at ht

theorem dec_ownlist {m : Mem} {e : Ty} {rd : Nat → Option Value} {x O R} (he : e.hasList = false) (h : dec m (.list true e) rd = some (x, O, R)) : R = [] := by
  rcases dec_own h with ⟨-, -, -, hr⟩ | ⟨A, n, c, os, hs, hA, hn, hx, ho⟩
  · exact hr
  · exact (collect_nil n 0 hx fun j x o r hj => dec_nolist e he hj).2

theorem RootOk.anySh {m : Mem} {Sh Sh' : Nat → Prop} {r : Root} {s O} (h : RootOk m Sh r s O) (hn : (r.bx = true ∧ r.t.hasList = false) ∨ ∃ e, r.t = .list true e ∧ e.hasList = false) : RootOk m Sh' r s O := by
  obtain ⟨O', R, h1, h2, h3⟩ := h.rd
  have hR : R = [] := by
    rcases hn with ⟨-, hn⟩ | ⟨e, he, hn⟩
    · exact (dec_nolist _ hn h1).2
    · obtain ⟨bx, t, x⟩ := r
      obtain rfl : t = .list true e := he
      exact dec_ownlist hn h1
  subst hR
  exact ⟨O', [], h1, by simp, h3⟩

theorem VOk.anySh {m : Mem} {Sh Sh' : Nat → Prop} {t : Ty} {x : t.den} {v : Value} (h : VOk m Sh t x v) (hn : t.hasList = false) : VOk m Sh' t x v := by
  obtain ⟨h1, h2, R, h3, h4⟩ := h
  obtain ⟨-, rfl⟩ := dec_nolist t hn h3
  exact ⟨h1, h2, [], h3, by simp⟩

/-! The names of the results -/

theorem resNames_get : ∀ (rs : List RA) (n k m : Nat), (resNames rs n)[k]? = some m → m = n + 1000 * k ∧ k < rs.length
  | [], _, k, m, h => by simp [resNames] at h
  | _ :: rs, n, 0, m, h => by simp only [resNames, List.getElem?_cons_zero, Option.some.injEq] at h; simp [h]
  | _ :: rs, n, k + 1, m, h => by
    obtain ⟨h1, h2⟩ := resNames_get rs (n + 1000) k m (by simpa [resNames] using h)
    exact ⟨by omega, by simpa using h2⟩

theorem resNames_length : ∀ (rs : List RA) (n : Nat), (resNames rs n).length = rs.length
  | [], _ => rfl
  | _ :: rs, n => by simp [resNames, resNames_length rs]

theorem rootNames_of : ∀ (rs : List RA) (n k m : Nat) (r : RA), (resNames rs n)[k]? = some m → rs[k]? = some r → (∀ t, r ≠ .v t) → m ∈ rootNames rs n
  | [], _, k, m, r, h, _, _ => by simp [resNames] at h
  | r' :: rs, n, 0, m, r, h, hr, hv => by
    simp only [resNames, List.getElem?_cons_zero, Option.some.injEq] at h hr
    subst h; subst hr
    cases r' with
    | v t => exact absurd rfl (hv t)
    | o e => simp [rootNames]
    | b t => simp [rootNames]
  | r' :: rs, n, k + 1, m, r, h, hr, hv => by
    have := rootNames_of rs (n + 1000) k m r (by simpa [resNames] using h) (by simpa using hr) hv
    cases r' <;> simp [rootNames, this]

section
variable {ρ : Type} {B : Base} {N : Nat} {tm : Nat → Value} {w : World}

/-- Names become free. -/
theorem Rel.dropAll : ∀ (ns : List Nat) {Γ : AE} {σ : Gh} (_ : Rel B Γ N tm w σ) (_ : Γ.pd = none) {q : Bool} {us : List Nat} {K : AE → Rs ρ} {z : ρ} (_ : Γ.dropAll q us ns K = some z),
    (∀ n ∈ ns, n < pinned ∧ n ∉ us) ∧ ∃ Γ' σ', K Γ' = some z ∧ Rel B Γ' N tm w σ' ∧ Γ'.pd = none ∧ σ'.ov = σ.ov ∧ (∀ c, Shr B w σ c → Shr B w σ' c) ∧ (∀ n ∈ ns, Γ'.rt n = none) ∧
      ((∀ n, n ∉ ns → Γ'.rt n = Γ.rt n ∧ σ'.ow n = σ.ow n) ∧ σ'.g = σ.g) ∧ (∀ n, Γ.rt n = none → Γ'.rt n = none)
  | [], Γ, σ, h, hpd, q, us, K, z, hz => ⟨by simp, Γ, σ, hz, h, hpd, rfl, fun _ g => g, by simp, ⟨fun _ _ => ⟨rfl, rfl⟩, rfl⟩, fun _ g => g⟩
  | n :: ns, Γ, σ, h, hpd, q, us, K, z, hz => by
    simp only [AE.dropAll] at hz
    obtain ⟨hn, hz⟩ := (bif_some hz).elim id fun h => by cases h.2
    simp only [Bool.and_eq_true, decide_eq_true_eq, Bool.not_eq_true', List.contains_eq_mem, decide_eq_false_iff_not] at hn
    split at hz
    · rename_i hr
      have ⟨k1, Γ', σ', h1, h2, h3, h4, h5, h6, ⟨h7, h8⟩, h9⟩ := Rel.dropAll ns h hpd hz
      refine ⟨fun m hm => ?_, Γ', σ', h1, h2, h3, h4, h5, fun m hm => ?_, ⟨fun m hm => h7 m fun g => hm (List.mem_cons_of_mem _ g), h8⟩, h9⟩
      · rcases List.mem_cons.1 hm with rfl | hm
        · exact hn
        · exact k1 m hm
      · rcases List.mem_cons.1 hm with rfl | hm
        · exact h9 m hr
        · exact h6 m hm
    · rename_i r hr
      rcases bif_some hz with ⟨-, g⟩ | ⟨-, hz⟩
      · cases g
      · have hd := h.drop (n := n) (by simp [hpd])
        have ⟨k1, Γ', σ', h1, h2, h3, h4, h5, h6, ⟨h7, h8⟩, h9⟩ := Rel.dropAll ns hd (by simpa [AE.setRt, AE.mapv] using hpd) hz
        have hnone : ((Γ.mapv (AV.drop n)).setRt n none).rt n = none := by simp [AE.setRt]
        refine ⟨fun m hm => ?_, Γ', σ', h1, h2, h3, h4, fun c hc => h5 c (Rel.shr_gone c hc), fun m hm => ?_, ⟨fun m hm => ?_, h8⟩, fun m hm => h9 m ?_⟩
        · rcases List.mem_cons.1 hm with rfl | hm
          · exact hn
          · exact k1 m hm
        · rcases List.mem_cons.1 hm with rfl | hm
          · exact h9 m hnone
          · exact h6 m hm
        · have hmn : m ≠ n := fun e => hm (by simp [e])
          have hmns : m ∉ ns := fun g => hm (List.mem_cons_of_mem _ g)
          obtain ⟨a1, a2⟩ := h7 m hmns
          have e : (m == n) = false := by simpa using hmn
          exact ⟨a1.trans (by simp [AE.setRt, AE.mapv, e]), a2.trans (by simp [hmn])⟩
        · simp only [AE.setRt, AE.mapv]
          rw [hm]; simp

end

/-! What comes back, by name -/

def ents : List Nat → List ((r : RA) × r.ty.den) → List (Src × Owns) → Nat → Option Ent1
  | k :: ns, it :: its, L :: Ls, n => match rootOf it with
    | some r => bif n == k then some ⟨r, L.1, L.2⟩ else ents ns its Ls n
    | none => ents ns its Ls n
  | _, _, _, _ => none

theorem ents_some : ∀ (ns : List Nat) its (Ls : List (Src × Owns)) (n : Nat) (e : Ent1), ents ns its Ls n = some e →
    ∃ (k : Nat) (it : (r : RA) × r.ty.den) (L : Src × Owns), ns[k]? = some n ∧ its[k]? = some it ∧ Ls[k]? = some L ∧ rootOf it = some e.r ∧ e.s = L.1 ∧ e.O = L.2
  | [], its, Ls, n, e, h => by simp [ents] at h
  | k :: ns, [], Ls, n, e, h => by simp [ents] at h
  | k :: ns, it :: its, [], n, e, h => by simp [ents] at h
  | k :: ns, it :: its, L :: Ls, n, e, h => by
    have rest : ents ns its Ls n = some e → ∃ (j : Nat) (it' : (r : RA) × r.ty.den) (L' : Src × Owns), (k :: ns)[j]? = some n ∧ (it :: its)[j]? = some it' ∧ (L :: Ls)[j]? = some L' ∧ rootOf it' = some e.r ∧ e.s = L'.1 ∧ e.O = L'.2 := fun h => by
      obtain ⟨j, it', L', h1, h2, h3, h4⟩ := ents_some ns its Ls n e h
      exact ⟨j + 1, it', L', by simpa using h1, by simpa using h2, by simpa using h3, h4⟩
    simp only [ents] at h
    split at h
    · rename_i r hr
      rcases bif_some h with ⟨hk, h⟩ | ⟨-, h⟩
      · simp only [Option.some.injEq] at h
        subst h
        exact ⟨0, it, L, by simpa using (beq_iff_eq.1 hk).symm, rfl, rfl, hr, rfl, rfl⟩
      · exact rest h
    · exact rest h

theorem ents_of : ∀ (ns : List Nat) its (Ls : List (Src × Owns)) (k n : Nat) it L r, ns[k]? = some n → its[k]? = some it → Ls[k]? = some L → rootOf it = some r →
    (∀ (k' : Nat) it', ns[k']? = some n → its[k']? = some it' → rootOf it' ≠ none → k' = k) → ents ns its Ls n = some ⟨r, L.1, L.2⟩
  | [], its, Ls, k, n, it, L, r, h, _, _, _, _ => by simp at h
  | m :: ns, [], Ls, k, n, it, L, r, _, h, _, _, _ => by simp at h
  | m :: ns, it' :: its, [], k, n, it, L, r, _, _, h, _, _ => by simp at h
  | m :: ns, it' :: its, L' :: Ls, 0, n, it, L, r, h1, h2, h3, h4, _ => by
    simp only [List.getElem?_cons_zero, Option.some.injEq] at h1 h2 h3
    subst h1; subst h2; subst h3
    simp [ents, h4]
  | m :: ns, it' :: its, L' :: Ls, k + 1, n, it, L, r, h1, h2, h3, h4, hu => by
    simp only [List.getElem?_cons_succ] at h1 h2 h3
    have ih := ents_of ns its Ls k n it L r h1 h2 h3 h4 fun k' it2 g1 g2 g3 => by
      have := hu (k' + 1) it2 (by simpa using g1) (by simpa using g2) g3
      omega
    simp only [ents]
    cases hr : rootOf it' with
    | none => exact ih
    | some r' =>
      have hne : n ≠ m := fun e => by
        have := hu 0 it' (by simp [e]) rfl (by rw [hr]; simp)
        omega
      have e : (n == m) = false := by simpa using hne
      simp only [e, cond_false]
      exact ih

theorem newRoots_ents : ∀ (ns : List Nat) its (Ls : List (Src × Owns)) (n : Nat), Ls.length = its.length → newRoots ns its n = (ents ns its Ls n).map (·.r)
  | [], its, Ls, n, h => by simp [newRoots, ents]
  | k :: ns, [], Ls, n, h => by simp [newRoots, ents]
  | k :: ns, it :: its, [], n, h => by simp at h
  | k :: ns, it :: its, L :: Ls, n, h => by
    have ih := newRoots_ents ns its Ls n (by simpa using h)
    simp only [newRoots, ents]
    cases rootOf it with
    | none => exact ih
    | some r => cases hk : (n == k) <;> simp [ih]

theorem avsOf_get : ∀ (ns : List Nat) its (k : Nat) av, (avsOf ns its)[k]? = some av → ∃ (n : Nat) (it : (r : RA) × r.ty.den), ns[k]? = some n ∧ its[k]? = some it ∧ av = avOf n it
  | [], its, k, av, h => by simp [avsOf] at h
  | _ :: _, [], k, av, h => by simp [avsOf] at h
  | n :: ns, it :: its, 0, av, h => by simp only [avsOf, List.getElem?_cons_zero, Option.some.injEq] at h; exact ⟨n, it, rfl, rfl, h.symm⟩
  | n :: ns, it :: its, k + 1, av, h => by
    obtain ⟨m, it', h1, h2, h3⟩ := avsOf_get ns its k av (by simpa [avsOf] using h)
    exact ⟨m, it', by simpa using h1, by simpa using h2, h3⟩

theorem avsOf_length : ∀ (ns : List Nat) (its : List ((r : RA) × r.ty.den)), ns.length ≤ its.length → (avsOf ns its).length = ns.length
  | [], its, h => by simp [avsOf]
  | _ :: _, [], h => by simp at h
  | _ :: ns, _ :: its, h => by simp only [avsOf, List.length_cons]; rw [avsOf_length ns its (by simpa using h)]

theorem rootOf_list : ∀ {it : (r : RA) × r.ty.den} {r : Root}, rootOf it = some r → it.1.hasList = false → (r.bx = true ∧ r.t.hasList = false) ∨ ∃ e, r.t = .list true e ∧ e.hasList = false
  | ⟨.v t, x⟩, r, h, _ => by simp [rootOf] at h
  | ⟨.o e, x⟩, r, h, hl => by simp only [rootOf, Option.some.injEq] at h; subst h; exact .inr ⟨e, rfl, hl⟩
  | ⟨.b t, x⟩, r, h, hl => by simp only [rootOf, Option.some.injEq] at h; subst h; exact .inl ⟨rfl, hl⟩

theorem ItemOk.root {m Sh} : ∀ {it : (r : RA) × r.ty.den} {v L r}, ItemOk m Sh it v L → rootOf it = some r → RootOk m Sh r L.1 L.2
  | ⟨.v t, x⟩, v, L, r, h, hr => by simp [rootOf] at hr
  | ⟨.o e, x⟩, v, L, r, h, hr => by simp only [rootOf, Option.some.injEq] at hr; subst hr; exact h.2
  | ⟨.b t, x⟩, v, L, r, h, hr => by simp only [rootOf, Option.some.injEq] at hr; subst hr; exact h.1

end Go.Ab

/- A call of a function of the program: it keeps the relation. Conditions: as each lemma states. -/
namespace Go.Ab

theorem run_call {P : Program} {f : FuncId} (hb : Bodied P f) {o : Oper} {c : Call} (ho : o.op = .call c) (hc : c.callee = .value (.func f)) (a : Act) (w : World) :
    (execOp a.eval o).run P w = .ok (.enter f (c.args.map a.eval)) w := by
  obtain ⟨fn, c', h1, h2, h3⟩ := hb
  have h4 : ¬ fn.name = "runtime.NumGoroutine" := by simpa using h3
  simp [execOp, ho, resolve, hc, Act.eval, Deferred.ofValue, invoke, callFunc, program, Sem.run, h1, h2, h4, Result.andThen]

section
variable {P : Program} {B : Base} {N : Nat} {ρ : Type} {Γ : AE} {a : Act} {w : World} {σ : Gh}

theorem call_sound {o : Oper} {c : Call} {f : FuncId} {s : FSem} {q : Bool} {K : AE → Rs ρ} {z : ρ} {next : Act → World → Prop} {Q : Exit → Act → World → Prop} (ho : o.op = .call c) (hc : c.callee = .value (.func f)) (hF : FSound P f s) (hB : Bodied P f)
    (h : Rel B Γ N (tmOf a) w σ) (hN : a.tmps.size = N) (hf : fits N o = true) (hz : Γ.call q o.dst s (c.args.toList.map Γ.opd) K = some z)
    (hnext : ∀ v w' Γ' σ', Rel B Γ' N (tmOf (a.put o.dst v)) w' σ' → K Γ' = some z → next (a.put o.dst v) w') : o.wp P a w next Q := by
  unfold Oper.wp
  rw [run_call hB ho hc, Oper.upon_enter]
  unfold AE.call at hz
  split at hz
  · cases hz
  rename_i hpd
  have hov := h.ov_none hpd
  have hopd : ∀ x ∈ c.args.toList, opdOk N x = true := fun x hx => fits_op hf x (by simp only [ho, Op.operands, Call.operands, hc]; simp; exact .inr (by simpa using hx))
  obtain ⟨hl, x, Γ', σ', us, hz1, h', ev, bx, hsame, -, ha⟩ := Rel.args s.ps (c.args.toList.map Γ.opd) (c.args.toList.map a.eval) (i0 := 0) h (fun i av v h1 h2 => by
    rw [List.getElem?_map] at h1 h2
    cases hi : c.args.toList[i]? with
    | none => rw [hi] at h1; cases h1
    | some o' =>
      rw [hi] at h1 h2
      simp only [Option.map_some, Option.some.injEq] at h1 h2
      subst h1; subst h2
      exact .inl (h.opd (hopd o' (List.mem_of_getElem? hi)))) (by simp) hz
  clear hz
  obtain ⟨fz, hfz⟩ : ∃ fz, (s.rs.any RA.hasList || (refsOf s.ps).any Ty.hasList) = fz := ⟨_, rfl⟩
  rw [hfz] at ha hsame
  have hpd' : Γ'.pd = none := ev.pd.trans hpd
  have hov' : σ'.ov = none := ev.ov.trans hov
  obtain ⟨hnames, Γ1, σ1, hz2, h1, hpd1, hov1, hshr, hnone, ⟨hkeep, hg1⟩, hnone'⟩ := Rel.dropAll _ h' hpd' hz1
  clear hz1
  obtain ⟨y, hy, hz3⟩ := Option.bind_eq_some_iff.1 hz2
  clear hz2
  obtain ⟨hrel0, hpins0⟩ := h'.enter hov' ha (by rw [List.length_map] at hl ⊢; exact hl.symm)
  obtain ⟨ns, hns⟩ : ∃ ns, resNames s.rs (o.dst.getD 0 + 1000) = ns := ⟨_, rfl⟩
  have hus : (us.reverse ++ []).reverse = us := by simp
  obtain ⟨rn, hrn⟩ : ∃ rn, rootNames s.rs (o.dst.getD 0 + 1000) = rn := ⟨_, rfl⟩
  rw [hrn] at hnames hnone hkeep
  have hargs : c.args.map a.eval = (c.args.toList.map a.eval).toArray := by rw [← Array.toList_map]
  rw [hargs]
  refine (hF w _ _ _ x y hy rfl (fun _ => rfl) rfl (by rw [List.size_toArray, List.length_map]; rw [List.length_map] at hl; exact hl.symm) hrel0 hpins0).mono ?_
  rintro e w' ⟨vr, Ls, rfl, hvr, bk⟩
  simp only []
  obtain ⟨its, hits⟩ : ∃ its, items (RA.all s.ps s.rs) y = its := ⟨_, rfl⟩
  obtain ⟨vs, hvs⟩ : ∃ vs, vr ++ (refIdx s.ps 0).map (fun i => (c.args.toList.map a.eval).toArray.getD i undef) = vs := ⟨_, rfl⟩
  rw [hits, hvs] at bk
  have hitl : its.length = s.rs.length + us.length := by
    rw [← hits, items_length, RA.all, List.length_append, List.length_map, ha.len, refsOf_length]
  have hnsl : ns.length = s.rs.length := by rw [← hns, resNames_length]
  have hnotus : ∀ n ∈ rn, n < pinned ∧ n ∉ us := fun n hn => by
    have := hnames n hn
    simpa using this
  -- the names
  have hrooted : ∀ (k n : Nat) it, (ns ++ us)[k]? = some n → its[k]? = some it → rootOf it ≠ none → (k < ns.length ∧ n ∈ rn ∧ n = o.dst.getD 0 + 1000 + 1000 * k) ∨ (ns.length ≤ k ∧ us[k - ns.length]? = some n) := by
    intro k n it h1 h2 h3
    by_cases hk : k < ns.length
    · rw [List.getElem?_append_left hk] at h1
      have hf := items_fst (RA.all s.ps s.rs) y k it (by rw [hits]; exact h2)
      rw [RA.all, List.getElem?_append_left (by omega)] at hf
      refine .inl ⟨hk, ?_, ?_⟩
      · rw [← hrn]
        exact rootNames_of s.rs _ k n it.1 (by rw [hns]; exact h1) hf fun t ht => h3 (by
          obtain ⟨r, xx⟩ := it
          obtain rfl : r = .v t := ht
          rfl)
      · exact (resNames_get s.rs _ k n (by rw [hns]; exact h1)).1
    · rw [List.getElem?_append_right (by omega)] at h1
      exact .inr ⟨by omega, h1⟩
  have huniq : ∀ (k k' n : Nat) it it', (ns ++ us)[k]? = some n → its[k]? = some it → rootOf it ≠ none → (ns ++ us)[k']? = some n → its[k']? = some it' → rootOf it' ≠ none → k' = k := by
    intro k k' n it it' h1 h2 h3 h4 h5 h6
    rcases hrooted k n it h1 h2 h3 with ⟨a1, a2, a3⟩ | ⟨a1, a2⟩
    · rcases hrooted k' n it' h4 h5 h6 with ⟨b1, b2, b3⟩ | ⟨b1, b2⟩
      · omega
      · exact absurd (List.mem_of_getElem? b2) (hnotus n a2).2
    · rcases hrooted k' n it' h4 h5 h6 with ⟨b1, b2, b3⟩ | ⟨b1, b2⟩
      · exact absurd (List.mem_of_getElem? a2) (hnotus n b2).2
      · obtain ⟨c1, c2⟩ := List.getElem?_eq_some_iff.1 a2
        obtain ⟨c3, c4⟩ := List.getElem?_eq_some_iff.1 b2
        have hp := List.pairwise_iff_getElem.1 ha.nodup
        rcases Nat.lt_trichotomy (k - ns.length) (k' - ns.length) with g | g | g
        · exact absurd (c2.trans c4.symm) (hp _ _ c1 c3 g)
        · omega
        · exact absurd (c4.trans c2.symm) (hp _ _ c3 c1 g)
  let E : Nat → Option Ent1 := ents (ns ++ us) its Ls
  have hEu : ∀ n ∈ us, ∃ e b, E n = some e ∧ e.s = .at b 0 ∧ σ'.g n = .at b 0 ∧ ∃ t y, Γ'.rt n = some ⟨true, t, y⟩ := by
    intro n hn
    obtain ⟨k, hk⟩ := List.mem_iff_getElem?.1 hn
    obtain ⟨i, t, y', b, j1, j2, j3, j4, j5⟩ := ha.refs k n hk
    have hklt : k < us.length := (List.getElem?_eq_some_iff.1 hk).1
    have hit : (ns.length + k) < its.length := by omega
    have hitk := List.getElem?_eq_getElem hit
    have hLk := List.getElem?_eq_getElem (show ns.length + k < Ls.length by rw [bk.ll]; exact hit)
    have hfst := items_fst (RA.all s.ps s.rs) y (ns.length + k) _ (by rw [hits]; exact hitk)
    have hnk : (ns ++ us)[ns.length + k]? = some n := by rw [List.getElem?_append_right (by omega)]; simpa using hk
    have hall : ∃ t', (RA.all s.ps s.rs)[ns.length + k]? = some (.b t') := by
      rw [RA.all, List.getElem?_append_right (by omega), hnsl, Nat.add_sub_cancel_left, List.getElem?_map]
      have : k < (refsOf s.ps).length := by rw [← refsOf_length s.ps 0, ← ha.len]; exact hklt
      rw [List.getElem?_eq_getElem this]
      exact ⟨_, rfl⟩
    obtain ⟨t', ht'⟩ := hall
    rw [ht'] at hfst
    simp only [Option.some.injEq] at hfst
    have hvk : vs[ns.length + k]? = some (.pointer (some ⟨b, 0, none⟩)) := by
      rw [← hvs, List.getElem?_append_right (by omega), hvr, hnsl, Nat.add_sub_cancel_left, List.getElem?_map, j1]
      simp only [Option.map_some, Nat.zero_add, Option.some.injEq]
      simp only [Array.getD_eq_getD_getElem?, List.getElem?_toArray, j3, Option.getD_some]
    have hok := bk.ok _ _ _ _ hitk hvk hLk
    revert hfst hok hitk
    generalize its[ns.length + k] = it
    obtain ⟨r, xx⟩ := it
    intro hitk hfst hok
    obtain rfl : RA.b t' = r := hfst
    obtain ⟨hr, b', hs, hv⟩ := hok
    simp only [Value.pointer.injEq, Option.some.injEq, Addr.mk.injEq, and_true] at hv
    subst hv
    exact ⟨_, b, ents_of (ns ++ us) its Ls (ns.length + k) n _ _ _ hnk hitk hLk rfl (fun k' it' g1 g2 g3 => huniq _ k' n _ it' hnk hitk (by simp [rootOf]) g1 g2 g3), hs, j5, t, y', j4⟩
  have hEsome : ∀ n e, E n = some e → ∃ (k : Nat) (it : (r : RA) × r.ty.den) (v : Value) (L : Src × Owns), (ns ++ us)[k]? = some n ∧ its[k]? = some it ∧ vs[k]? = some v ∧ Ls[k]? = some L ∧ rootOf it = some e.r ∧ e.s = L.1 ∧ e.O = L.2 ∧
      ItemOk (cells w') (fun c => c < w'.heap.size ∧ ((calleeBase fz B w σ' s.ps us).S c ∨ (calleeBase fz B w σ' s.ps us).F c ∨ (calleeBase fz B w σ' s.ps us).size ≤ c) ∧ ∀ L ∈ Ls, c ∉ L.2.map (·.1)) it v L := by
    intro n e he
    obtain ⟨k, it, L, j1, j2, j3, j4⟩ := ents_some _ _ _ _ _ he
    have hlt : k < vs.length := by rw [bk.lv]; exact (List.getElem?_eq_some_iff.1 j2).1
    have hv := List.getElem?_eq_getElem hlt
    exact ⟨k, it, vs[k], L, j1, j2, hv, j3, j4.1, j4.2.1, j4.2.2, bk.ok _ _ _ _ j2 hv j3⟩
  have hmemE : ∀ n e, E n = some e → n ∈ rn ∨ n ∈ us := fun n e he => by
    obtain ⟨k, it, v, L, j1, j2, -, -, j4, -⟩ := hEsome n e he
    rcases hrooted k n it j1 j2 (by rw [j4]; simp) with ⟨-, g, -⟩ | ⟨-, g⟩
    · exact .inl g
    · exact .inr (List.mem_of_getElem? g)
  have hous : ∀ n ∈ us, Γ1.rt n = Γ'.rt n ∧ σ1.ow n = σ'.ow n := fun n hn => hkeep n fun g => (hnotus n g).2 hn
  have hW : Work w w' σ1 (calleeBase fz B w σ' s.ps us).F E := {
    own := fun c ⟨n, hn, hc⟩ => by
      obtain ⟨e, b, he, -⟩ := hEu n hn
      exact ⟨n, e, he, by rw [(hous n hn).2]; exact hc⟩
    size := bk.size
    still := bk.still
    same := fun b hb hF' => bk.frame b hb hF'
    mine := fun n e c he hc => by
      obtain ⟨k, it, v, L, j1, j2, jv, j3, j4, j5, j6, j7⟩ := hEsome n e he
      rw [j6] at hc
      exact bk.mine L (List.mem_of_getElem? j3) c hc
    nodup := fun n e he => by
      obtain ⟨k, it, v, L, j1, j2, jv, j3, j4, j5, j6, j7⟩ := hEsome n e he
      rw [j6]; exact bk.nodup L (List.mem_of_getElem? j3)
    disj := fun n e n' e' he he' hne c hc hc' => by
      obtain ⟨k, it, v, L, j1, j2, jv, j3, j4, j5, j6, j7⟩ := hEsome n e he
      obtain ⟨k', it', v', L', i1, i2, iv, i3, i4, i5, i6, i7⟩ := hEsome n' e' he'
      rw [j6] at hc
      rw [i6] at hc'
      exact bk.disj k k' L L' j3 i3 (fun g => by subst g; rw [j1] at i1; exact hne (Option.some.inj i1)) c hc hc'
    live := fun n e p he hp => by
      obtain ⟨k, it, v, L, j1, j2, jv, j3, j4, j5, j6, j7⟩ := hEsome n e he
      rw [j6] at hp
      exact bk.live L (List.mem_of_getElem? j3) p hp }
  -- the sharing
  have hShB : ∀ c, (c < w'.heap.size ∧ ((calleeBase fz B w σ' s.ps us).S c ∨ (calleeBase fz B w σ' s.ps us).F c ∨ (calleeBase fz B w σ' s.ps us).size ≤ c) ∧ ∀ L ∈ Ls, c ∉ L.2.map (·.1)) → fz = true →
      (c < w'.heap.size ∧ (Shr B w σ1 c ∨ (calleeBase fz B w σ' s.ps us).F c ∨ w.heap.size ≤ c) ∧ ∀ n e, E n = some e → c ∉ e.O.map (·.1)) := by
    rintro c ⟨g1, g2, g3⟩ hfzt
    refine ⟨g1, ?_, fun n e he => ?_⟩
    · rcases g2 with (g2 | ⟨g2, -⟩) | g2 | g2
      · exact .inl (hshr c g2)
      · rw [hfzt] at g2; cases g2
      · exact .inr (.inl g2)
      · exact .inr (.inr g2)
    · obtain ⟨k, it, v, L, j1, j2, jv, j3, j4, j5, j6, j7⟩ := hEsome n e he
      rw [j6]; exact g3 L (List.mem_of_getElem? j3)
  have hnoList : fz = false → ∀ (k : Nat) it, its[k]? = some it → it.1.hasList = false := by
    intro hf0 k it hk
    have h1 := items_fst (RA.all s.ps s.rs) y k it (by rw [hits]; exact hk)
    rw [← hfz] at hf0
    simp only [Bool.or_eq_false_iff, List.any_eq_false, Bool.not_eq_true] at hf0
    have hm := List.mem_of_getElem? h1
    simp only [RA.all, List.mem_append, List.mem_map] at hm
    rcases hm with hm | ⟨t, ht, he⟩
    · exact hf0.1 _ hm
    · rw [← he]; exact hf0.2 t ht
  have hroot : ∀ n e, E n = some e → RootOk (cells w') (fun c => c < w'.heap.size ∧ (Shr B w σ1 c ∨ (calleeBase fz B w σ' s.ps us).F c ∨ w.heap.size ≤ c) ∧ ∀ n e, E n = some e → c ∉ e.O.map (·.1)) e.r e.s e.O := by
    intro n e he
    obtain ⟨k, it, v, L, j1, j2, jv, j3, j4, j5, j6, j7⟩ := hEsome n e he
    have hr := j7.root j4
    rw [j5, j6]
    cases hfz' : fz with
    | true =>
      rw [hfz'] at hr hShB
      exact hr.mono fun c hc => hShB c hc rfl
    | false => exact hr.anySh (rootOf_list j4 (hnoList hfz' k it j2))
  obtain ⟨hM, hMsh⟩ := h1.merge (hov1.trans hov') hW hroot (fun i b e hb he => by
      rcases hmemE _ e he with g | g
      · exact absurd (hnotus _ g).1 (by omega)
      · obtain ⟨e', b', he', hs, hg, t, y', hrt⟩ := hEu _ g
        rw [he] at he'
        simp only [Option.some.injEq] at he'
        subst he'
        have := h'.pins i b hb (by rw [hrt]; simp)
        rw [hg] at this
        rw [hs]; exact this) (f := AV.deeps us) (fun av v hav => by
      have key : ∀ k q, (av = .ptr k q ∨ av = .sref k q ∨ ∃ o l, av = .swin k q o l) → k ∉ us → E k = none := fun k q hk hku => by
        cases he : E k with
        | none => rfl
        | some e =>
          rcases hmemE k e he with g | g
          · have hn := hnone k g
            rcases hk with rfl | rfl | ⟨o, l, rfl⟩
            · obtain ⟨r, t, b, o, g1, -⟩ := hav; rw [hn] at g1; cases g1
            · obtain ⟨r, e, s, g1, -⟩ := hav; rw [hn] at g1; cases g1
            · obtain ⟨r, e, s, _, _, _, g1, -⟩ := hav; rw [hn] at g1; cases g1
          · exact absurd g hku
      cases av with
      | sref m p =>
        simp only [AV.deeps]
        split
        · exact .inl rfl
        · rename_i hm
          refine .inr ⟨rfl, fun k p' hk => .inl (key k p' hk ?_)⟩
          rcases hk with g | g | ⟨o, l, g⟩ <;> cases g
          simpa using hm
      | swin m p o l =>
        simp only [AV.deeps]
        split
        · exact .inl rfl
        · rename_i hm
          refine .inr ⟨rfl, fun k p' hk => .inl (key k p' hk ?_)⟩
          rcases hk with g | g | ⟨o, l, g⟩ <;> cases g
          simpa using hm
      | ptr m p =>
        simp only [AV.deeps]
        split
        · rename_i hm
          cases p with
          | cons => exact .inl rfl
          | nil =>
            refine .inr ⟨rfl, fun k p' hk => .inr ?_⟩
            rcases hk with g | g | ⟨o, l, g⟩ <;> cases g
            obtain ⟨e, b, he, hs, hg, -⟩ := hEu m (by simpa using hm)
            exact ⟨rfl, e, b, he, hs, by rw [hg1]; exact hg⟩
        · rename_i hm
          refine .inr ⟨rfl, fun k p' hk => .inl (key k p' hk ?_)⟩
          rcases hk with g | g | ⟨o, l, g⟩ <;> cases g
          simpa using hm
      | _ => exact .inr ⟨rfl, fun k p' hk => by rcases hk with g | g | ⟨o, l, g⟩ <;> cases g⟩)
  -- the results
  have hres : ∀ (k : Nat) av, (avsOf ns its)[k]? = some av → ∃ u, vr[k]? = some u ∧ AVOk (memo w' none) (mergedG σ1 E).g (merged Γ1 (AV.deeps us) E).rt (Shr B w' (mergedG σ1 E)) av u := by
    intro k av hk
    obtain ⟨n, it, g1, g2, rfl⟩ := avsOf_get _ _ _ _ hk
    have hkl : k < vr.length := by rw [hvr, ← hnsl]; exact (List.getElem?_eq_some_iff.1 g1).1
    have hvk := List.getElem?_eq_getElem hkl
    have hvsk : vs[k]? = some vr[k] := by rw [← hvs, List.getElem?_append_left hkl]; exact hvk
    have hkL : k < Ls.length := by rw [bk.ll]; exact (List.getElem?_eq_some_iff.1 g2).1
    have hLk := List.getElem?_eq_getElem hkL
    have hok := bk.ok _ _ _ _ g2 hvsk hLk
    have hnk : (ns ++ us)[k]? = some n := by rw [List.getElem?_append_left (by omega)]; exact g1
    refine ⟨vr[k], hvk, ?_⟩
    have hents : ∀ r, rootOf it = some r → E n = some ⟨r, Ls[k].1, Ls[k].2⟩ := fun r hr => ents_of (ns ++ us) its Ls k n it _ r hnk g2 hLk hr (fun k' it' a1 a2 a3 => huniq _ k' n _ it' hnk g2 (by rw [hr]; simp) a1 a2 a3)
    obtain ⟨r, xx⟩ := it
    cases r with
    | v t =>
      obtain ⟨hv, -⟩ := hok
      cases hfz' : fz with
      | true =>
        rw [hfz'] at hv hShB hMsh
        exact hv.frame (fun _ _ _ => rfl) fun c hc => hMsh c (hShB c hc rfl)
      | false => exact hv.anySh (hnoList hfz' k _ g2)
    | o e =>
      obtain ⟨hs, -⟩ := hok
      have he := hents _ rfl
      refine ⟨_, e, .one vr[k], merged_rt_some he, ?_, rfl⟩
      rw [mergedG_g_some he]
      show some (_, Ls[k].1) = _
      rw [hs]
    | b t =>
      obtain ⟨-, b, hs, hv⟩ := hok
      have he := hents _ rfl
      refine ⟨_, t, b, 0, merged_rt_some he, ?_, hv⟩
      rw [mergedG_g_some he]
      show some (_, Ls[k].1) = _
      rw [hs]
  have hΓ2 : (⟨fun i => (Γ1.sl i).mapv (AV.deeps (us.reverse ++ [])), fun n => match newRoots (ns ++ us) its n with
        | some r => some r
        | none => Γ1.rt n, none⟩ : AE) = merged Γ1 (AV.deeps us) E := by
    have e1 : AV.deeps (us.reverse ++ []) = AV.deeps us := by
      funext av
      cases av <;> simp [AV.deeps]
    rw [e1]
    simp only [merged, AE.mapv, E]
    congr 1
    funext n
    rw [newRoots_ents _ _ Ls n bk.ll]
    cases ents (ns ++ us) its Ls n <;> rfl
  have hz : (match o.dst with
      | none => K (merged Γ1 (AV.deeps us) E)
      | some d => match avsOf (resNames s.rs (d + 1000)) its with
        | [v] => K ((merged Γ1 (AV.deeps us) E).set d v)
        | vs => K ((merged Γ1 (AV.deeps us) E).put d (.tup vs))) = some z := by
    rw [hus, hns, hits] at hz3
    rw [← hΓ2]
    exact hz3
  cases hd : o.dst with
  | none =>
    rw [hd] at hz hnext
    simp only [] at hz
    exact hnext _ w' _ _ hM hz
  | some d =>
    have hns' : resNames s.rs (d + 1000) = ns := by rw [← hns, hd]; rfl
    rw [hd] at hz hnext
    simp only [hns'] at hz
    have hlen : (avsOf ns its).length = vr.length := by rw [avsOf_length _ _ (by omega), hnsl, hvr]
    split at hz
    · rename_i av hav
      rw [hav] at hlen hres
      obtain ⟨u, hu, hok⟩ := hres 0 av rfl
      have hvr1 : vr = [u] := by
        match vr, hlen, hu with
        | [u'], _, hu => simp only [List.getElem?_cons_zero, Option.some.injEq] at hu; rw [hu]
      refine hnext _ w' _ _ (hM.putd (sv := .one av) (v := packV vr) (d := d) hN (fun _ => ?_)) hz
      rw [hvr1]; exact hok
    · rename_i hne
      refine hnext _ w' _ _ (hM.putd (sv := .tup (avsOf ns its)) (v := packV vr) (d := d) hN (fun _ => ?_)) hz
      refine ⟨vr.toArray, ?_, fun k av hk => ?_⟩
      · match vr, hlen with
        | [], _ => rfl
        | [u], hlen =>
          obtain ⟨av, hav⟩ := List.length_eq_one_iff.1 (hlen.trans rfl)
          exact absurd hav (hne av)
        | _ :: _ :: _, _ => rfl
      · obtain ⟨u, hu, hok⟩ := hres k av hk
        exact ⟨u, by simpa using hu, hok⟩

end
end Go.Ab

/- What is kept at a cut and at a loop's head. Conditions: as each lemma states. -/
namespace Go.Ab

theorem noDup_nodup : ∀ (l : List Nat), noDup l = true → l.Nodup
  | [], _ => List.nodup_nil
  | a :: l, h => by
    simp only [noDup, Bool.and_eq_true, Bool.not_eq_true', List.contains_eq_mem, decide_eq_false_iff_not] at h
    exact List.nodup_cons.2 ⟨h.1, noDup_nodup l h.2⟩

section
variable {ρ : Type}

/-- One slot of what is kept. -/
inductive SlOk (nm : List Nat) (Γ : AE) (es : Shape) (i : Nat) : SV → Prop
  | dead : SlOk nm Γ es i (.one .dead)
  | same (av : AV) : Γ.get i = av → av ≠ .dead → (∀ k q, (av = .ptr k q ∨ av = .sref k q ∨ ∃ o l, av = .swin k q o l) → k ∈ nm) → SlOk nm Γ es i (.one av)
  | made (n : Nat) (e : Ty) : Ent.own i n e ∈ es → Γ.rt n = none → n ∈ nm → (Γ.get i = .nils ∨ Γ.get i = .empt) → SlOk nm Γ es i (.one (.sref n []))

theorem SlOk.cons {nm Γ es i v} (h : SlOk nm Γ es i v) (e : Ent) : SlOk nm Γ (e :: es) i v := by
  cases h with
  | dead => exact .dead
  | same av g1 g2 g3 => exact .same av g1 g2 g3
  | made n e' g1 g2 g3 g4 => exact .made n e' (List.mem_cons_of_mem _ g1) g2 g3 g4

inductive RtOk (Γ : AE) (es : Shape) (n : Nat) : Option Root → Prop
  | none : n ∉ es.names → RtOk Γ es n none
  | same (r : Root) : n ∈ es.names → Γ.rt n = some r → RtOk Γ es n (some r)
  | made (i : Nat) (e : Ty) : n ∈ es.names → n < pinned → Ent.own i n e ∈ es → Γ.rt n = Option.none → (Γ.get i = .nils ∨ Γ.get i = .empt) → RtOk Γ es n (some ⟨false, .list true e, []⟩)

theorem set_sl (Γ : AE) (i j : Nat) (v : AV) : (Γ.set i v).sl j = if j = i then .one v else Γ.sl j := by
  simp only [AE.set, AE.put]
  by_cases h : j = i
  · simp [h]
  · have : (j == i) = false := by simpa using h
    simp [this, h]

theorem setRt_rt (Γ : AE) (n m : Nat) (r : Option Root) : (Γ.setRt n r).rt m = if m = n then r else Γ.rt m := by
  simp only [AE.setRt]
  by_cases h : m = n
  · simp [h]
  · have : (m == n) = false := by simpa using h
    simp [this, h]

theorem rest_sound (nm : List Nat) (Γ : AE) : ∀ (es : Shape) {K : es.ty.den → Rs ρ} {z : ρ}, (∀ n ∈ es.names, n ∈ nm) → es.names.Nodup → Shape.rest nm Γ es K = some z →
    ∃ x, K x = some z ∧ (es.enc x).pd = none ∧ (∀ i, SlOk nm Γ es i ((es.enc x).sl i)) ∧ ∀ n, RtOk Γ es n ((es.enc x).rt n)
  | [], K, z, _, _, h => ⟨(), h, rfl, fun i => .dead, fun n => .none (by simp [Shape.names])⟩
  | .sv i t :: r, K, z, hnm, hnd, h => by
    simp only [Shape.rest] at h
    split at h
    · rename_i t' x hx
      split at h
      · rename_i ht
        subst ht
        obtain ⟨y, h1, h2, h3, h4⟩ := rest_sound nm Γ r hnm hnd h
        refine ⟨(x, y), h1, h2, fun j => ?_, fun n => ?_⟩
        · show SlOk nm Γ _ j (((Shape.enc r y).set i (.val t' x)).sl j)
          rw [set_sl]
          split
          · rename_i e
            subst e
            exact .same _ hx (by simp) (by rintro k q (g | g | ⟨o, l, g⟩) <;> cases g)
          · exact (h3 j).cons _
        · show RtOk Γ _ n ((Shape.enc r y).rt n)
          cases hrt : (Shape.enc r y).rt n <;> have := h4 n <;> rw [hrt] at this <;> cases this
          · exact .none (by assumption)
          · exact .same _ (by assumption) (by assumption)
          · rename_i i' e' g1 g1' g2 g3 g4; exact .made i' e' g1 g1' (List.mem_cons_of_mem _ g2) g3 g4
      · cases h
    · cases h
  | .own i n e :: r, K, z, hnm, hnd, h => by
    simp only [Shape.names, List.nodup_cons] at hnd
    have hnm' : ∀ m ∈ Shape.names r, m ∈ nm := fun m hm => hnm m (by simp [Shape.names, hm])
    have hn : n ∈ nm := hnm n (by simp [Shape.names])
    have fin : ∀ (l : List e.den) (K' : (Shape.ty r).den → Rs ρ), Shape.rest nm Γ r K' = some z → (∀ y, K' y = K (l, y)) →
        SlOk nm Γ (.own i n e :: r) i (.one (.sref n [])) → RtOk Γ (.own i n e :: r) n (some ⟨false, .list true e, l⟩) →
        ∃ x, K x = some z ∧ (Shape.enc (.own i n e :: r) x).pd = none ∧ (∀ j, SlOk nm Γ (.own i n e :: r) j ((Shape.enc (.own i n e :: r) x).sl j)) ∧ ∀ m, RtOk Γ (.own i n e :: r) m ((Shape.enc (.own i n e :: r) x).rt m) := by
      intro l K' h hK hs hr
      obtain ⟨y, h1, h2, h3, h4⟩ := rest_sound nm Γ r hnm' hnd.2 h
      refine ⟨(l, y), by rw [← hK]; exact h1, h2, fun j => ?_, fun m => ?_⟩
      · show SlOk nm Γ _ j ((((Shape.enc r y).setRt n (some ⟨false, .list true e, l⟩)).set i (.sref n [])).sl j)
        rw [set_sl]
        split
        · rename_i e; subst e; exact hs
        · exact (h3 j).cons _
      · show RtOk Γ _ m (((Shape.enc r y).setRt n (some ⟨false, .list true e, l⟩)).rt m)
        rw [setRt_rt]
        split
        · rename_i e; subst e; exact hr
        · rename_i hmn
          cases hrt : (Shape.enc r y).rt m with
          | none =>
            have := h4 m
            rw [hrt] at this
            cases this with
            | none g => exact .none (by simp only [Shape.names, List.mem_cons, not_or]; exact ⟨hmn, g⟩)
          | some rr =>
            have := h4 m
            rw [hrt] at this
            cases this with
            | same _ g1 g2 => exact .same rr (by simp [Shape.names, g1]) g2
            | made i' e' g1 g1' g2 g3 g4 => exact .made i' e' (by simp [Shape.names, g1]) g1' (List.mem_cons_of_mem _ g2) g3 g4
    simp only [Shape.rest] at h
    split at h
    · rename_i m hm
      rcases bif_some h with ⟨hmn, h⟩ | ⟨-, g⟩
      · obtain rfl : m = n := by simpa using hmn
        split at h
        · rename_i e' l hr
          split at h
          · rename_i he
            subst he
            exact fin l _ h (fun _ => rfl) (.same _ hm (by simp) (by rintro k q (g | g | ⟨o, l, g⟩) <;> cases g; exact hn)) (.same _ (by simp [Shape.names]) hr)
          · cases h
        · cases h
      · cases g
    · rename_i hi
      split at h
      · rename_i hr
        obtain ⟨hp, h⟩ := (bif_some h).elim id fun h => by cases h.2
        exact fin [] _ h (fun _ => rfl) (.made n e (by simp) hr hn (.inl hi)) (.made i e (by simp [Shape.names]) (by simpa using hp) (by simp) hr (.inl hi))
      · cases h
    · rename_i hi
      split at h
      · rename_i hr
        obtain ⟨hp, h⟩ := (bif_some h).elim id fun h => by cases h.2
        exact fin [] _ h (fun _ => rfl) (.made n e (by simp) hr hn (.inr hi)) (.made i e (by simp [Shape.names]) (by simpa using hp) (by simp) hr (.inr hi))
      · cases h
    · cases h
  | .box n t :: r, K, z, hnm, hnd, h => by
    simp only [Shape.names, List.nodup_cons] at hnd
    have hnm' : ∀ m ∈ Shape.names r, m ∈ nm := fun m hm => hnm m (by simp [Shape.names, hm])
    simp only [Shape.rest] at h
    split at h
    · rename_i t' x hr
      split at h
      · rename_i ht
        subst ht
        obtain ⟨y, h1, h2, h3, h4⟩ := rest_sound nm Γ r hnm' hnd.2 h
        refine ⟨(x, y), h1, h2, fun j => (h3 j).cons _, fun m => ?_⟩
        show RtOk Γ _ m (((Shape.enc r y).setRt n (some ⟨true, t', x⟩)).rt m)
        rw [setRt_rt]
        split
        · rename_i e; subst e; exact .same _ (by simp [Shape.names]) hr
        · rename_i hmn
          cases hrt : (Shape.enc r y).rt m with
          | none =>
            have := h4 m
            rw [hrt] at this
            cases this with
            | none g => exact .none (by simp only [Shape.names, List.mem_cons, not_or]; exact ⟨hmn, g⟩)
          | some rr =>
            have := h4 m
            rw [hrt] at this
            cases this with
            | same _ g1 g2 => exact .same rr (by simp [Shape.names, g1]) g2
            | made i' e' g1 g1' g2 g3 g4 => exact .made i' e' (by simp [Shape.names, g1]) g1' (List.mem_cons_of_mem _ g2) g3 g4
      · cases h
    · cases h
  | .ptr i n p :: r, K, z, hnm, hnd, h => by
    simp only [Shape.rest] at h
    split at h
    · rename_i m q hi
      obtain ⟨hc, h⟩ := (bif_some h).elim id fun h => by cases h.2
      simp only [Bool.and_eq_true, beq_iff_eq, List.contains_eq_mem, decide_eq_true_eq] at hc
      obtain ⟨hn, rfl, hp⟩ := hc
      obtain rfl := pathEq_eq _ _ hp
      obtain ⟨y, h1, h2, h3, h4⟩ := rest_sound nm Γ r hnm hnd h
      refine ⟨y, h1, h2, fun j => ?_, fun n' => ?_⟩
      · show SlOk nm Γ _ j (((Shape.enc r y).set i (.ptr m q)).sl j)
        rw [set_sl]
        split
        · rename_i e; subst e
          exact .same _ hi (by simp) (by rintro k q' (g | g | ⟨o, l, g⟩) <;> cases g; exact hn)
        · exact (h3 j).cons _
      · show RtOk Γ _ n' ((Shape.enc r y).rt n')
        cases hrt : (Shape.enc r y).rt n' <;> have := h4 n' <;> rw [hrt] at this <;> cases this
        · exact .none (by assumption)
        · exact .same _ (by assumption) (by assumption)
        · rename_i i' e' g1 g1' g2 g3 g4; exact .made i' e' g1 g1' (List.mem_cons_of_mem _ g2) g3 g4
    · cases h
  | .vp i t :: r, K, z, hnm, hnd, h => by
    simp only [Shape.rest] at h
    split at h
    · rename_i t' x hx
      split at h
      · rename_i ht
        subst ht
        obtain ⟨y, h1, h2, h3, h4⟩ := rest_sound nm Γ r hnm hnd h
        refine ⟨(x, y), h1, h2, fun j => ?_, fun n => ?_⟩
        · show SlOk nm Γ _ j (((Shape.enc r y).set i (.vptr t' x)).sl j)
          rw [set_sl]
          split
          · rename_i e
            subst e
            exact .same _ hx (by simp) (by rintro k q (g | g | ⟨o, l, g⟩) <;> cases g)
          · exact (h3 j).cons _
        · show RtOk Γ _ n ((Shape.enc r y).rt n)
          cases hrt : (Shape.enc r y).rt n <;> have := h4 n <;> rw [hrt] at this <;> cases this
          · exact .none (by assumption)
          · exact .same _ (by assumption) (by assumption)
          · rename_i i' e' g1 g1' g2 g3 g4; exact .made i' e' g1 g1' (List.mem_cons_of_mem _ g2) g3 g4
      · cases h
    · cases h
  | .ref i n p :: r, K, z, hnm, hnd, h => by
    simp only [Shape.rest] at h
    split at h
    · rename_i m q hi
      obtain ⟨hc, h⟩ := (bif_some h).elim id fun h => by cases h.2
      simp only [Bool.and_eq_true, beq_iff_eq, List.contains_eq_mem, decide_eq_true_eq] at hc
      obtain ⟨hn, rfl, hp⟩ := hc
      obtain rfl := pathEq_eq _ _ hp
      obtain ⟨y, h1, h2, h3, h4⟩ := rest_sound nm Γ r hnm hnd h
      refine ⟨y, h1, h2, fun j => ?_, fun n' => ?_⟩
      · show SlOk nm Γ _ j (((Shape.enc r y).set i (.sref m q)).sl j)
        rw [set_sl]
        split
        · rename_i e; subst e
          exact .same _ hi (by simp) (by rintro k q' (g | g | ⟨o, l, g⟩) <;> cases g; exact hn)
        · exact (h3 j).cons _
      · show RtOk Γ _ n' ((Shape.enc r y).rt n')
        cases hrt : (Shape.enc r y).rt n' <;> have := h4 n' <;> rw [hrt] at this <;> cases this
        · exact .none (by assumption)
        · exact .same _ (by assumption) (by assumption)
        · rename_i i' e' g1 g1' g2 g3 g4; exact .made i' e' g1 g1' (List.mem_cons_of_mem _ g2) g3 g4
    · cases h
  | .win i n p :: r, K, z, hnm, hnd, h => by
    simp only [Shape.rest] at h
    split at h
    · rename_i m q o k hi
      obtain ⟨hc, h⟩ := (bif_some h).elim id fun h => by cases h.2
      simp only [Bool.and_eq_true, beq_iff_eq, List.contains_eq_mem, decide_eq_true_eq] at hc
      obtain ⟨hn, rfl, hp⟩ := hc
      obtain rfl := pathEq_eq _ _ hp
      obtain ⟨y, h1, h2, h3, h4⟩ := rest_sound nm Γ r hnm hnd h
      refine ⟨((o : Int), (k : Int), y), h1, h2, fun j => ?_, fun n' => ?_⟩
      · show SlOk nm Γ _ j (((Shape.enc r y).set i (.swin m q (o : Int).toNat (k : Int).toNat)).sl j)
        rw [set_sl]
        split
        · rename_i e; subst e
          exact .same _ (by rw [hi]; simp) (by simp) (by rintro k q' (g | g | ⟨o, l, g⟩) <;> cases g; exact hn)
        · exact (h3 j).cons _
      · show RtOk Γ _ n' ((Shape.enc r y).rt n')
        cases hrt : (Shape.enc r y).rt n' <;> have := h4 n' <;> rw [hrt] at this <;> cases this
        · exact .none (by assumption)
        · exact .same _ (by assumption) (by assumption)
        · rename_i i' e' g1 g1' g2 g3 g4; exact .made i' e' g1 g1' (List.mem_cons_of_mem _ g2) g3 g4
    · cases h

end

/-- The slots that a shape speaks of lie in the frame. -/
def Ent.fits (N : Nat) : Ent → Bool
  | .sv i _ | .own i _ _ | .ptr i _ _ | .ref i _ _ | .win i _ _ | .vp i _ => decide (i < N)
  | .box _ _ => true

def Shape.fits (N : Nat) (es : Shape) : Bool := es.all (Ent.fits N)

section
variable {ρ : Type} {B : Base} {N : Nat} {tm : Nat → Value} {w : World}

theorem get_slot {Γ : AE} {σ : Gh} (h : Rel B Γ N tm w σ) {i : Nat} (hi : i < N) : AVOk (memo w σ.ov) σ.g Γ.rt (Shr B w σ) (Γ.get i) (tm i) := by
  have := h.slots i hi
  simp only [AE.get]
  revert this
  cases Γ.sl i with
  | one v => exact fun h => h
  | tup vs => exact fun _ => trivial

theorem Rel.vals {nm : List Nat} : ∀ (es : Shape) {Γ : AE} {σ : Gh} (_ : Rel B Γ N tm w σ) (_ : Γ.pd = none) {K : es.ty.den → Rs ρ} {z : ρ} (_ : es.fits N = true) (_ : ∀ n ∈ es.names, n ∈ nm) (_ : es.names.Nodup) (_ : Shape.vals nm es Γ K = some z),
    ∃ x Γf σf, K x = some z ∧ Rel B Γf N tm w σf ∧ Γf.pd = none ∧ (∀ (j : Nat) t y, Γ.get j = .val t y → Γf.get j = .val t y) ∧ (es.enc x).pd = none ∧ (∀ i, SlOk nm Γf es i ((es.enc x).sl i)) ∧ ∀ n, RtOk Γf es n ((es.enc x).rt n) := by
  intro es
  induction es with
  | nil =>
    intro Γ σ h hpd K z hf hnm hnd hz
    obtain ⟨x, h1, h2, h3, h4⟩ := rest_sound nm Γ [] hnm hnd hz
    exact ⟨x, Γ, σ, h1, h, hpd, fun _ _ _ g => g, h2, h3, h4⟩
  | cons e r ih =>
    intro Γ σ h hpd K z hf hnm hnd hz
    cases e with
    | sv i t =>
      simp only [Shape.fits, List.all_cons, Bool.and_eq_true, Ent.fits, decide_eq_true_eq] at hf
      simp only [Shape.vals] at hz
      have key : ∃ x Γ1 σ1, Shape.vals nm r (Γ1.set i (.val t x)) (fun y => K (x, y)) = some z ∧ Rel B Γ1 N tm w σ1 ∧ Γ1.pd = none ∧ VOk (memo w σ1.ov) (Shr B w σ1) t x (tm i) ∧
          ∀ (j : Nat) t' y, Γ.get j = .val t' y → (Γ1.set i (.val t x)).get j = .val t' y := by
        have ha := get_slot h hf.1
        have other : (∀ t' y, Γ.get i ≠ .val t' y) → ∃ x Γ1 σ1, Shape.vals nm r (Γ1.set i (.val t x)) (fun y => K (x, y)) = some z ∧ Rel B Γ1 N tm w σ1 ∧ Γ1.pd = none ∧ VOk (memo w σ1.ov) (Shr B w σ1) t x (tm i) ∧
          ∀ (j : Nat) t' y, Γ.get j = .val t' y → (Γ1.set i (.val t x)).get j = .val t' y := fun hne => by
          obtain ⟨x, Γ1, σ1, h1, h2, h3, h4, -, h5⟩ := h.asVB (.inl ha) hz
          refine ⟨x, Γ1, σ1, h1, h2, h4.pd.trans hpd, h3, fun j t' y hj => ?_⟩
          have hji : j ≠ i := fun e => hne t' y (e ▸ hj)
          have := h5.2 j t' y hj
          simp only [AE.get] at this ⊢
          rw [set_sl, if_neg hji]; exact this
        cases hg : Γ.get i with
        | val t' x =>
          rw [hg] at hz ha
          simp only [AE.asV] at hz
          split at hz
          · rename_i ht
            subst ht
            refine ⟨x, Γ, σ, hz, h, hpd, ha, fun j t2 y hj => ?_⟩
            by_cases e : j = i
            · subst e
              rw [hg] at hj
              simp only [AE.get]
              rw [set_sl, if_pos rfl]
              exact hj
            · simp only [AE.get] at hj ⊢
              rw [set_sl, if_neg e]
              exact hj
          · cases hz
        | _ => exact other (by rw [hg]; intro t' y e; cases e)
      obtain ⟨x, Γ1, σ1, k1, k2, k3, k4, k5⟩ := key
      have k6 : Rel B (Γ1.set i (.val t x)) N tm w σ1 := k2.put (v := tm i) (fun _ => k4) (fun j _ => by split <;> simp [*])
      obtain ⟨y, Γf, σf, j1, j2, j3, j4, j5, j6, j7⟩ := ih k6 k3 (by simpa [Shape.fits] using hf.2) hnm hnd k1
      have hx : Γf.get i = .val t x := j4 i t x (by simp only [AE.get]; rw [set_sl, if_pos rfl])
      refine ⟨(x, y), Γf, σf, j1, j2, j3, fun j t' y' hj => j4 j t' y' (k5 j t' y' hj), j5, fun j => ?_, fun n => ?_⟩
      · show SlOk nm Γf _ j (((Shape.enc r y).set i (.val t x)).sl j)
        rw [set_sl]
        split
        · rename_i e
          subst e
          exact .same _ hx (by simp) (by rintro k q (g | g | ⟨o, l, g⟩) <;> cases g)
        · exact (j6 j).cons _
      · show RtOk Γf _ n ((Shape.enc r y).rt n)
        cases hrt : (Shape.enc r y).rt n <;> have := j7 n <;> rw [hrt] at this <;> cases this
        · exact .none (by assumption)
        · exact .same _ (by assumption) (by assumption)
        · rename_i i' e' g1 g1' g2 g3 g4; exact .made i' e' g1 g1' (List.mem_cons_of_mem _ g2) g3 g4
    | own i n e => exact (fun ⟨x, h1, h2, h3, h4⟩ => ⟨x, Γ, σ, h1, h, hpd, fun _ _ _ g => g, h2, h3, h4⟩) (rest_sound nm Γ _ hnm hnd hz)
    | box n t => exact (fun ⟨x, h1, h2, h3, h4⟩ => ⟨x, Γ, σ, h1, h, hpd, fun _ _ _ g => g, h2, h3, h4⟩) (rest_sound nm Γ _ hnm hnd hz)
    | ptr i n p => exact (fun ⟨x, h1, h2, h3, h4⟩ => ⟨x, Γ, σ, h1, h, hpd, fun _ _ _ g => g, h2, h3, h4⟩) (rest_sound nm Γ _ hnm hnd hz)
    | vp i n => exact (fun ⟨x, h1, h2, h3, h4⟩ => ⟨x, Γ, σ, h1, h, hpd, fun _ _ _ g => g, h2, h3, h4⟩) (rest_sound nm Γ _ hnm hnd hz)
    | ref i n p => exact (fun ⟨x, h1, h2, h3, h4⟩ => ⟨x, Γ, σ, h1, h, hpd, fun _ _ _ g => g, h2, h3, h4⟩) (rest_sound nm Γ _ hnm hnd hz)
    | win i n p => exact (fun ⟨x, h1, h2, h3, h4⟩ => ⟨x, Γ, σ, h1, h, hpd, fun _ _ _ g => g, h2, h3, h4⟩) (rest_sound nm Γ _ hnm hnd hz)

theorem own_names : ∀ (r : Shape) {i n e}, Ent.own i n e ∈ r → n ∈ r.names
  | a :: r, i, n, e, h => by
    rcases List.mem_cons.1 h with h | h
    · subst h; simp [Shape.names]
    · have := own_names r h
      cases a <;> simp [Shape.names, this]

/-- The slot that holds the slice root n. -/
def ownSlot : Shape → Nat → Nat
  | [], _ => 0
  | .own i m _ :: r, n => if m = n then i else ownSlot r n
  | _ :: r, n => ownSlot r n

theorem ownSlot_eq : ∀ (es : Shape) {i n e}, es.names.Nodup → Ent.own i n e ∈ es → ownSlot es n = i
  | .own j m e' :: r, i, n, e, hnd, h => by
    simp only [Shape.names, List.nodup_cons] at hnd
    simp only [ownSlot]
    rcases List.mem_cons.1 h with h | h
    · cases h; simp
    · have := own_names r h
      rw [if_neg (fun g => hnd.1 (by rw [g]; exact this))]
      exact ownSlot_eq r hnd.2 h
  | .sv j t :: r, i, n, e, hnd, h => by
    rcases List.mem_cons.1 h with h | h
    · cases h
    · exact ownSlot_eq r hnd h
  | .box m t :: r, i, n, e, hnd, h => by
    simp only [Shape.names, List.nodup_cons] at hnd
    rcases List.mem_cons.1 h with h | h
    · cases h
    · exact ownSlot_eq r hnd.2 h
  | .ptr j m p :: r, i, n, e, hnd, h => by
    rcases List.mem_cons.1 h with h | h
    · cases h
    · exact ownSlot_eq r hnd h
  | .vp j m :: r, i, n, e, hnd, h => by
    rcases List.mem_cons.1 h with h | h
    · cases h
    · exact ownSlot_eq r hnd h
  | .ref j m p :: r, i, n, e, hnd, h => by
    rcases List.mem_cons.1 h with h | h
    · cases h
    · exact ownSlot_eq r hnd h
  | .win j m p :: r, i, n, e, hnd, h => by
    rcases List.mem_cons.1 h with h | h
    · cases h
    · exact ownSlot_eq r hnd h

theorem Rel.cut {Γ : AE} {σ : Gh} (h : Rel B Γ N tm w σ) (hpd : Γ.pd = none) {es : Shape} (hf : es.fits N = true) (hnd : es.names.Nodup) {X : AE} (hX : X.pd = none) (hs : ∀ i, SlOk es.names Γ es i (X.sl i)) (hr : ∀ n, RtOk Γ es n (X.rt n)) :
    ∃ σ', Rel B X N tm w σ' := by
  have hov := h.ov_none hpd
  let σ' : Gh := ⟨fun n => match Γ.rt n with | some _ => σ.g n | none => .one (tm (ownSlot es n)), fun n => match X.rt n with | some _ => σ.ow n | none => [], none⟩
  have hg : ∀ n r, Γ.rt n = some r → σ'.g n = σ.g n := fun n r e => by simp only [σ', e]
  have hg' : ∀ n, Γ.rt n = none → σ'.g n = .one (tm (ownSlot es n)) := fun n e => by simp only [σ', e]
  have ho : ∀ n r, X.rt n = some r → σ'.ow n = σ.ow n := fun n r e => by simp only [σ', e]
  have ho' : ∀ n, X.rt n = none → σ'.ow n = [] := fun n e => by simp only [σ', e]
  have hsub : ∀ n p, p ∈ σ'.ow n → p ∈ σ.ow n := fun n p hp => by
    cases e : X.rt n with
    | none => rw [ho' n e] at hp; cases hp
    | some r => rw [ho n r e] at hp; exact hp
  have hsubc : ∀ n c, c ∈ (σ'.ow n).map (·.1) → c ∈ (σ.ow n).map (·.1) := fun n c hc => by
    obtain ⟨p, hp, rfl⟩ := List.mem_map.1 hc
    exact List.mem_map_of_mem (hsub n p hp)
  have hsh : ∀ c, Shr B w σ c → Shr B w σ' c := fun c hc => ⟨hc.1, hc.2.1, fun ⟨n, hn⟩ => hc.2.2 ⟨n, hsubc n c hn⟩⟩
  have hmem : memo w σ'.ov = memo w σ.ov := by rw [hov]
  have hin : ∀ n, n ∈ es.names → ∃ r, X.rt n = some r := fun n hn => by
    cases hrt : X.rt n <;> have := hr n <;> rw [hrt] at this <;> cases this
    · exact absurd hn (by assumption)
    · exact ⟨_, rfl⟩
    · exact ⟨_, rfl⟩
  have hsame : ∀ n r, n ∈ es.names → Γ.rt n = some r → X.rt n = some r := fun n r hn hg => by
    cases hrt : X.rt n <;> have := hr n <;> rw [hrt] at this <;> cases this
    · exact absurd hn (by assumption)
    · rename_i h1 h2; rw [hg] at h2; exact h2.symm
    · rename_i h1 h2 h3; rw [hg] at h2; cases h2
  have hslot : ∀ i e n, Ent.own i n e ∈ es → i < N := fun i e n hm => by
    have := List.all_eq_true.1 hf _ hm
    simpa [Ent.fits] using this
  refine ⟨σ', fun n r hn => ?_, fun n hn => ho' n hn, fun n => ?_, fun n m hne c hc hc' => h.disj n m hne c (hsubc n c hc) (hsubc m c hc'), fun n p hp => h.live n p (hsub n p hp), fun i hi => ?_, ?_, h.size, h.frame, fun c ⟨n, hn⟩ => h.mine c ⟨n, hsubc n c hn⟩, fun i b hb hne => ?_, h.still⟩
  · have := hr n
    rw [hn] at this
    rw [hmem, ho n r hn]
    cases this with
    | same _ g1 g2 =>
      rw [hg n r g2]
      exact (h.roots n r g2).mono hsh
    | made i e g1 g1' g2 g3 g4 =>
      rw [hg' n g3, ownSlot_eq es hnd g2, h.norm n g3]
      have hi := hslot i e n g2
      have ha := get_slot h hi
      refine ⟨[], [], ?_, by simp, .inr ⟨rfl, ⟨_, rfl⟩, ⟨e, rfl⟩, rfl⟩⟩
      show decL _ true e.cells (dec _ e) (some (tm i)) = some (([] : List e.den), [], [])
      rcases g4 with g4 | g4
      · rw [g4] at ha
        have ha : tm i = .slice none 0 0 := ha
        rw [ha]; rfl
      · rw [g4] at ha
        obtain ⟨A, ha, hA⟩ := ha
        rw [ha]
        cases A with
        | none => rfl
        | some A => simp [decL, hA A rfl, collect]
  · cases e : X.rt n with
    | none => rw [ho' n e]; simp
    | some r => rw [ho n r e]; exact h.nodup n
  · have hsl := hs i
    revert hsl
    generalize X.sl i = sv
    intro hsl
    have ha := get_slot h hi
    cases hsl with
    | dead => trivial
    | same av g1 g2 g3 =>
      rw [g1] at ha
      show AVOk _ _ _ _ av _
      rw [hmem]
      refine ha.frame (fun _ _ _ => rfl) hsh fun n p r t s hc hr' hl => ?_
      exact ⟨r, hsame n r (g3 n p hc) hr', by rw [hg n r hr']; exact hl, fun _ _ hu => hu⟩
    | made n e g1 g2 g3 g4 =>
      obtain ⟨r, hrn⟩ := hin n g3
      have := hr n
      rw [hrn] at this
      cases this with
      | same _ k1 k2 => rw [g2] at k2; cases k2
      | made i' e' k1 k1' k2 k3 k4 =>
        refine ⟨_, e', .one (tm i), hrn, ?_, rfl⟩
        rw [hg' n g2, ownSlot_eq es hnd g1]; rfl
  · show PendOk _ _ _ X.pd none
    rw [hX]; trivial
  · obtain ⟨r, hn⟩ := Option.ne_none_iff_exists'.1 hne
    have := hr (pinned + i)
    rw [hn] at this
    cases this with
    | same _ g1 g2 => rw [hg _ _ g2]; exact h.pins i b hb (by rw [g2]; simp)
    | made i' e g1 g1' => omega

/-- **A cut**: the state stands for what was kept. -/
theorem Rel.dcd {Γ : AE} {σ : Gh} (h : Rel B Γ N tm w σ) {es : Shape} (hf : es.fits N = true) {K : es.ty.den → Rs ρ} {z : ρ} (hz : es.dcd Γ K = some z) : ∃ x σ', K x = some z ∧ Rel B (es.enc x) N tm w σ' := by
  unfold Shape.dcd at hz
  split at hz
  · rename_i hpd
    obtain ⟨hnd, hz⟩ := (bif_some hz).elim id fun h => by cases h.2
    have hnd := noDup_nodup _ hnd
    obtain ⟨x, Γf, σf, h1, h2, h3, -, h5, h6, h7⟩ := Rel.vals es h hpd hf (fun _ g => g) hnd hz
    obtain ⟨σ', h8⟩ := h2.cut h3 hf hnd h5 h6 h7
    exact ⟨x, σ', h1, h8⟩
  · cases hz

end
end Go.Ab

/- Operations with their guards; regions in the order of the text. Conditions: as each lemma states. -/
namespace Go.Ab

structure CxOk (P : Program) (cx : Cx) : Prop extends CxTy P cx where
  C : ∀ f s, cx.C f = some s → FSound P f s ∧ Bodied P f

section
variable {P : Program} {B : Base} {N : Nat} {ρ : Type} {Γ : AE} {a : Act} {w : World} {σ : Gh} {cx : Cx}

theorem Does.wp {o : Oper} {K : AE → Rs ρ} {z : ρ} (h : Does P B N o a w K z) {next : Act → World → Prop} {Q : Exit → Act → World → Prop}
    (hnext : ∀ v w' Γ' σ', Rel B Γ' N (tmOf (a.put o.dst v)) w' σ' → K Γ' = some z → next (a.put o.dst v) w') : o.wp P a w next Q := by
  obtain ⟨v, w', Γ', σ', hrun, hrel, hK⟩ := h
  unfold Oper.wp
  rcases hrun with h | ⟨h, rfl⟩
  · rw [h, Oper.upon_value]; exact hnext v w' Γ' σ' hrel hK
  · rw [h, Oper.upon_skip]; exact hnext _ w' Γ' σ' hrel hK

theorem aop_wp (hcx : CxOk P cx) {o : Oper} {q : Bool} {K : AE → Rs ρ} {z : ρ} {next : Act → World → Prop} {Q : Exit → Act → World → Prop}
    (h : Rel B Γ N (tmOf a) w σ) (hN : a.tmps.size = N) (hf : fits N o = true) (hz : aop cx q o Γ K = some z)
    (hnext : ∀ v w' Γ' σ', Rel B Γ' N (tmOf (a.put o.dst v)) w' σ' → K Γ' = some z → next (a.put o.dst v) w') : o.wp P a w next Q := by
  by_cases hc : ∃ c v, o.op = .call c ∧ c.callee = .value v
  · obtain ⟨c, v, ho, hc⟩ := hc
    have hz' : (match v with | .func f => (match cx.C f with | some s => Γ.call q o.dst s (c.args.toList.map Γ.opd) K | none => none) | _ => none) = some z := by
      cases hd : o.dst <;> simp only [aop, ho, hd, hc] at hz <;> rw [← hz] <;> cases v <;> rfl
    cases v with
    | func f =>
      simp only [] at hz'
      split at hz'
      · rename_i s hs
        obtain ⟨hF, hB⟩ := hcx.C f s hs
        exact call_sound ho hc hF hB h hN hf hz' hnext
      · cases hz'
    | _ => simp only [] at hz'; cases hz'
  · exact (aop_sound hcx.toCxTy (fun c v ho hc' => hc ⟨c, v, ho, hc'⟩) h hN hf hz).wp hnext

theorem aopM_wp (hcx : CxOk P cx) {o : Oper} {md : Md} {K : AE → Rs ρ} {z : ρ} {next : Act → World → Prop} {Q : Exit → Act → World → Prop}
    (h : Rel B Γ N (tmOf a) w σ) (hN : a.tmps.size = N) (hf : fits N o = true) (hz : aopM cx md o Γ K = some z)
    (hnext : ∀ v w' Γ' σ', Rel B Γ' N (tmOf (a.put o.dst v)) w' σ' → K Γ' = some z → next (a.put o.dst v) w') : o.wp P a w next Q := by
  cases md with
  | x => exact aop_wp hcx h hN hf hz hnext
  | m =>
    simp only [aopM] at hz
    split at hz
    · obtain ⟨-, hz⟩ := (bif_some hz).elim id fun h => by cases h.2
      refine aop_wp hcx h hN hf hz fun v w' Γ' σ' hr hK => hnext v w' Γ' σ' hr ?_
      split at hK
      · exact hK
      · cases hK
    · cases hz
  | q =>
    simp only [aopM] at hz
    obtain ⟨-, hz⟩ := (bif_some hz).elim id fun h => by cases h.2
    split at hz
    · exact aop_wp hcx h hN hf hz hnext
    · cases hz
  | v =>
    simp only [aopM] at hz
    obtain ⟨-, hz⟩ := (bif_some hz).elim id fun h => by cases h.2
    split at hz
    · refine aop_wp hcx h hN hf hz fun v w' Γ' σ' hr hK => hnext v w' Γ' σ' hr ?_
      obtain ⟨-, hK⟩ := (bif_some hK).elim id fun h => by cases h.2
      exact hK
    · cases hz

/-- The slots of an operation and of its guard lie in the frame. -/
def opFits (N : Nat) (ops : List Oper) (o : Oper) : Bool := fits N o && (match o.guard with
  | some (j, _) => (match dstOf ops j with
    | some g => decide (g < N)
    | none => true)
  | none => true)

theorem opFits_fits {ops : List Oper} {o : Oper} (h : opFits N ops o = true) : fits N o = true := by
  simp only [opFits, Bool.and_eq_true] at h; exact h.1

theorem Rel.skip (h : Rel B Γ N (tmOf a) w σ) (hN : a.tmps.size = N) (d : Option Nat) : Rel B (Γ.setD d .skp) N (tmOf (a.put d undef)) w σ := by
  cases d with
  | none => exact h
  | some d => exact h.putd hN fun _ => rfl

/-- A slot that is known is known. -/
theorem Rel.same (h : Rel B Γ N (tmOf a) w σ) {g : Nat} {av : AV} (hg : Γ.get g = av) : Rel B (Γ.set g av) N (tmOf a) w σ := by
  refine h.put (v := tmOf a g) (fun hlt => ?_) (fun i _ => by split <;> simp [*])
  have := get_slot h hlt
  rw [hg] at this; exact this

theorem yielded_eq {ops : Array Oper} {j g : Nat} (hg : dstOf ops.toList j = some g) (hlt : g < a.tmps.size) : yielded ops a.tmps j = match tmOf a g with | .bool b => some b | _ => none := by
  have hg : (ops[j]?).bind (·.dst) = some g := by simpa [dstOf] using hg
  simp only [yielded, hg, Option.bind_some, tmOf, Array.getD_eq_getD_getElem?, Array.getElem?_eq_getElem hlt, Option.getD_some]
  cases a.tmps[g] <;> rfl

theorem aopG_wp (hcx : CxOk P cx) {ops : Array Oper} {o : Oper} {md : Md} {K : AE → Rs ρ} {z : ρ} {next : Act → World → Prop} {Q : Exit → Act → World → Prop}
    (h : Rel B Γ N (tmOf a) w σ) (hN : a.tmps.size = N) (hf : opFits N ops.toList o = true) (hz : aopG cx md ops.toList o Γ K = some z)
    (hnext : ∀ v w' Γ' σ', Rel B Γ' N (tmOf (a.put o.dst v)) w' σ' → K Γ' = some z → next (a.put o.dst v) w') :
    if Region.wanted o (yielded ops a.tmps) then o.wp P a w next Q else next (a.put o.dst undef) w := by
  have hfo := opFits_fits hf
  unfold aopG at hz
  split at hz
  · rename_i hg
    rw [if_pos (by simp [Region.wanted, hg])]
    exact aopM_wp hcx h hN hfo hz hnext
  · rename_i j want hg
    split at hz
    · cases hz
    · rename_i g hdg
      have hlt : g < N := by
        simp only [opFits, hg, hdg, Bool.and_eq_true, decide_eq_true_eq] at hf
        exact hf.2
      have hy := yielded_eq (a := a) hdg (by omega)
      have hsl := get_slot h hlt
      split at hz
      · rename_i b hgv
        rw [hgv] at hsl
        have hb := AVOk.bool hsl
        rw [hb] at hy
        simp only [] at hy
        cases b <;> cases want <;> simp only [cond_true, cond_false] at hz
        · rw [if_pos (by simp [Region.wanted, hg, hy])]
          exact aopM_wp hcx (h.same hgv) hN hfo hz hnext
        · rw [if_neg (by simp [Region.wanted, hg, hy])]
          exact hnext _ w _ _ ((h.same hgv).skip hN o.dst) hz
        · rw [if_neg (by simp [Region.wanted, hg, hy])]
          exact hnext _ w _ _ ((h.same hgv).skip hN o.dst) hz
        · rw [if_pos (by simp [Region.wanted, hg, hy])]
          exact aopM_wp hcx (h.same hgv) hN hfo hz hnext
      · rename_i hgv
        rw [hgv] at hsl
        have hsl : tmOf a g = undef := hsl
        rw [hsl] at hy
        simp only [undef] at hy
        rw [if_neg (by simp [Region.wanted, hg, hy])]
        exact hnext _ w _ _ (h.skip hN o.dst) hz
      · cases hz

theorem aops_wp (hcx : CxOk P cx) {ops : Array Oper} {Q : Exit → Act → World → Prop} {D : List Deferred} {z : ρ} : ∀ (l : List (Md × Oper)) {Γ : AE} {a : Act} {w : World} {σ : Gh} {K : AE → Rs ρ} (_ : Rel B Γ N (tmOf a) w σ) (_ : a.tmps.size = N) (_ : a.defers = D)
    (_ : ∀ p ∈ l, opFits N ops.toList p.2 = true) (_ : aops cx ops.toList l Γ K = some z) (_ : ∀ a' w' Γ' σ', Rel B Γ' N (tmOf a') w' σ' → a'.tmps.size = N → a'.defers = D → K Γ' = some z → Q .normal a' w'),
    wpList P ops Q (l.map (·.2)) a w
  | [], Γ, a, w, σ, K, h, hN, hD, _, hz, hQ => hQ a w Γ σ h hN hD hz
  | (md, o) :: l, Γ, a, w, σ, K, h, hN, hD, hf, hz, hQ => by
    simp only [aops] at hz
    have := aopG_wp (next := wpList P ops Q (l.map (·.2))) (Q := Q) hcx h hN (hf (md, o) (by simp)) hz fun v w' Γ' σ' hr hK =>
      aops_wp hcx l hr (by rw [size_put]; exact hN) (by rw [defers_put]; exact hD) (fun p hp => hf p (by simp [hp])) hK hQ
    simp only [List.map_cons, wpList]
    by_cases hw : Region.wanted o (yielded ops a.tmps) = true
    · rw [if_pos hw] at this ⊢
      exact .inl this
    · rw [if_neg hw] at this ⊢
      exact this

end

theorem pack_sound {B : Base} {N : Nat} {tm : Nat → Value} {w : World} {ρ : Type} : ∀ (os : Outs) {Γ : AE} {σ : Gh} (_ : Rel B Γ N tm w σ) {e : Ex} {K : os.den → Rs ρ} {z : ρ} (_ : os.all (fun p => p.2.fits N) = true) (_ : os.pack e Γ K = some z),
    ∃ y X σ', K y = some z ∧ Rel B X N tm w σ' ∧ ∀ {ρ' : Type} (K2 : Ex → AE → Rs ρ'), os.open y K2 = K2 e X
  | [], Γ, σ, h, e, K, z, hf, hz => by simp only [Outs.pack] at hz; cases hz
  | [(e', s)], Γ, σ, h, e, K, z, hf, hz => by
    simp only [Outs.pack] at hz
    split at hz
    · rename_i he
      subst he
      obtain ⟨x, σ', h1, h2⟩ := h.dcd (by simpa using hf) hz
      exact ⟨x, _, σ', h1, h2, fun K2 => rfl⟩
    · cases hz
  | (e', s) :: x :: r, Γ, σ, h, e, K, z, hf, hz => by
    simp only [Outs.pack] at hz
    split at hz
    · rename_i he
      subst he
      obtain ⟨y, σ', h1, h2⟩ := h.dcd (by simpa using (List.all_eq_true.1 hf _ (List.mem_cons_self))) hz
      exact ⟨.inl y, _, σ', h1, h2, fun K2 => rfl⟩
    · obtain ⟨y, X, σ', h1, h2, h3⟩ := pack_sound (x :: r) h (by
        simp only [List.all_cons, Bool.and_eq_true] at hf ⊢
        exact hf.2) hz
      exact ⟨.inr y, X, σ', h1, h2, fun K2 => h3 K2⟩

theorem iter_some {σ β : Type} {f : σ → Option (σ ⊕ β)} {s : σ} {b : β} (h : iter f s = some b) : ∃ n, iterN f n s = some b := by
  unfold iter at h
  split at h
  · rename_i hx
    simp only [Option.some.injEq] at h
    obtain ⟨n, h1⟩ := hx.choose_spec.choose_spec |> fun g => (⟨hx.choose, g⟩ : ∃ n, iterN f n s = some hx.choose_spec.choose)
    exact ⟨n, h ▸ h1⟩
  · cases h

end Go.Ab
