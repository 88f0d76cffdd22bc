/- Part 8 of 9 of the proof of LRowParses: lemmas and walks, gathered. -/
import Derived.Test.YtamhpnenpoamhaaGreatCp7
import Derived.Test.YtamhpnenpoamhaaGreatCp5
set_option linter.unusedSimpArgs false
set_option linter.unusedVariables false
/- The words of a rule: the reference's Print. -/
namespace Go.Proofs.YtamhpnenpoamhaaGreat
open Go.RowKit Go.Proofs.YtamhpnenpoamhaaGreatW.PrintWords Go.Proofs.YtamhpnenpoamhaaGreatW.PrintLast

/-- The words that a rule is printed as. -/
def Rp.words (p : ByteArray) (e u : Nat) (k : Int) : List ByteArray := (if p = ⟨#[]⟩ then [sDefault] else [sRule, p]) ++ [Dp.print e, Dp.print u, Rl.name k]
def Rp.print (p : ByteArray) (e u : Nat) (k : Int) : List ByteArray := if Rl.right p e u k ≠ 0 then [] else Rp.words p e u k
/-- A row of strings, laid at once. -/
theorem R_strs (W : World) (base : Nat) (l : List ByteArray) (hb : base ≤ W.heap.size) (hm : l.length ≤ 9223372036854775807) :
    Kd.string.R 9 (W.alloc (.cells (l.map Value.string).toArray 9)) base (fun _ => True) (.slice (some ⟨W.heap.size, 0, none⟩) l.length l.length) l :=
  ⟨fun _ _ => trivial, OwnRow.lit W base (Kd.reps_scalar (enc := Value.string) l) hb hm⟩
theorem C_strs (W : World) (l : List ByteArray) (hm : l.length ≤ 9223372036854775807) : Kd.string.C (W.alloc (.cells (l.map Value.string).toArray 9)) (some ⟨W.heap.size, 0, none⟩) l.length l := by
  obtain ⟨A, c, hv, _, hC⟩ := Kd.R_reads (R_strs W 0 l (Nat.zero_le _) hm)
  injection hv with e1 e2 e3
  rw [e1]; exact hC
set_option maxHeartbeats 4000000 in
set_option maxRecDepth 100000 in
theorem ref_rule_print (p : ByteArray) (e u : Nat) (k : Int) (w : World) (hs : p.size ≤ 9223372036854775807) (he : e ≤ 18446744073709551615) (hu : u ≤ 18446744073709551615) :
    Calls Tryz.prog 39 #[.agg #[.string p, .int .u64 e, .int .u64 u, .int .u8 k]] w fun x w' => ∃ v, x = .returned v ∧ Kd.string.R 9 w' w.heap.size (fun _ => True) v (Rp.print p e u k) ∧ Below w.heap.size w w' := by
  have RR := Lib.hid (fun w => ref_rule_right p e u k w hs (by omega) (by omega))
  have DE := Lib.hid (show ∀ w, Calls Tryz.prog 38 #[.int .u64 e] w fun x w' => x = .returned (.string (Dp.print e)) ∧ Below w.heap.size w w' from fun w => (ref_digit_print e w he).mono fun _ _ h => ⟨h.1, by rw [← h.2]; exact Below.refl _ _⟩)
  have DU := Lib.hid (show ∀ w, Calls Tryz.prog 38 #[.int .u64 u] w fun x w' => x = .returned (.string (Dp.print u)) ∧ Below w.heap.size w w' from fun w => (ref_digit_print u w hu).mono fun _ _ h => ⟨h.1, by rw [← h.2]; exact Below.refl _ _⟩)
  have NK := Lib.hid (show ∀ w, Calls Tryz.prog 61 #[.int .u8 k] w fun x w' => x = .returned (.string (Rl.name k)) ∧ Below w.heap.size w w' from fun w => (ref_name k w).mono fun _ _ h => ⟨h.1, by rw [← h.2]; exact Below.refl _ _⟩)
  obtain ⟨r, hr⟩ : ∃ r, r = Rl.right p e u k := ⟨_, rfl⟩
  rw [← hr] at RR
  obtain ⟨W, hW⟩ : ∃ W, W = w.alloc (.cells #[.string p, .int .u64 e, .int .u64 u, .int .u8 k] 37) := ⟨_, rfl⟩
  have HBW := Lib.hid (show Below w.heap.size w W by rw [hW]; exact (Below.refl _ _).alloc (Nat.le_refl _) _)
  have HB := Lib.hid (show Blk W w.heap.size #[.string p, .int .u64 e, .int .u64 u, .int .u8 k] 37 by rw [hW]; exact Blk.new _ _ _)
  have HW := Lib.hid hW
  clear hW
  by_cases h0 : r = 0
  · have hrb : (r != 0) = false := by rw [h0]; rfl
    have HP := Lib.hid (show Rp.print p e u k = Rp.words p e u k from if_neg (not_not_intro (by rw [← hr, h0])))
    clear h0 hr
    by_cases hp : p = ⟨#[]⟩
    · have hpb : (!p.toList.isEmpty) = false := by rw [hp, Lib.toList_data]; rfl
      have HPW := Lib.hid (show Rp.words p e u k = [sDefault] ++ [Dp.print e, Dp.print u, Rl.name k] by unfold Rp.words; rw [if_pos hp])
      clear hp
      go_enter Tryz.func39, Tryz.ntmps39
      go_wp2_with fail
      rw [← HW.out]
      refine (RR.out _).mono ?_
      rintro x w1 ⟨rfl, hb1⟩
      have B1 := HB.out.below hb1 HB.out.lt
      have bz := hb1.size
      have bw := HBW.out.size
      have HBL := Lib.hid ((HBW.out.trans (hb1.mono bw)).alloc (by omega) (.cells #[.string ⟨#[100, 101, 102, 97, 117, 108, 116]⟩] 9))
      have B2 := B1.alloc (.cells #[.string ⟨#[100, 101, 102, 97, 117, 108, 116]⟩] 9)
      have HR := Lib.hid (R_strs w1 w.heap.size [sDefault] (by omega) (by decide))
      have hsz : w.heap.size ≤ (w1.alloc (.cells #[.string ⟨#[100, 101, 102, 97, 117, 108, 116]⟩] 9)).heap.size := by rw [World.size_alloc]; omega
      have a0 := B2.cell_at 0 (.string p) rfl
      have a1 := B2.cell_at 1 (.int .u64 e) rfl
      have a2 := B2.cell_at 2 (.int .u64 u) rfl
      have a3 := B2.cell_at 3 (.int .u8 k) rfl
      clear hb1 B1 B2
      go_wp2
      replace HR : Hid (Kd.string.R 9 (w1.alloc (.cells #[.string ⟨#[100, 101, 102, 97, 117, 108, 116]⟩] 9)) w.heap.size (fun _ => True) (.slice (some ⟨w1.heap.size, 0, none⟩) 1 1) [sDefault]) := HR
      generalize w1.alloc (.cells #[.string ⟨#[100, 101, 102, 97, 117, 108, 116]⟩] 9) = W2 at HBL HR hsz a0 a1 a2 a3 ⊢
      refine startM 13 (fun w' => w'.cell? ⟨w.heap.size, 1, none⟩ = some (.int .u64 e) ∧ w'.cell? ⟨w.heap.size, 2, none⟩ = some (.int .u64 u) ∧ w'.cell? ⟨w.heap.size, 3, none⟩ = some (.int .u8 k)) [11, 12] (by kernel_rfl) rfl (by kernel_rfl) ⟨a1, a2, a3⟩ (fun hHeld => ?_)
      refine takeM 0 (v := ?_) (a' := ?_) rfl rfl (by kernel_rfl) (fun _ _ _ h => h) (Or.inl ⟨by rfl, ?_⟩) hHeld ?_ ?_; rotate_left; (rintro w' ⟨s0, s1, s2⟩; go_simp; with_reducible rfl); rotate_left; (simp only [Act.put, List.setIfInBounds_toArray, List.set_cons_zero, List.set_cons_succ]; rfl)
      refine takeM 1 (v := ?_) (a' := ?_) rfl rfl (by kernel_rfl) (fun _ _ _ h => h) (Or.inl ⟨by rfl, ?_⟩) hHeld ?_ ?_; rotate_left; (rintro w' ⟨s0, s1, s2⟩; go_simp; with_reducible rfl); rotate_left; (simp only [Act.put, List.setIfInBounds_toArray, List.set_cons_zero, List.set_cons_succ]; rfl)
      refine takeM 2 (v := ?_) (a' := ?_) rfl rfl (by kernel_rfl) (fun _ _ _ h => h) (Or.inl ⟨by rfl, ?_⟩) hHeld ?_ ?_; rotate_left; (rintro w' ⟨s0, s1, s2⟩; go_simp; with_reducible rfl); rotate_left; (simp only [Act.put, List.setIfInBounds_toArray, List.set_cons_zero, List.set_cons_succ]; rfl)
      refine takeM 4 (v := ?_) (a' := ?_) rfl rfl (by kernel_rfl) (fun _ _ _ h => h) (Or.inl ⟨by rfl, ?_⟩) hHeld ?_ ?_; rotate_left; (rintro w' ⟨s0, s1, s2⟩; go_simp; with_reducible rfl); rotate_left; (simp only [Act.put, List.setIfInBounds_toArray, List.set_cons_zero, List.set_cons_succ]; rfl)
      refine takeM 5 (v := ?_) (a' := ?_) rfl rfl (by kernel_rfl) (fun _ _ _ h => h) (Or.inl ⟨by rfl, ?_⟩) hHeld ?_ ?_; rotate_left; (rintro w' ⟨s0, s1, s2⟩; go_simp; with_reducible rfl); rotate_left; (simp only [Act.put, List.setIfInBounds_toArray, List.set_cons_zero, List.set_cons_succ]; rfl)
      refine takeM 7 (v := ?_) (a' := ?_) rfl rfl (by kernel_rfl) (fun _ _ _ h => h) (Or.inl ⟨by rfl, ?_⟩) hHeld ?_ ?_; rotate_left; (rintro w' ⟨s0, s1, s2⟩; go_simp; with_reducible rfl); rotate_left; (simp only [Act.put, List.setIfInBounds_toArray, List.set_cons_zero, List.set_cons_succ]; rfl)
      refine takeM 8 (v := ?_) (a' := ?_) rfl rfl (by kernel_rfl) (fun _ _ _ h => h) (Or.inl ⟨by rfl, ?_⟩) hHeld ?_ ?_; rotate_left; (rintro w' ⟨s0, s1, s2⟩; go_simp; with_reducible rfl); rotate_left; (simp only [Act.put, List.setIfInBounds_toArray, List.set_cons_zero, List.set_cons_succ]; rfl)
      refine oneM 3 rfl rfl (by kernel_rfl) rfl (fun K3 hK3 => ?_)
      go_simp
      refine (DE.out _).mono ?_
      rintro x w3 ⟨rfl, hb3⟩
      refine hK3.out _ _ ⟨pw_cell_below hb3 hHeld.1, pw_cell_below hb3 hHeld.2.1, pw_cell_below hb3 hHeld.2.2⟩ (fun hHeld3 => ?_)
      refine oneM 6 rfl rfl (by kernel_rfl) rfl (fun K4 hK4 => ?_)
      go_simp
      refine (DU.out _).mono ?_
      rintro x w4 ⟨rfl, hb4⟩
      refine hK4.out _ _ ⟨pw_cell_below hb4 hHeld3.1, pw_cell_below hb4 hHeld3.2.1, pw_cell_below hb4 hHeld3.2.2⟩ (fun hHeld4 => ?_)
      refine oneM 9 rfl rfl (by kernel_rfl) rfl (fun K5 hK5 => ?_)
      go_simp
      refine (NK.out _).mono ?_
      rintro x w5 ⟨rfl, hb5⟩
      refine hK5.out _ _ ⟨pw_cell_below hb5 hHeld4.1, pw_cell_below hb5 hHeld4.2.1, pw_cell_below hb5 hHeld4.2.2⟩ (fun hHeld5 => ?_)
      refine oneM 10 rfl rfl (by kernel_rfl) rfl (fun K6 hK6 => ?_)
      go_simp
      refine hK6.out _ _ ⟨cell_alloc hHeld5.1 _, cell_alloc hHeld5.2.1 _, cell_alloc hHeld5.2.2 _⟩ (fun hHeld6 => ?_)
      have hb25 : Below W2.heap.size W2 w5 := (Below.drew (Below.refl _ _)).trans (hb3.trans ((hb4.mono hb3.size).trans (hb5.mono (Nat.le_trans hb3.size hb4.size))))
      have HR5 := Kd.R_below HR.out hb25
      have hb26 := (HBL.out.trans (hb25.mono hsz)).alloc (Nat.le_trans hsz hb25.size) (.cells #[.string (Dp.print e), .string (Dp.print u), .string (Rl.name k)] 9)
      refine lastM 11 rfl rfl (by kernel_rfl) rfl (fun K7 hK7 => ?_)
      refine Kd.R_append_rows_step Kd.string (w0 := w) (W := w5.alloc (.cells #[.string (Dp.print e), .string (Dp.print u), .string (Rl.name k)] 9)) w.heap.size (by rfl) (.tmp 14) (.tmp 24) 32 9 _ 16 rfl (by kernel_rfl) strs_info rfl (by decide) (by decide) (.slice (some ⟨w1.heap.size, 0, none⟩) 1 1) [sDefault] [Dp.print e, Dp.print u, Rl.name k] (some ⟨w5.heap.size, 0, none⟩) 3 3 (fun _ => True) (fun _ => False) rfl rfl (Kd.R_alloc HR5 _) (C_strs w5 [Dp.print e, Dp.print u, Rl.name k] (by show 3 ≤ _; decide)) (fun x cs h => h) (fun _ h => h.elim) (fun _ _ => trivial) hb26 (by rw [World.size_alloc]; exact Nat.le_succ_of_le (Nat.le_trans hsz hb25.size)) (by simp) ?_
      intro v1 w7 hR7 hB7 hg7 hat7
      refine hK7.out _ _ ?_
      refine lastM 12 rfl rfl (by kernel_rfl) rfl (fun K8 hK8 => ?_)
      go_simp
      refine hK8.out _ _ ?_
      refine done_ (by kernel_rfl) ?_
      have HR7 := Lib.hid (show Kd.string.R 9 w7 w.heap.size (fun _ => True) v1 (Rp.print p e u k) by rw [HP.out, HPW.out]; exact hR7)
      have HB7 := Lib.hid hB7
      clear hHeld hHeld3 hHeld4 hHeld5 hHeld6 hK3 hK4 hK5 hK6 hK7 hK8 hR7 hB7 hg7 hat7 hb3 hb4 hb5 hb25 hb26 HR5
      go_wp2
      go_ret
      exact ⟨_, rfl, HR7.out, HB7.out⟩
    · have hpb : (!p.toList.isEmpty) = true := by
        have := bytes_beq p ⟨#[]⟩
        rw [show (⟨#[]⟩ : ByteArray).toList = [] by rw [Lib.toList_data], decide_eq_false hp] at this
        cases hl : p.toList with
        | nil => rw [hl] at this; simp at this
        | cons a b => rfl
      have HPW := Lib.hid (show Rp.words p e u k = [sRule, p] ++ [Dp.print e, Dp.print u, Rl.name k] by unfold Rp.words; rw [if_neg hp])
      clear hp
      go_enter Tryz.func39, Tryz.ntmps39
      go_wp2_with fail
      rw [← HW.out]
      refine (RR.out _).mono ?_
      rintro x w1 ⟨rfl, hb1⟩
      have B1 := HB.out.below hb1 HB.out.lt
      have bz := hb1.size
      have bw := HBW.out.size
      have HBL := Lib.hid (((HBW.out.trans (hb1.mono bw)).alloc (by omega) (.cells #[.string ⟨#[100, 101, 102, 97, 117, 108, 116]⟩] 9)).alloc (by rw [World.size_alloc]; omega) (.cells #[.string ⟨#[114, 117, 108, 101]⟩, .string p] 9))
      have c0 := (B1.alloc (.cells #[.string ⟨#[100, 101, 102, 97, 117, 108, 116]⟩] 9)).cell_at 0 (.string p) rfl
      have B2 := (B1.alloc (.cells #[.string ⟨#[100, 101, 102, 97, 117, 108, 116]⟩] 9)).alloc (.cells #[.string ⟨#[114, 117, 108, 101]⟩, .string p] 9)
      have hr0 := R_strs (w1.alloc (.cells #[.string ⟨#[100, 101, 102, 97, 117, 108, 116]⟩] 9)) w.heap.size [sRule, p] (by rw [World.size_alloc]; omega) (by simp)
      rw [World.size_alloc] at hr0
      have HR := Lib.hid hr0
      have hsz : w.heap.size ≤ ((w1.alloc (.cells #[.string ⟨#[100, 101, 102, 97, 117, 108, 116]⟩] 9)).alloc (.cells #[.string ⟨#[114, 117, 108, 101]⟩, .string p] 9)).heap.size := by rw [World.size_alloc, World.size_alloc]; omega
      have a0 := B2.cell_at 0 (.string p) rfl
      have a1 := B2.cell_at 1 (.int .u64 e) rfl
      have a2 := B2.cell_at 2 (.int .u64 u) rfl
      have a3 := B2.cell_at 3 (.int .u8 k) rfl
      clear hb1 B1 B2 hr0
      go_wp2
      replace HR : Hid (Kd.string.R 9 ((w1.alloc (.cells #[.string ⟨#[100, 101, 102, 97, 117, 108, 116]⟩] 9)).alloc (.cells #[.string ⟨#[114, 117, 108, 101]⟩, .string p] 9)) w.heap.size (fun _ => True) (.slice (some ⟨w1.heap.size + 1, 0, none⟩) 2 2) [sRule, p]) := HR
      generalize (w1.alloc (.cells #[.string ⟨#[100, 101, 102, 97, 117, 108, 116]⟩] 9)).alloc (.cells #[.string ⟨#[114, 117, 108, 101]⟩, .string p] 9) = W2 at HBL HR hsz a0 a1 a2 a3 ⊢
      refine startM 13 (fun w' => w'.cell? ⟨w.heap.size, 1, none⟩ = some (.int .u64 e) ∧ w'.cell? ⟨w.heap.size, 2, none⟩ = some (.int .u64 u) ∧ w'.cell? ⟨w.heap.size, 3, none⟩ = some (.int .u8 k)) [11, 12] (by kernel_rfl) rfl (by kernel_rfl) ⟨a1, a2, a3⟩ (fun hHeld => ?_)
      refine takeM 0 (v := ?_) (a' := ?_) rfl rfl (by kernel_rfl) (fun _ _ _ h => h) (Or.inl ⟨by rfl, ?_⟩) hHeld ?_ ?_; rotate_left; (rintro w' ⟨s0, s1, s2⟩; go_simp; with_reducible rfl); rotate_left; (simp only [Act.put, List.setIfInBounds_toArray, List.set_cons_zero, List.set_cons_succ]; rfl)
      refine takeM 1 (v := ?_) (a' := ?_) rfl rfl (by kernel_rfl) (fun _ _ _ h => h) (Or.inl ⟨by rfl, ?_⟩) hHeld ?_ ?_; rotate_left; (rintro w' ⟨s0, s1, s2⟩; go_simp; with_reducible rfl); rotate_left; (simp only [Act.put, List.setIfInBounds_toArray, List.set_cons_zero, List.set_cons_succ]; rfl)
      refine takeM 2 (v := ?_) (a' := ?_) rfl rfl (by kernel_rfl) (fun _ _ _ h => h) (Or.inl ⟨by rfl, ?_⟩) hHeld ?_ ?_; rotate_left; (rintro w' ⟨s0, s1, s2⟩; go_simp; with_reducible rfl); rotate_left; (simp only [Act.put, List.setIfInBounds_toArray, List.set_cons_zero, List.set_cons_succ]; rfl)
      refine takeM 4 (v := ?_) (a' := ?_) rfl rfl (by kernel_rfl) (fun _ _ _ h => h) (Or.inl ⟨by rfl, ?_⟩) hHeld ?_ ?_; rotate_left; (rintro w' ⟨s0, s1, s2⟩; go_simp; with_reducible rfl); rotate_left; (simp only [Act.put, List.setIfInBounds_toArray, List.set_cons_zero, List.set_cons_succ]; rfl)
      refine takeM 5 (v := ?_) (a' := ?_) rfl rfl (by kernel_rfl) (fun _ _ _ h => h) (Or.inl ⟨by rfl, ?_⟩) hHeld ?_ ?_; rotate_left; (rintro w' ⟨s0, s1, s2⟩; go_simp; with_reducible rfl); rotate_left; (simp only [Act.put, List.setIfInBounds_toArray, List.set_cons_zero, List.set_cons_succ]; rfl)
      refine takeM 7 (v := ?_) (a' := ?_) rfl rfl (by kernel_rfl) (fun _ _ _ h => h) (Or.inl ⟨by rfl, ?_⟩) hHeld ?_ ?_; rotate_left; (rintro w' ⟨s0, s1, s2⟩; go_simp; with_reducible rfl); rotate_left; (simp only [Act.put, List.setIfInBounds_toArray, List.set_cons_zero, List.set_cons_succ]; rfl)
      refine takeM 8 (v := ?_) (a' := ?_) rfl rfl (by kernel_rfl) (fun _ _ _ h => h) (Or.inl ⟨by rfl, ?_⟩) hHeld ?_ ?_; rotate_left; (rintro w' ⟨s0, s1, s2⟩; go_simp; with_reducible rfl); rotate_left; (simp only [Act.put, List.setIfInBounds_toArray, List.set_cons_zero, List.set_cons_succ]; rfl)
      refine oneM 3 rfl rfl (by kernel_rfl) rfl (fun K3 hK3 => ?_)
      go_simp
      refine (DE.out _).mono ?_
      rintro x w3 ⟨rfl, hb3⟩
      refine hK3.out _ _ ⟨pw_cell_below hb3 hHeld.1, pw_cell_below hb3 hHeld.2.1, pw_cell_below hb3 hHeld.2.2⟩ (fun hHeld3 => ?_)
      refine oneM 6 rfl rfl (by kernel_rfl) rfl (fun K4 hK4 => ?_)
      go_simp
      refine (DU.out _).mono ?_
      rintro x w4 ⟨rfl, hb4⟩
      refine hK4.out _ _ ⟨pw_cell_below hb4 hHeld3.1, pw_cell_below hb4 hHeld3.2.1, pw_cell_below hb4 hHeld3.2.2⟩ (fun hHeld4 => ?_)
      refine oneM 9 rfl rfl (by kernel_rfl) rfl (fun K5 hK5 => ?_)
      go_simp
      refine (NK.out _).mono ?_
      rintro x w5 ⟨rfl, hb5⟩
      refine hK5.out _ _ ⟨pw_cell_below hb5 hHeld4.1, pw_cell_below hb5 hHeld4.2.1, pw_cell_below hb5 hHeld4.2.2⟩ (fun hHeld5 => ?_)
      refine oneM 10 rfl rfl (by kernel_rfl) rfl (fun K6 hK6 => ?_)
      go_simp
      refine hK6.out _ _ ⟨cell_alloc hHeld5.1 _, cell_alloc hHeld5.2.1 _, cell_alloc hHeld5.2.2 _⟩ (fun hHeld6 => ?_)
      have hb25 : Below W2.heap.size W2 w5 := (Below.drew (Below.refl _ _)).trans (hb3.trans ((hb4.mono hb3.size).trans (hb5.mono (Nat.le_trans hb3.size hb4.size))))
      have HR5 := Kd.R_below HR.out hb25
      have hb26 := (HBL.out.trans (hb25.mono hsz)).alloc (Nat.le_trans hsz hb25.size) (.cells #[.string (Dp.print e), .string (Dp.print u), .string (Rl.name k)] 9)
      refine lastM 11 rfl rfl (by kernel_rfl) rfl (fun K7 hK7 => ?_)
      refine Kd.R_append_rows_step Kd.string (w0 := w) (W := w5.alloc (.cells #[.string (Dp.print e), .string (Dp.print u), .string (Rl.name k)] 9)) w.heap.size (by rfl) (.tmp 14) (.tmp 24) 32 9 _ 16 rfl (by kernel_rfl) strs_info rfl (by decide) (by decide) (.slice (some ⟨w1.heap.size + 1, 0, none⟩) 2 2) [sRule, p] [Dp.print e, Dp.print u, Rl.name k] (some ⟨w5.heap.size, 0, none⟩) 3 3 (fun _ => True) (fun _ => False) rfl rfl (Kd.R_alloc HR5 _) (C_strs w5 [Dp.print e, Dp.print u, Rl.name k] (by show 3 ≤ _; decide)) (fun x cs h => h) (fun _ h => h.elim) (fun _ _ => trivial) hb26 (by rw [World.size_alloc]; exact Nat.le_succ_of_le (Nat.le_trans hsz hb25.size)) (by simp) ?_
      intro v1 w7 hR7 hB7 hg7 hat7
      refine hK7.out _ _ ?_
      refine lastM 12 rfl rfl (by kernel_rfl) rfl (fun K8 hK8 => ?_)
      go_simp
      refine hK8.out _ _ ?_
      refine done_ (by kernel_rfl) ?_
      have HR7 := Lib.hid (show Kd.string.R 9 w7 w.heap.size (fun _ => True) v1 (Rp.print p e u k) by rw [HP.out, HPW.out]; exact hR7)
      have HB7 := Lib.hid hB7
      clear hHeld hHeld3 hHeld4 hHeld5 hHeld6 hK3 hK4 hK5 hK6 hK7 hK8 hR7 hB7 hg7 hat7 hb3 hb4 hb5 hb25 hb26 HR5
      go_wp2
      go_ret
      exact ⟨_, rfl, HR7.out, HB7.out⟩
  · have hrb : (r != 0) = true := by simpa using h0
    have HP := Lib.hid (show Rp.print p e u k = [] from if_pos (by rw [← hr]; exact h0))
    clear h0 hr
    go_enter Tryz.func39, Tryz.ntmps39
    go_wp2_with fail
    rw [← HW.out]
    refine (RR.out _).mono ?_
    rintro x w1 ⟨rfl, hb1⟩
    go_wp2
    go_ret
    exact ⟨_, rfl, by rw [HP.out]; exact Kd.R_nil _ _ _ _ _, HBW.out.trans (hb1.mono HBW.out.size)⟩
end Go.Proofs.YtamhpnenpoamhaaGreat

/- The reference's text of lines of words. -/
namespace Go.Proofs.YtamhpnenpoamhaaGreat
open Go.RowKit Go.Proofs.YtamhpnenpoamhaaGreatW.PrintWords Go.Proofs.YtamhpnenpoamhaaGreatW.PrintLast

namespace Jn
/-- A line's words, blanks between them; a text of lines. -/
def words : List ByteArray → List Int
  | [] => []
  | s :: r => bytesOf s ++ r.flatMap fun t => 32 :: bytesOf t
def join (lines : List (List ByteArray)) : List Int := lines.flatMap fun l => words l ++ [10]
theorem words_snoc (l : List ByteArray) (s : ByteArray) : words (l ++ [s]) = words l ++ (if 0 < l.length then [32] else []) ++ bytesOf s := by
  cases l with
  | nil => simp [words]
  | cons a b => simp [words, List.flatMap_append]
theorem join_snoc (lines : List (List ByteArray)) (l : List ByteArray) : join (lines ++ [l]) = join lines ++ words l ++ [10] := by simp [join, List.flatMap_append]
theorem join_take {lines : List (List ByteArray)} {k : Nat} (hk : k < lines.length) : join (lines.take (k + 1)) = join (lines.take k) ++ words (lines.getD k []) ++ [10] := by
  rw [List.take_succ_eq_append_getElem hk, join_snoc, List.getD_eq_getElem?_getD, List.getElem?_eq_getElem hk]; rfl
theorem words_take {l : List ByteArray} {i : Nat} (hi : i < l.length) : words (l.take (i + 1)) = words (l.take i) ++ (if 0 < i then [32] else []) ++ bytesOf (bs l i) := by
  rw [List.take_succ_eq_append_getElem hi, words_snoc, List.length_take, Nat.min_eq_left (by omega)]
  unfold bs
  rw [List.getD_eq_getElem?_getD, List.getElem?_eq_getElem hi]; rfl
theorem join_le (lines : List (List ByteArray)) (k : Nat) : (join (lines.take k)).length ≤ (join lines).length := by
  have : join lines = join (lines.take k) ++ join (lines.drop k) := by
    unfold join; rw [← List.flatMap_append, List.take_append_drop]
  rw [this, List.length_append]; omega
theorem words_le (l : List ByteArray) (i : Nat) : (words (l.take i)).length ≤ (words l).length := by
  cases l with
  | nil => simp
  | cons a b =>
    cases i with
    | zero => simp [words]
    | succ i =>
      have : b = b.take i ++ b.drop i := (List.take_append_drop i b).symm
      have e : (words (a :: b)).length = (words (a :: b.take i)).length + ((b.drop i).flatMap fun t => 32 :: bytesOf t).length := by
        conv => lhs; rw [this]
        simp only [words, List.flatMap_append, List.length_append]; omega
      rw [List.take_succ_cons, e]; omega
/-- All that is laid along the way is no longer than the text. -/
theorem room {lines : List (List ByteArray)} {k i j : Nat} (hk : k < lines.length) (hi : i < (lines.getD k []).length) (hj : j ≤ (bs (lines.getD k []) i).size) :
    (join (lines.take k) ++ words ((lines.getD k []).take i) ++ (if 0 < i then [32] else []) ++ (bytesOf (bs (lines.getD k []) i)).take j).length ≤ (join lines).length := by
  have h1 := join_le lines (k + 1)
  rw [join_take hk] at h1
  have h2 := words_le (lines.getD k []) (i + 1)
  rw [words_take hi] at h2
  simp only [List.length_append, List.length_take] at h1 h2 ⊢
  omega
theorem room2 {lines : List (List ByteArray)} {k : Nat} (hk : k < lines.length) : (join (lines.take k) ++ words (lines.getD k [])).length + 1 ≤ (join lines).length := by
  have h1 := join_le lines (k + 1)
  rw [join_take hk] at h1
  simp only [List.length_append, List.length_singleton] at h1 ⊢
  omega
end Jn
theorem u8_info : (Tryz.prog.info? 5).map (fun i => (i.zero, i.size, i.bytes)) = some (some (.int .u8 0), 1, 1) := by kernel_rfl
theorem byte_take {s : ByteArray} {j : Nat} (hj : j < s.size) : (bytesOf s).take (j + 1) = (bytesOf s).take j ++ [(s[j].toNat : Int)] := by
  have h : j < (bytesOf s).length := by rw [bytesOf_length]; exact hj
  rw [List.take_succ_eq_append_getElem h]
  simp [bytesOf]; rfl

set_option maxHeartbeats 8000000 in
set_option maxRecDepth 100000 in
theorem ref_join (A : Option Addr) (c : Nat) (lines : List (List ByteArray)) (w : World) (hC : (Kd.slice 9 Kd.string).C w A lines.length lines) (hT : (Jn.join lines).length ≤ 1000000000) (hs : ∀ l ∈ lines, ∀ s ∈ l, s.size ≤ 1000000000) :
    Calls Tryz.prog 40 #[.slice A lines.length c] w fun x w' => ∃ v, x = .returned v ∧ (Kd.int .u8).R 5 w' w.heap.size (fun _ => True) v (Jn.join lines) ∧ Below w.heap.size w w' := by
  have hmax := Kd.C_max hC
  have HC := Lib.hid hC; have HT := Lib.hid hT; have HSS := Lib.hid hs
  clear hC hT hs
  go_enter Tryz.func40, Tryz.ntmps40
  go_wp2
  go_loopw [3, 4] (fun v kv wr => ∃ (k : Nat), kv = .int .i64 k ∧ k ≤ lines.length ∧ Aside1 (Below w.heap.size w wr ∧ (Kd.int .u8).R 5 wr w.heap.size (fun _ => True) v (Jn.join (lines.take k)))) (fun _ kv _ => lines.length - (intOf kv).toNat)
  case atStart => exact ⟨0, rfl, Nat.zero_le _, ⟨Below.refl _ _, Kd.R_nil _ _ _ _ _⟩⟩
  case round =>
    obtain ⟨k, rfl, hk, HI⟩ := hrel
    have HI := Lib.hid HI.out
    by_cases hlt : k < lines.length
    · have hltz : (k : Int) < (lines.length : Int) := by omega
      obtain ⟨ad, cs, hA, _, ⟨AL, cL, hcs, hcL, hLC⟩, hcell⟩ := Kd.C_get HC.out [] k (by omega) (by omega)
      subst hA hcs
      rw [Int.toNat_natCast] at hcL hLC hcell
      obtain ⟨row, hrow⟩ : ∃ row, row = lines.getD k [] := ⟨_, rfl⟩
      rw [← hrow] at hcL hLC hcell
      have hmem : row ∈ lines := by rw [hrow, List.getD_eq_getElem?_getD, List.getElem?_eq_getElem hlt]; exact List.getElem_mem hlt
      have hcc := hcell 0 _ rfl
      rw [show k * (Kd.slice 9 Kd.string).sz + 0 = k from by show k * 1 + 0 = k; omega] at hcc
      have hrm := Kd.C_max hLC
      have HLC := Lib.hid hLC; have HROW := Lib.hid hrow
      have HS := Lib.hid (HSS.out row hmem)
      have hcw := pw_cell_below HI.out.1 hcc
      clear hLC hrow hmem hcell
      go_wp2
      go_loopw [3, 5] (fun v iv w2 => ∃ (i : Nat), iv = .int .i64 i ∧ i ≤ row.length ∧ Aside1 (Below w.heap.size w w2 ∧ (Kd.int .u8).R 5 w2 w.heap.size (fun _ => True) v (Jn.join (lines.take k) ++ Jn.words (row.take i)))) (fun _ iv _ => row.length - (intOf iv).toNat)
      case atStart => exact ⟨0, rfl, Nat.zero_le _, ⟨HI.out.1, by simpa [Jn.words] using HI.out.2⟩⟩
      case round =>
        clear hcw HI
        obtain ⟨i, rfl, hi, HI⟩ := hrel
        have HI := Lib.hid HI.out
        have hcw := pw_cell_below HI.out.1 hcc
        by_cases hil : i < row.length
        · have hilz : (i : Int) < (row.length : Int) := by omega
          obtain ⟨ad2, hA2, p0⟩ := Kd.at_string HLC.out i (by omega) (by omega)
          subst hA2
          obtain ⟨s, hs⟩ : ∃ s, s = bs row i := ⟨_, rfl⟩
          replace p0 : w.cell? (ad2.add i) = some (.string s) := by rw [hs]; simpa [rdOf, bs] using p0
          have hss : s.size ≤ 1000000000 := HS.out s (by rw [hs]; unfold bs; rw [List.getD_eq_getElem?_getD, List.getElem?_eq_getElem hil]; exact List.getElem_mem hil)
          have HSB := Lib.hid hs
          have ROOM := Lib.hid (fun j (hj : j ≤ s.size) => Nat.le_trans (Jn.room (lines := lines) (k := k) (i := i) (j := j) hlt (by rw [← HROW.out]; exact hil) (by rw [← HROW.out, ← HSB.out]; exact hj)) HT.out)
          rw [← HROW.out, ← HSB.out] at ROOM
          clear hs
          have hst : Hid (∃ W, Below w.heap.size w W ∧ True) := ⟨w, Below.refl _ _, trivial⟩
          by_cases hi0 : 0 < i
          · have hi0z : (0 : Int) < (i : Int) := by omega
            have HIF := Lib.hid (show (if 0 < i then ([32] : List Int) else []) = [32] from if_pos hi0)
            have R0 := Lib.hid (show (Jn.join (lines.take k) ++ Jn.words (row.take i)).length + 1 ≤ 1000000000 by
              have := ROOM.out 0 (Nat.zero_le _)
              rw [HIF.out] at this
              simp only [List.length_append, List.length_singleton, List.take_zero, List.length_nil] at this ⊢
              omega)
            go_wp2_with (at_builtin; refine Kd.R_append (Kd.int .u8) (w0 := w) (W := wr) w.heap.size rfl (.tmp 24) (.tmp 25) 22 5 _ 1 rfl (by kernel_rfl) u8_info rfl (by decide) (by decide) u3 (Jn.join (lines.take k) ++ Jn.words (row.take i)) 32 [.int .u8 32] (fun _ => True) (fun _ => False) rfl rfl rfl (fun _ h => h.elim) (fun _ _ => trivial) HI.out.2 HI.out.1 HI.out.1.size (by have := R0.out; omega) ?_; intro v0 w3 hR0 hB0 hg0 hat0)
            go_loopw [3, 6] (fun v jv w3 => ∃ (j : Nat), jv = .int .i64 j ∧ j ≤ s.size ∧ Aside1 (Below w.heap.size w w3 ∧ (Kd.int .u8).R 5 w3 w.heap.size (fun _ => True) v ((Jn.join (lines.take k) ++ Jn.words (row.take i) ++ [32]) ++ (bytesOf s).take j))) (fun _ jv _ => s.size - (intOf jv).toNat)
            case atStart => exact ⟨0, rfl, Nat.zero_le _, ⟨hB0, by simpa using hR0⟩⟩
            case round =>
              clear hcw
              obtain ⟨j, rfl, hj, HJ⟩ := hrel
              have HJ := Lib.hid HJ.out
              have hcw := pw_cell_below HJ.out.1 hcc
              have q0 := pw_cell_below HJ.out.1 p0
              by_cases hjl : j < s.size
              · have hjz : (j : Int) < (s.size : Int) := by omega
                have HBT := Lib.hid (byte_take hjl)
                have RJ := Lib.hid (show ((Jn.join (lines.take k) ++ Jn.words (row.take i) ++ [32]) ++ (bytesOf s).take j).length + 1 ≤ 1000000000 by
                  have := ROOM.out (j + 1) (by omega)
                  rw [HBT.out, HIF.out] at this
                  simp only [List.length_append, List.length_singleton, List.length_nil] at this ⊢
                  omega)
                go_wp2_with (at_builtin; refine Kd.R_append (Kd.int .u8) (w0 := w) (W := wr) w.heap.size rfl (.tmp 39) (.tmp 49) 22 5 _ 1 rfl (by kernel_rfl) u8_info rfl (by decide) (by decide) u3 ((Jn.join (lines.take k) ++ Jn.words (row.take i) ++ [32]) ++ (bytesOf s).take j) (s[j].toNat : Int) [.int .u8 (s[j].toNat : Int)] (fun _ => True) (fun _ => False) rfl rfl rfl (fun _ h => h.elim) (fun _ _ => trivial) HJ.out.2 HJ.out.1 HJ.out.1.size (by have := RJ.out; omega) ?_; intro v1 w4 hR1 hB1 hg1 hat1)
                go_roundw
                case rel => exact ⟨j + 1, by go_num, by omega, ⟨hB1, by rw [HBT.out, ← List.append_assoc]; exact hR1⟩⟩
                case measure => simp [intOf]; omega
              · have hjz : ¬ (j : Int) < (s.size : Int) := by omega
                have hfull : (bytesOf s).take j = bytesOf s := List.take_of_length_le (by rw [bytesOf_length]; omega)
                rw [hfull] at HJ
                have HWT := Lib.hid (Jn.words_take hil)
                rw [HIF.out, ← HSB.out] at HWT
                clear hfull
                go_wp2
                go_roundw
                case rel => exact ⟨i + 1, by go_num, by omega, ⟨HJ.out.1, by rw [HWT.out]; have := HJ.out.2; simpa only [List.append_assoc, List.append_nil, List.nil_append] using this⟩⟩
                case measure => simp [intOf]; omega
          · have hi0z : ¬ (0 : Int) < (i : Int) := by omega
            have HIF := Lib.hid (show (if 0 < i then ([32] : List Int) else []) = [] from if_neg hi0)
            go_wp2
            go_loopw [3, 6] (fun v jv w3 => ∃ (j : Nat), jv = .int .i64 j ∧ j ≤ s.size ∧ Aside1 (Below w.heap.size w w3 ∧ (Kd.int .u8).R 5 w3 w.heap.size (fun _ => True) v (Jn.join (lines.take k) ++ Jn.words (row.take i) ++ (bytesOf s).take j))) (fun _ jv _ => s.size - (intOf jv).toNat)
            case atStart => exact ⟨0, rfl, Nat.zero_le _, ⟨HI.out.1, by simpa using HI.out.2⟩⟩
            case round =>
              clear hcw
              obtain ⟨j, rfl, hj, HJ⟩ := hrel
              have HJ := Lib.hid HJ.out
              have hcw := pw_cell_below HJ.out.1 hcc
              have q0 := pw_cell_below HJ.out.1 p0
              by_cases hjl : j < s.size
              · have hjz : (j : Int) < (s.size : Int) := by omega
                have HBT := Lib.hid (byte_take hjl)
                have RJ := Lib.hid (show (Jn.join (lines.take k) ++ Jn.words (row.take i) ++ (bytesOf s).take j).length + 1 ≤ 1000000000 by
                  have := ROOM.out (j + 1) (by omega)
                  rw [HBT.out, HIF.out] at this
                  simp only [List.length_append, List.length_singleton, List.length_nil] at this ⊢
                  omega)
                go_wp2_with (at_builtin; refine Kd.R_append (Kd.int .u8) (w0 := w) (W := wr) w.heap.size rfl (.tmp 39) (.tmp 49) 22 5 _ 1 rfl (by kernel_rfl) u8_info rfl (by decide) (by decide) u3 (Jn.join (lines.take k) ++ Jn.words (row.take i) ++ (bytesOf s).take j) (s[j].toNat : Int) [.int .u8 (s[j].toNat : Int)] (fun _ => True) (fun _ => False) rfl rfl rfl (fun _ h => h.elim) (fun _ _ => trivial) HJ.out.2 HJ.out.1 HJ.out.1.size (by have := RJ.out; omega) ?_; intro v1 w4 hR1 hB1 hg1 hat1)
                go_roundw
                case rel => exact ⟨j + 1, by go_num, by omega, ⟨hB1, by rw [HBT.out, ← List.append_assoc]; exact hR1⟩⟩
                case measure => simp [intOf]; omega
              · have hjz : ¬ (j : Int) < (s.size : Int) := by omega
                have hfull : (bytesOf s).take j = bytesOf s := List.take_of_length_le (by rw [bytesOf_length]; omega)
                rw [hfull] at HJ
                have HWT := Lib.hid (Jn.words_take hil)
                rw [HIF.out, ← HSB.out] at HWT
                clear hfull
                go_wp2
                go_roundw
                case rel => exact ⟨i + 1, by go_num, by omega, ⟨HJ.out.1, by rw [HWT.out]; have := HJ.out.2; simpa only [List.append_assoc, List.append_nil, List.nil_append] using this⟩⟩
                case measure => simp [intOf]; omega
        · have hilz : ¬ (i : Int) < (row.length : Int) := by omega
          have hfull : row.take i = row := List.take_of_length_le (by omega)
          rw [hfull] at HI
          have HJT := Lib.hid (Jn.join_take hlt)
          have HR2 := Lib.hid (Nat.le_trans (Jn.room2 (lines := lines) hlt) HT.out)
          rw [← HROW.out] at HJT HR2
          clear hfull
          go_wp2_with (at_builtin; refine Kd.R_append (Kd.int .u8) (w0 := w) (W := wr) w.heap.size rfl (.tmp 51) (.tmp 52) 22 5 _ 1 rfl (by kernel_rfl) u8_info rfl (by decide) (by decide) u3 (Jn.join (lines.take k) ++ Jn.words row) 10 [.int .u8 10] (fun _ => True) (fun _ => False) rfl rfl rfl (fun _ h => h.elim) (fun _ _ => trivial) HI.out.2 HI.out.1 HI.out.1.size (by have := HR2.out; omega) ?_; intro v1 w4 hR1 hB1 hg1 hat1)
          go_roundw
          case rel => exact ⟨k + 1, by go_num, by omega, ⟨hB1, by rw [HJT.out]; exact hR1⟩⟩
          case measure => simp [intOf]; omega
    · have hltz : ¬ (k : Int) < (lines.length : Int) := by omega
      have hfull : lines.take k = lines := List.take_of_length_le (by omega)
      rw [hfull] at HI
      clear hfull
      go_wp2
      go_ret
      exact ⟨_, rfl, HI.out.2, HI.out.1⟩
end Go.Proofs.YtamhpnenpoamhaaGreat

/- The reference's text of a policy. -/
namespace Go.Proofs.YtamhpnenpoamhaaGreat
open Go.RowKit Go.Proofs.YtamhpnenpoamhaaGreatW.PrintWords Go.Proofs.YtamhpnenpoamhaaGreatW.PrintLast

namespace Cp
def rule (r : Ru) : List ByteArray := Rp.print r.p r.e.toNat r.u.toNat r.k
/-- The lines of a policy. -/
def lines (m : Int) (l : List Ru) : List (List ByteArray) := [sSize, Dp.print m.toNat] :: l.map rule
theorem go_len : ∀ (at_ n : Nat) (acc : List UInt8), (Dp.go at_ n acc).length ≤ at_ + acc.length
  | 0, _, acc => by simp [Dp.go]
  | at_ + 1, n, acc => by
    rw [Dp.go]
    split
    · have := go_len at_ (n / 10) (UInt8.ofNat (48 + n % 10) :: acc)
      simp only [List.length_cons] at this
      omega
    · simp only [List.length_cons]; omega
theorem print_size (n : Nat) : (Dp.print n).size ≤ 20 := by
  have := go_len 20 n []
  show (Dp.digits n).toArray.size ≤ 20
  simpa [Dp.digits] using this
theorem name_size (k : Int) : (Rl.name k).size ≤ 6 := by
  unfold Rl.name
  split
  · decide
  · split
    · decide
    · split <;> decide
theorem right_size {p : ByteArray} {e u k : Int} (h : Rl.right p e u k = 0) : p.size ≤ 128 := by
  have ho : Rl.okP p = true := by
    cases hh : Rl.okP p with
    | true => rfl
    | false => unfold Rl.right at h; rw [if_pos hh] at h; omega
  unfold Rl.okP at ho
  rw [Bool.or_eq_true] at ho
  rcases ho with ho | ho
  · rw [List.isEmpty_iff] at ho
    have := congrArg List.length ho
    rw [Lib.toList_data] at this
    simp at this
    have hz : p.size = 0 := by show p.data.size = 0; rw [this]; rfl
    omega
  · unfold Ky.right at ho
    simp only [Bool.and_eq_true, decide_eq_true_iff] at ho
    have := ho.1.2
    simpa using this
theorem rules_right {l : List Ru} (h : Cr.rules l = 0) : ∀ r ∈ l, Rl.right r.p r.e r.u r.k = 0 := by
  induction l with
  | nil => intro r hr; simp at hr
  | cons a l ih =>
    rw [Cr.rules] at h
    by_cases h0 : Rl.right a.p a.e a.u a.k = 0
    · rw [if_neg (not_not_intro h0)] at h
      intro r hr
      rcases List.mem_cons.1 hr with rfl | hr
      · exact h0
      · exact ih h r hr
    · rw [if_pos h0] at h; exact absurd h h0
theorem rightR_zero {m : Int} {l : List Ru} (h : Cr.rightR m l = 0) : 1 ≤ m ∧ m ≤ 1000000 ∧ l.length ≤ 1000 ∧ Cr.rules l = 0 := by
  unfold Cr.rightR at h
  split at h
  · omega
  · split at h
    · omega
    · split at h
      · rename_i hr; exact absurd h hr
      · rename_i h1 h2 h3
        exact ⟨by omega, by omega, by omega, by omega⟩
/-- Words that are small. -/
def Small (l : List ByteArray) : Prop := l.length ≤ 5 ∧ ∀ s ∈ l, s.size ≤ 128
theorem small_rule {r : Ru} (h : Rl.right r.p r.e r.u r.k = 0) : Small (rule r) := by
  have hp := right_size h
  unfold rule Rp.print
  split
  · exact ⟨by simp, fun s hs => by simp at hs⟩
  · unfold Rp.words
    have h1 := print_size r.e.toNat
    have h2 := print_size r.u.toNat
    have h3 := name_size r.k
    constructor
    · split <;> simp
    · intro s hs
      rcases List.mem_append.1 hs with hs | hs
      · split at hs
        · rw [List.mem_singleton.1 hs]; decide
        · rcases List.mem_cons.1 hs with rfl | hs
          · decide
          · rw [List.mem_singleton.1 hs]; exact hp
      · simp only [List.mem_cons, List.not_mem_nil, or_false] at hs
        rcases hs with rfl | rfl | rfl <;> omega
theorem flat_le (B : Nat) : ∀ (r : List ByteArray), (∀ s ∈ r, s.size ≤ B) → (r.flatMap fun t => 32 :: bytesOf t).length ≤ r.length * (B + 1)
  | [], _ => by simp
  | s :: r, h => by
    have := flat_le B r (fun x hx => h x (by simp [hx]))
    have hs := h s (by simp)
    simp only [List.flatMap_cons, List.length_append, List.length_cons, bytesOf_length, Nat.add_mul, Nat.one_mul]
    omega
theorem words_small {l : List ByteArray} (h : Small l) : (Jn.words l).length ≤ 650 := by
  obtain ⟨h1, h2⟩ := h
  cases l with
  | nil => simp [Jn.words]
  | cons s r =>
    have := flat_le 128 r (fun x hx => h2 x (by simp [hx]))
    have hs := h2 s (by simp)
    simp only [List.length_cons] at h1
    simp only [Jn.words, List.length_append, bytesOf_length]
    have : r.length * (128 + 1) ≤ 4 * 129 := Nat.mul_le_mul_right _ (by omega)
    omega
theorem join_small : ∀ (ls : List (List ByteArray)), (∀ l ∈ ls, Small l) → (Jn.join ls).length ≤ ls.length * 651
  | [], _ => by simp [Jn.join]
  | l :: ls, h => by
    have h1 := join_small ls (fun x hx => h x (by simp [hx]))
    have h2 := words_small (h l (by simp))
    unfold Jn.join at h1 ⊢
    simp only [List.flatMap_cons, List.length_append, List.length_cons, List.length_nil, Nat.add_mul, Nat.one_mul] at h1 ⊢
    omega
theorem lines_small {m : Int} {l : List Ru} (h : ∀ r ∈ l, Rl.right r.p r.e r.u r.k = 0) : ∀ x ∈ lines m l, Small x := by
  intro x hx
  rcases List.mem_cons.1 hx with rfl | hx
  · refine ⟨by simp, fun s hs => ?_⟩
    simp only [List.mem_cons, List.not_mem_nil, or_false] at hs
    rcases hs with rfl | rfl
    · decide
    · have := print_size m.toNat; omega
  · obtain ⟨r, hr, rfl⟩ := List.mem_map.1 hx
    exact small_rule (h r hr)
theorem lines_join {m : Int} {l : List Ru} (h : ∀ r ∈ l, Rl.right r.p r.e r.u r.k = 0) (hl : l.length ≤ 1000) : (Jn.join (lines m l)).length ≤ 1000000 := by
  have := join_small _ (lines_small (m := m) h)
  rw [show (lines m l).length = l.length + 1 by simp [lines]] at this
  omega
end Cp
/-- One row of strings, laid as a row of rows. -/
theorem R_one (W : World) (base : Nat) (v : Value) (row : List ByteArray) (h : Kd.string.R 9 W base (fun _ => True) v row) (hb : base ≤ W.heap.size) :
    (Kd.slice 9 Kd.string).R 32 (W.alloc (.cells #[v] 32)) base (fun _ => True) (.slice (some ⟨W.heap.size, 0, none⟩) 1 1) [row] := by
  have hM : (Kd.slice 9 Kd.string).M (W.alloc (.cells #[v] 32)) base (fun k => True ∧ some k ≠ (Value.slice (some ⟨W.heap.size, 0, none⟩) 1 1).ownBlock) row [v] := by
    refine ⟨v, rfl, Kd.R_alloc (Kd.R_mono (Kd.R_bound h) (fun k hk => ⟨trivial, ?_⟩)) _⟩
    have := hk.2.2.1
    intro e
    have e' : k = W.heap.size := by simpa [Value.ownBlock] using e
    omega
  have hr := (Reps.none ((Kd.slice 9 Kd.string).M (W.alloc (.cells #[v] 32)) base (fun k => True ∧ some k ≠ (Value.slice (some ⟨W.heap.size, 0, none⟩) 1 1).ownBlock)) 1).snoc hM rfl
  exact ⟨fun _ _ => trivial, OwnRow.lit (ps := [row]) (inner := [v]) W base hr hb (by simp)⟩
def TextPost (m : Int) (l : List Ru) (w : World) (x : Ending) (w' : World) : Prop := Below w.heap.size w w' ∧
  ((Cr.rightR m l ≠ 0 ∧ x = .returned (.tuple #[.slice none 0 0, .int .i64 (Cr.rightR m l)])) ∨
   (Cr.rightR m l = 0 ∧ ∃ l' v, SortedR l' l ∧ x = .returned (.tuple #[v, .int .i64 0]) ∧ (Kd.int .u8).R 5 w' w.heap.size (fun _ => True) v (Jn.join (Cp.lines m l'))))
theorem strsrow_info : (Tryz.prog.info? 32).map (fun i => (i.zero, i.size, i.bytes)) = some (some (.slice none 0 0), 1, 24) := by kernel_rfl

/-- What the loop of Print leaves as it was: the blocks from a to b. -/
structure Fr (a b : Nat) (W4 w : World) : Prop where
  size : b ≤ w.heap.size
  same : ∀ i, a ≤ i → i < b → w.heap[i]? = W4.heap[i]?
theorem Fr.below {a b : Nat} {W4 w w' : World} (h : Fr a b W4 w) (hb : Below w.heap.size w w') : Fr a b W4 w' :=
  ⟨Nat.le_trans h.size hb.size, fun i h1 h2 => (hb.block i (Nat.lt_of_lt_of_le h2 h.size)).trans (h.same i h1 h2)⟩
theorem Fr.grown {a b : Nat} {W4 w w' : World} {row : Option Nat} (h : Fr a b W4 w) (hg : w.grownBy w' row) (hr : ∀ k, row = some k → k < a ∨ b ≤ k) : Fr a b W4 w' :=
  ⟨Nat.le_trans h.size hg.size, fun i h1 h2 => (hg.block i (Nat.lt_of_lt_of_le h2 h.size) (fun e => by have := hr i e.symm; omega)).trans (h.same i h1 h2)⟩
theorem Fr.blk {a b : Nat} {W4 w : World} (h : Fr a b W4 w) {g t : Nat} {cs : Array Value} (hB : Blk W4 g cs t) (h1 : a ≤ g) (h2 : g < b) : Blk w g cs t := (h.same g h1 h2).trans hB
theorem Fr.rules {a : Nat} {W4 w : World} {V : Option Addr} {vc : Nat} {l : List Ru} (h : Fr a W4.heap.size W4 w) (hR : kRu.R 37 W4 a (fun _ => True) (.slice V l.length vc) l) : kRu.C w V l.length l := by
  have h1 := Kd.R_step (w1 := w) (Kd.R_bound hR) (fun k hk _ => h.same k hk.2.1 hk.2.2.1)
  obtain ⟨A, c, hv, _, hC⟩ := Kd.R_reads h1
  injection hv with e1 e2 e3
  rw [e1]; exact hC

set_option maxHeartbeats 8000000 in
set_option maxRecDepth 100000 in
theorem ref_text (m : Int) (A : Option Addr) (c : Nat) (l : List Ru) (w : World) (hc : kRu.C w A l.length l) (hle : l.length ≤ c) (ht : ∀ r ∈ l, Cr.Typed r) :
    Calls Tryz.prog 19 #[.agg #[.int .i64 m, .slice A l.length c]] w (TextPost m l w) := by
  have hmax := Kd.C_max hc
  obtain ⟨W, hW⟩ : ∃ W, W = w.alloc (.cells #[.int .i64 m, .slice A l.length c] 28) := ⟨_, rfl⟩
  have HBW := Lib.hid (show Below w.heap.size w W by rw [hW]; exact (Below.refl _ _).alloc (Nat.le_refl _) _)
  have HSW := Lib.hid (show W.heap.size = w.heap.size + 1 by rw [hW]; simp)
  have HB := Lib.hid (show Blk W w.heap.size #[.int .i64 m, .slice A l.length c] 28 by rw [hW]; exact Blk.new _ _ _)
  have HC := Lib.hid (Kd.C_below hc HBW.out)
  have HTY := Lib.hid ht
  have HW := Lib.hid hW
  have RI := Lib.hid (fun w' (hb : Below W.heap.size W w') => ref_right m A c l w' (Kd.C_below HC.out hb) ht)
  clear hc ht hW
  obtain ⟨q, hq⟩ : ∃ q, q = Cr.rightR m l := ⟨_, rfl⟩
  rw [← hq] at RI
  have HQ := Lib.hid hq; clear hq
  by_cases h0 : q = 0
  · have hqb : (q != 0) = false := by rw [h0]; rfl
    have HQ0 := Lib.hid (show Cr.rightR m l = 0 by rw [← HQ.out, h0])
    obtain ⟨hm1, hm2, hl1, hl2⟩ := Cp.rightR_zero HQ0.out
    have HRR := Lib.hid (Cp.rules_right hl2)
    have hconv : IntKind.u64.wrap m = m := by rw [IntKind.wrap_u64]; omega
    have DP := Lib.hid (show ∀ w, Calls Tryz.prog 38 #[.int .u64 m] w fun e w' => e = .returned (.string (Dp.print m.toNat)) ∧ w = w' from fun w => by
      have := ref_digit_print m.toNat w (by omega)
      rwa [Int.toNat_of_nonneg (by omega)] at this)
    clear h0 hl2
    go_enter Tryz.func19, Tryz.ntmps19
    go_wp2_with fail
    rw [← HW.out]
    refine (RI.out _ (Below.refl _ _)).mono ?_
    rintro x w1 ⟨rfl, hb1⟩
    have B1 := HB.out.below hb1 HB.out.lt
    have x0 := B1.cell_at 0 (.int .i64 m) rfl
    have x1 := B1.cell_at 1 (.slice A l.length c) rfl
    have HB1 := Lib.hid hb1; have HK1 := Lib.hid B1
    have hs1 := HB1.out.size
    clear B1 hb1
    go_wp2_with fail
    refine (DP.out _).mono ?_
    rintro x w2 ⟨rfl, rfl⟩
    obtain ⟨W3, hW3⟩ : ∃ W3, W3 = (w1.alloc (.cells #[.string ⟨#[115, 105, 122, 101]⟩, .string (Dp.print m.toNat)] 9)).alloc (.cells #[.slice (some ⟨w1.heap.size, 0, none⟩) 2 2] 32) := ⟨_, rfl⟩
    have hb13 : Below w1.heap.size w1 W3 := by rw [hW3]; exact parse_below _ _ _
    have hs3 : W3.heap.size = w1.heap.size + 2 := by rw [hW3]; simp
    have hR3 : (Kd.slice 9 Kd.string).R 32 W3 W.heap.size (fun _ => True) (.slice (some ⟨w1.heap.size + 1, 0, none⟩) 1 1) [[sSize, Dp.print m.toNat]] := by
      have h1 := R_strs w1 W.heap.size [sSize, Dp.print m.toNat] hs1 (by simp)
      have h2 := R_one _ W.heap.size _ _ h1 (by rw [World.size_alloc]; omega)
      rw [World.size_alloc] at h2
      rw [hW3]; exact h2
    have HBW3 := Lib.hid (HB1.out.trans (hb13.mono hs1))
    have B3 := HB.out.below HBW3.out HB.out.lt
    have OR := Lib.hid (ref_order m A c l W3 (Kd.C_below HC.out HBW3.out) hle (by omega) (fun r hr => (HTY.out r hr).1))
    have y0 := B3.cell_at 0 (.int .i64 m) rfl
    have y1 := B3.cell_at 1 (.slice A l.length c) rfl
    have HR3 := Lib.hid hR3; have HS3 := Lib.hid hs3; have HW3 := Lib.hid hW3
    clear hb13 hs3 hR3 hW3 B3
    rw [HW3.out] at y0 y1
    go_wp2_with fail
    rw [← HW3.out]
    refine OR.out.mono ?_
    rintro x w4 ⟨l', V', vc', hso, rfl, hR', hB'⟩
    have HSO := Lib.hid hso
    have hb4 := HBW3.out.trans (hB'.mono HBW3.out.size)
    have hs4 := hb4.size
    obtain ⟨W4, hW4⟩ : ∃ W4, W4 = w4.alloc (.cells #[.int .i64 m, .slice V' l'.length vc'] 28) := ⟨_, rfl⟩
    have hbA : Below w4.heap.size w4 W4 := by rw [hW4]; exact (Below.refl _ _).alloc (Nat.le_refl _) _
    have HT5 := Lib.hid (show Blk W4 w4.heap.size #[.int .i64 m, .slice V' l'.length vc'] 28 by rw [hW4]; exact Blk.new _ _ _)
    have HRU := Lib.hid (Kd.R_below hR' hbA)
    have hs34 := hB'.size
    have hsA := hbA.size
    have HT5l := Lib.hid (show w4.heap.size < W4.heap.size from HT5.out.lt)
    have HBW4 := Lib.hid (hb4.trans (hbA.mono hs4))
    have HR4 := Lib.hid (Kd.R_below (Kd.R_below (Kd.R_mono (Kd.R_bound HR3.out) (ok' := fun k => k < W3.heap.size ∨ W4.heap.size ≤ k) (fun k hk => .inl hk.2.2.1)) hB') hbA)
    have hll : l'.length = l.length := hso.len
    have HLL := Lib.hid hll
    have hlz : (l'.length : Int) ≤ 1000 := by omega
    have HMEM := Lib.hid (fun r => (hso.2.mem : r ∈ l' ↔ r ∈ l))
    have HW4 := Lib.hid hW4
    clear hso hR' hB' hb4 hbA hll hW4 y0 y1 x0 x1
    go_wp2
    rw [← HW4.out]
    go_loopw [4, 6] (fun v kv wr => ∃ (k : Nat), kv = .int .i64 k ∧ k ≤ l'.length ∧ Aside1 (Below W.heap.size W wr ∧ Fr W3.heap.size W4.heap.size W4 wr ∧ (Kd.slice 9 Kd.string).R 32 wr W.heap.size (fun k => k < W3.heap.size ∨ W4.heap.size ≤ k) v ([sSize, Dp.print m.toNat] :: (l'.take k).map Cp.rule))) (fun _ kv _ => l'.length - (intOf kv).toNat)
    case atStart => exact ⟨0, rfl, Nat.zero_le _, ⟨HBW4.out, ⟨Nat.le_refl _, fun _ _ _ => rfl⟩, HR4.out⟩⟩
    case round =>
      obtain ⟨k, rfl, hk, HI⟩ := hrel
      have HI := Lib.hid HI.out
      have B5 := HI.out.2.1.blk HT5.out hs34 HT5l.out
      have z0 := B5.cell_at 0 (.int .i64 m) rfl
      have z1 := B5.cell_at 1 (.slice V' l'.length vc') rfl
      have hfs := HI.out.2.1.size
      obtain ⟨LS, hLS⟩ : ∃ LS, LS = [sSize, Dp.print m.toNat] :: (l'.take k).map Cp.rule := ⟨_, rfl⟩
      rw [← hLS] at HI
      have HLS := Lib.hid hLS; clear hLS
      obtain ⟨A1, c1, hv1⟩ := Kd.R_slice HI.out.2.2
      subst hv1
      clear B5
      by_cases hlt : k < l'.length
      · have hltz : (k : Int) < (l'.length : Int) := by omega
        obtain ⟨ad, hA, p0, p1, p2, p3⟩ := rule_cells (HI.out.2.1.rules HRU.out) k hlt
        subst hA
        obtain ⟨r, hr⟩ : ∃ r, r = l'.getD k Ru.zero := ⟨_, rfl⟩
        have hrm : r ∈ l' := by rw [hr, List.getD_eq_getElem?_getD, List.getElem?_eq_getElem hlt]; exact List.getElem_mem hlt
        have hty := HTY.out r ((HMEM.out r).1 hrm)
        have HNX := Lib.hid (show (l'.take (k + 1)).map Cp.rule = (l'.take k).map Cp.rule ++ [Cp.rule r] by rw [rule_take hlt, List.map_append, hr]; rfl)
        rw [← hr] at p0 p1 p2 p3
        have PR := Lib.hid (show ∀ w, Calls Tryz.prog 39 #[.agg #[.string r.p, .int .u64 r.e, .int .u64 r.u, .int .u8 r.k]] w fun x w' => ∃ v, x = .returned v ∧ Kd.string.R 9 w' w.heap.size (fun _ => True) v (Cp.rule r) ∧ Below w.heap.size w w' from fun w => by
          have := ref_rule_print r.p r.e.toNat r.u.toNat r.k w hty.1 (by have := hty.2.1; omega) (by have := hty.2.2; omega)
          rwa [Int.toNat_of_nonneg hty.2.1.1, Int.toNat_of_nonneg hty.2.2.1] at this)
        have HLN := Lib.hid (show LS.length ≤ 1001 by rw [HLS.out]; simp only [List.length_cons, List.length_map, List.length_take]; omega)
        have HNL := Lib.hid (show [sSize, Dp.print m.toNat] :: (l'.take (k + 1)).map Cp.rule = LS ++ [Cp.rule r] by rw [HLS.out, HNX.out]; rfl)
        obtain ⟨RS, hRS⟩ : ∃ RS, RS = Cp.rule r := ⟨_, rfl⟩
        rw [← hRS] at PR HNL
        clear hRS
        clear hr hty hrm
        go_wp2_with fail
        refine (PR.out _).mono ?_
        rintro x w6 ⟨v6, rfl, hR6, hB6⟩
        obtain ⟨A6, c6, hv6⟩ := Kd.R_slice hR6
        subst hv6
        have HBR6 := Lib.hid (HI.out.1.trans (hB6.mono HI.out.1.size))
        have HF6 := Lib.hid (HI.out.2.1.below hB6)
        have HRO := Lib.hid (Kd.R_below HI.out.2.2 hB6)
        obtain ⟨inner, hown⟩ := Kd.R_own HI.out.2.2
        have HRL := Lib.hid (Kd.R_lower (Kd.R_mono (Kd.R_bound (Kd.R_new hR6 hown)) (ok' := fun z => (z < W3.heap.size ∨ W4.heap.size ≤ z) ∧ some z ≠ (Value.slice A1 LS.length c1).ownBlock) (fun z hz => ⟨.inr (by have := hz.2.1; omega), hz.1.2⟩)) HI.out.1.size)
        have HOWN := Lib.hid HI.out.2.2.1
        have D5 := HF6.out.blk HT5.out hs34 HT5l.out
        have e0 := D5.cell_at 0 (.int .i64 m) rfl
        have e1 := D5.cell_at 1 (.slice (some ad) l'.length vc') rfl
        clear hR6 hown hB6 D5
        go_wp2_with (at_builtin; refine Kd.R_append (Kd.slice 9 Kd.string) (w0 := W) (W := w6) W.heap.size rfl (.tmp 27) (.tmp 34) 61 32 _ 24 rfl (by kernel_rfl) strsrow_info rfl (by decide) (by decide) (.slice A1 LS.length c1) LS RS [.slice A6 RS.length c6] (fun z => z < W3.heap.size ∨ W4.heap.size ≤ z) (fun z => (z < W3.heap.size ∨ W4.heap.size ≤ z) ∧ some z ≠ (Value.slice A1 LS.length c1).ownBlock) rfl rfl ⟨_, rfl, HRL.out⟩ (fun _ h => h) (fun z hz => .inr (by have := HF6.out.size; omega)) HRO.out HBR6.out HBR6.out.size (by have := HLN.out; omega) ?_; intro v8 w8 hR8 hB8 hg8 hat8)
        have HF8 := HF6.out.grown hg8 HOWN.out
        go_roundw
        case rel => exact ⟨k + 1, by go_num, by omega, ⟨hB8, HF8, by rw [HNL.out]; exact hR8⟩⟩
        case measure => simp [intOf]; omega
      · have hltz : ¬ (k : Int) < (l'.length : Int) := by omega
        have hfull : l'.take k = l' := List.take_of_length_le (by omega)
        have hLT : LS = Cp.lines m l' := by rw [HLS.out, hfull]; rfl
        have HLT := Lib.hid hLT
        obtain ⟨A9, c9, hv9, hc9, hC9⟩ := Kd.R_reads HI.out.2.2
        injection hv9 with e1 e2 e3
        rw [← e1] at hC9
        clear e1 e2 e3 hLT
        have HRT := Lib.hid (fun r (hr : r ∈ l') => HRR.out r ((HMEM.out r).1 hr))
        have JN := Lib.hid (ref_join A1 c1 LS wr hC9 (by rw [HLT.out]; have := Cp.lines_join (m := m) HRT.out (by omega); omega) (fun x hx s hs => by rw [HLT.out] at hx; have := (Cp.lines_small (m := m) HRT.out x hx).2 s hs; omega))
        clear hC9 hfull
        go_wp2_with fail
        refine JN.out.mono ?_
        rintro x w9 ⟨v9, rfl, hR9, hB9⟩
        have HR9 := Lib.hid (Kd.R_lower hR9 (base' := w.heap.size) (by have := HI.out.1.size; have := HSW.out; omega))
        have HB9 := Lib.hid (HBW.out.trans ((HI.out.1.trans (hB9.mono HI.out.1.size)).mono HBW.out.size))
        obtain ⟨A10, c10, hv10⟩ := Kd.R_slice hR9
        subst hv10
        clear hR9 hB9
        go_wp2
        go_ret2
        exact ⟨HB9.out, .inr ⟨HQ0.out, l', _, HSO.out, rfl, by rw [← HLT.out]; exact HR9.out⟩⟩
  · have hqb : (q != 0) = true := by simpa using h0
    have HQ0 := Lib.hid (show Cr.rightR m l ≠ 0 by rw [← HQ.out]; exact h0)
    clear h0
    go_enter Tryz.func19, Tryz.ntmps19
    go_wp2_with fail
    rw [← HW.out]
    refine (RI.out _ (Below.refl _ _)).mono ?_
    rintro x w1 ⟨rfl, hb1⟩
    have B1 := HB.out.below hb1 HB.out.lt
    have x0 := B1.cell_at 0 (.int .i64 m) rfl
    have x1 := B1.cell_at 1 (.slice A l.length c) rfl
    have HB1 := Lib.hid hb1
    clear B1 hb1
    go_wp2_with fail
    refine (RI.out _ HB1.out).mono ?_
    rintro x w2 ⟨rfl, hb2⟩
    have HB2 := Lib.hid (HBW.out.trans ((HB1.out.trans (hb2.mono HB1.out.size)).mono HBW.out.size))
    clear hb2
    go_wp2
    go_ret2
    exact ⟨HB2.out, .inl ⟨HQ0.out, by rw [← HQ.out]; rfl⟩⟩
end Go.Proofs.YtamhpnenpoamhaaGreat

/- tollerlaw09.Key: a key out of choices; it is right. -/
namespace Go.Proofs.YtamhpnenpoamhaaGreat
open Go.RowKit Go.Proofs.YtamhpnenpoamhaaGreatW.PrintWords Go.Proofs.YtamhpnenpoamhaaGreatW.PrintLast

def keyT : List ByteArray := [⟨#[97]⟩, ⟨#[98]⟩, ⟨#[97, 47]⟩, ⟨#[98, 47]⟩, ⟨#[99]⟩, ⟨#[122]⟩, ⟨#[126]⟩, ⟨#[33]⟩]
def keyS (q : Nat) : ByteArray := keyT.getD q ⟨#[]⟩
theorem keyS_good (q : Nat) (h : q < 8) : (keyS q).data.toList.all Ky.ok = true ∧ 0 < (keyS q).size ∧ (keyS q).size ≤ 2 := by
  have : q = 0 ∨ q = 1 ∨ q = 2 ∨ q = 3 ∨ q = 4 ∨ q = 5 ∨ q = 6 ∨ q = 7 := by omega
  rcases this with rfl | rfl | rfl | rfl | rfl | rfl | rfl | rfl <;> decide
theorem keyT_at (q : Nat) (h : q < 8) : (keyT.map Value.string)[q]? = some (.string (keyS q)) := by
  have : q = 0 ∨ q = 1 ∨ q = 2 ∨ q = 3 ∨ q = 4 ∨ q = 5 ∨ q = 6 ∨ q = 7 := by omega
  rcases this with rfl | rfl | rfl | rfl | rfl | rfl | rfl | rfl <;> rfl
theorem app_data (a b : ByteArray) : (a ++ b).data.toList = a.data.toList ++ b.data.toList := by
  show (ByteArray.append a b).data.toList = _
  simp [ByteArray.append, ByteArray.data_append]
theorem key_good {s : ByteArray} (h : s.data.toList.all Ky.ok = true) (hl : s.size ≤ 12) (he : s.toList.isEmpty = false) : Ky.right s.data.toList = true := by
  have hs : s.data.toList.length = s.size := by simp
  have h0 : 0 < s.data.toList.length := by
    rw [← Lib.toList_data]
    cases hh : s.toList with
    | nil => rw [hh] at he; cases he
    | cons a b => simp
  rw [Ky.right_fit h0 (by omega), h]
def KeyPost (w : World) (x : Ending) (w' : World) : Prop := ∃ s : ByteArray, x = .returned (.string s) ∧ Ky.right s.data.toList = true ∧ s.size ≤ 12 ∧ Below w.heap.size w w'

set_option maxHeartbeats 4000000 in
set_option maxRecDepth 100000 in
theorem law_key (A : Option Addr) (c : Nat) (cs : List Int) (w : World) (hC : (Kd.int .u8).C w A cs.length cs) (hu : ∀ b ∈ cs, 0 ≤ b ∧ b ≤ 255) :
    Calls Tryz.prog 18 #[.slice A cs.length c] w (KeyPost w) := by
  have hmax := Kd.C_max hC
  have HC := Lib.hid hC; have HU := Lib.hid hu
  clear hC hu
  go_enter Tryz.func18, Tryz.ntmps18
  go_wp2
  go_loopw [3, 4] (fun sv kv wr => ∃ (k : Nat) (s : ByteArray), sv = .string s ∧ kv = .int .i64 k ∧ k ≤ 6 ∧ s.size ≤ 2 * k ∧ Aside1 (Below w.heap.size w wr ∧ s.data.toList.all Ky.ok = true ∧ (0 < k → 0 < s.size))) (fun _ kv _ => 6 - (intOf kv).toNat)
  case atStart => exact ⟨0, ⟨#[]⟩, rfl, rfl, by omega, Nat.le_refl 0, ⟨Below.refl _ _, rfl, fun h => by omega⟩⟩
  case round =>
    obtain ⟨k, s, rfl, rfl, hk, hss, HI⟩ := hrel
    have HI := Lib.hid HI.out
    by_cases hgo : k < cs.length ∧ k < 6
    · obtain ⟨h1, h2⟩ := hgo
      have h1z : (k : Int) < (cs.length : Int) := by omega
      have h2z : (k : Int) < 6 := by omega
      obtain ⟨ad, hA, p0⟩ := Kd.at_int (Kd.C_below HC.out HI.out.1) k (by omega) (by omega)
      subst hA
      rw [Int.toNat_natCast, show rd cs (k : Int) = cs.getD k 0 by simp [rd]] at p0
      obtain ⟨hb0, hb1⟩ := HU.out (cs.getD k 0) (by rw [List.getD_eq_getElem?_getD, List.getElem?_eq_getElem h1]; exact List.getElem_mem h1)
      generalize cs.getD k 0 = b at p0 hb0 hb1
      obtain ⟨q, hq⟩ : ∃ q : Nat, b % 8 = (q : Int) := ⟨(b % 8).toNat, by omega⟩
      have hq8 : q < 8 := by omega
      have HQ := Lib.hid hq
      obtain ⟨g1, g2, g3⟩ := keyS_good q hq8
      have c0 : (wr.alloc (.cells #[.string ⟨#[97]⟩, .string ⟨#[98]⟩, .string ⟨#[97, 47]⟩, .string ⟨#[98, 47]⟩, .string ⟨#[99]⟩, .string ⟨#[122]⟩, .string ⟨#[126]⟩, .string ⟨#[33]⟩] 9)).cell? ⟨wr.heap.size, q, none⟩ = some (.string (keyS q)) :=
        ((Blk.new wr (keyT.map Value.string).toArray 9).cell q).trans ((List.getElem?_toArray).trans (keyT_at q hq8))
      have p1 := cell_alloc p0 (.cells #[.string ⟨#[97]⟩, .string ⟨#[98]⟩, .string ⟨#[97, 47]⟩, .string ⟨#[98, 47]⟩, .string ⟨#[99]⟩, .string ⟨#[122]⟩, .string ⟨#[126]⟩, .string ⟨#[33]⟩] 9)
      have HG := Lib.hid g1
      have hqz : (q : Int) < 8 := by omega
      generalize keyS q = t at c0 HG g2 g3
      clear g1
      go_wp2
      go_roundw
      case rel =>
        refine ⟨k + 1, s ++ t, rfl, by go_num, by omega, ?_, ⟨HI.out.1.alloc HI.out.1.size _, ?_, fun _ => ?_⟩⟩
        · rw [ByteArray.size_append]; omega
        · rw [app_data, List.all_append, HI.out.2.1, HG.out]; rfl
        · rw [ByteArray.size_append]; omega
      case measure => simp [intOf]; omega
    · by_cases h1 : k < cs.length
      · have h2 : ¬ k < 6 := fun h => hgo ⟨h1, h⟩
        have h1z : (k : Int) < (cs.length : Int) := by omega
        have h2z : ¬ (k : Int) < 6 := by omega
        cases he : s.toList.isEmpty with
        | true =>
          go_wp2
          go_ret
          exact ⟨⟨#[107]⟩, rfl, by decide, by decide, HI.out.1⟩
        | false =>
          have HF := Lib.hid (key_good HI.out.2.1 (by omega) he)
          go_wp2
          go_ret
          exact ⟨s, rfl, HF.out, by omega, HI.out.1⟩
      · have h1z : ¬ (k : Int) < (cs.length : Int) := by omega
        cases he : s.toList.isEmpty with
        | true =>
          go_wp2
          go_ret
          exact ⟨⟨#[107]⟩, rfl, by decide, by decide, HI.out.1⟩
        | false =>
          have HF := Lib.hid (key_good HI.out.2.1 (by omega) he)
          go_wp2
          go_ret
          exact ⟨s, rfl, HF.out, by omega, HI.out.1⟩
end Go.Proofs.YtamhpnenpoamhaaGreat

/- tollerlaw10.Text: a text out of choices; it is small. -/
namespace Go.Proofs.YtamhpnenpoamhaaGreat
open Go.RowKit Go.Proofs.YtamhpnenpoamhaaGreatW.PrintWords Go.Proofs.YtamhpnenpoamhaaGreatW.PrintLast

def textT : List ByteArray := [⟨#[97]⟩, ⟨#[98, 99]⟩, ⟨#[32]⟩, ⟨#[9]⟩, ⟨#[10]⟩, ⟨#[35]⟩, ⟨#[120, 49]⟩, ⟨#[10]⟩, ⟨#[32]⟩, ⟨#[32, 32]⟩, ⟨#[115, 105, 122, 101]⟩, ⟨#[100, 101, 102, 97, 117, 108, 116]⟩, ⟨#[114, 117, 108, 101]⟩, ⟨#[55]⟩, ⟨#[127]⟩, ⟨#[13]⟩]
def textS (q : Nat) : ByteArray := textT.getD q ⟨#[]⟩
theorem lt16 {q : Nat} (h : q < 16) : q = 0 ∨ q = 1 ∨ q = 2 ∨ q = 3 ∨ q = 4 ∨ q = 5 ∨ q = 6 ∨ q = 7 ∨ q = 8 ∨ q = 9 ∨ q = 10 ∨ q = 11 ∨ q = 12 ∨ q = 13 ∨ q = 14 ∨ q = 15 := by omega
theorem textS_size (q : Nat) (h : q < 16) : (textS q).size ≤ 7 := by
  rcases lt16 h with rfl | rfl | rfl | rfl | rfl | rfl | rfl | rfl | rfl | rfl | rfl | rfl | rfl | rfl | rfl | rfl <;> decide
theorem textT_at (q : Nat) (h : q < 16) : (textT.map Value.string)[q]? = some (.string (textS q)) := by
  rcases lt16 h with rfl | rfl | rfl | rfl | rfl | rfl | rfl | rfl | rfl | rfl | rfl | rfl | rfl | rfl | rfl | rfl <;> rfl
def BytesPost (B : Nat) (w : World) (x : Ending) (w' : World) : Prop := ∃ (v : Value) (bs : List Int), x = .returned v ∧ (Kd.int .u8).R 5 w' w.heap.size (fun _ => True) v bs ∧ bs.length ≤ B ∧ (∀ b ∈ bs, 0 ≤ b ∧ b ≤ 255) ∧ Below w.heap.size w w'

set_option maxHeartbeats 4000000 in
set_option maxRecDepth 100000 in
theorem law_text (A : Option Addr) (c : Nat) (cs : List Int) (w : World) (hC : (Kd.int .u8).C w A cs.length cs) (hu : ∀ b ∈ cs, 0 ≤ b ∧ b ≤ 255) :
    Calls Tryz.prog 8 #[.slice A cs.length c] w (BytesPost 560 w) := by
  have hmax := Kd.C_max hC
  have HC := Lib.hid hC; have HU := Lib.hid hu
  clear hC hu
  go_enter Tryz.func8, Tryz.ntmps8
  go_wp2
  go_loopw [3, 4] (fun v kv wr => ∃ (k : Nat) (xs : List Int), kv = .int .i64 k ∧ k ≤ 80 ∧ xs.length ≤ 7 * k ∧ Aside1 (Below w.heap.size w wr ∧ (Kd.int .u8).R 5 wr w.heap.size (fun _ => True) v xs ∧ ∀ b ∈ xs, 0 ≤ b ∧ b ≤ 255)) (fun _ kv _ => 80 - (intOf kv).toNat)
  case atStart => exact ⟨0, [], rfl, by omega, Nat.le_refl 0, ⟨Below.refl _ _, Kd.R_nil _ _ _ _ _, fun b h => by simp at h⟩⟩
  case round =>
    obtain ⟨k, xs, rfl, hk, hxs, HI⟩ := hrel
    have HI := Lib.hid HI.out
    by_cases hgo : k < cs.length ∧ k < 80
    · obtain ⟨h1, h2⟩ := hgo
      have h1z : (k : Int) < (cs.length : Int) := by omega
      have h2z : (k : Int) < 80 := by omega
      obtain ⟨ad, hA, p0⟩ := Kd.at_int (Kd.C_below HC.out HI.out.1) k (by omega) (by omega)
      subst hA
      rw [Int.toNat_natCast, show rd cs (k : Int) = cs.getD k 0 by simp [rd]] at p0
      obtain ⟨hb0, hb1⟩ := HU.out (cs.getD k 0) (by rw [List.getD_eq_getElem?_getD, List.getElem?_eq_getElem h1]; exact List.getElem_mem h1)
      generalize cs.getD k 0 = b at p0 hb0 hb1
      obtain ⟨q, hq⟩ : ∃ q : Nat, b % 16 = (q : Int) := ⟨(b % 16).toNat, by omega⟩
      have hq8 : q < 16 := by omega
      have HQ := Lib.hid hq
      have g3 := textS_size q hq8
      have c0 : (wr.alloc (.cells #[.string ⟨#[97]⟩, .string ⟨#[98, 99]⟩, .string ⟨#[32]⟩, .string ⟨#[9]⟩, .string ⟨#[10]⟩, .string ⟨#[35]⟩, .string ⟨#[120, 49]⟩, .string ⟨#[10]⟩, .string ⟨#[32]⟩, .string ⟨#[32, 32]⟩, .string ⟨#[115, 105, 122, 101]⟩, .string ⟨#[100, 101, 102, 97, 117, 108, 116]⟩, .string ⟨#[114, 117, 108, 101]⟩, .string ⟨#[55]⟩, .string ⟨#[127]⟩, .string ⟨#[13]⟩] 9)).cell? ⟨wr.heap.size, q, none⟩ = some (.string (textS q)) :=
        ((Blk.new wr (textT.map Value.string).toArray 9).cell q).trans ((List.getElem?_toArray).trans (textT_at q hq8))
      have p1 := cell_alloc p0 (.cells #[.string ⟨#[97]⟩, .string ⟨#[98, 99]⟩, .string ⟨#[32]⟩, .string ⟨#[9]⟩, .string ⟨#[10]⟩, .string ⟨#[35]⟩, .string ⟨#[120, 49]⟩, .string ⟨#[10]⟩, .string ⟨#[32]⟩, .string ⟨#[32, 32]⟩, .string ⟨#[115, 105, 122, 101]⟩, .string ⟨#[100, 101, 102, 97, 117, 108, 116]⟩, .string ⟨#[114, 117, 108, 101]⟩, .string ⟨#[55]⟩, .string ⟨#[127]⟩, .string ⟨#[13]⟩] 9)
      have hqz : (q : Int) < 16 := by omega
      generalize textS q = t at c0 g3
      have hbA := HI.out.1.alloc HI.out.1.size (.cells #[.string ⟨#[97]⟩, .string ⟨#[98, 99]⟩, .string ⟨#[32]⟩, .string ⟨#[9]⟩, .string ⟨#[10]⟩, .string ⟨#[35]⟩, .string ⟨#[120, 49]⟩, .string ⟨#[10]⟩, .string ⟨#[32]⟩, .string ⟨#[32, 32]⟩, .string ⟨#[115, 105, 122, 101]⟩, .string ⟨#[100, 101, 102, 97, 117, 108, 116]⟩, .string ⟨#[114, 117, 108, 101]⟩, .string ⟨#[55]⟩, .string ⟨#[127]⟩, .string ⟨#[13]⟩] 9)
      have hRA := Kd.R_alloc HI.out.2.1 (.cells #[.string ⟨#[97]⟩, .string ⟨#[98, 99]⟩, .string ⟨#[32]⟩, .string ⟨#[9]⟩, .string ⟨#[10]⟩, .string ⟨#[35]⟩, .string ⟨#[120, 49]⟩, .string ⟨#[10]⟩, .string ⟨#[32]⟩, .string ⟨#[32, 32]⟩, .string ⟨#[115, 105, 122, 101]⟩, .string ⟨#[100, 101, 102, 97, 117, 108, 116]⟩, .string ⟨#[114, 117, 108, 101]⟩, .string ⟨#[55]⟩, .string ⟨#[127]⟩, .string ⟨#[13]⟩] 9)
      have HBA := Lib.hid hbA; have HRA := Lib.hid hRA; have HXB := Lib.hid HI.out.2.2
      clear hbA hRA
      by_cases hb128 : b < 128
      · by_cases hq13 : 13 < q
        · have hq13z : (13 : Int) < (q : Int) := by omega
          go_wp2
          generalize wr.alloc (.cells #[.string ⟨#[97]⟩, .string ⟨#[98, 99]⟩, .string ⟨#[32]⟩, .string ⟨#[9]⟩, .string ⟨#[10]⟩, .string ⟨#[35]⟩, .string ⟨#[120, 49]⟩, .string ⟨#[10]⟩, .string ⟨#[32]⟩, .string ⟨#[32, 32]⟩, .string ⟨#[115, 105, 122, 101]⟩, .string ⟨#[100, 101, 102, 97, 117, 108, 116]⟩, .string ⟨#[114, 117, 108, 101]⟩, .string ⟨#[55]⟩, .string ⟨#[127]⟩, .string ⟨#[13]⟩] 9) = W2 at HBA HRA c0 p1 ⊢
          refine wp_loop_rounds 2 ?_
          rw [rounds_succ]
          go_wp2_with (at_builtin; refine Kd.R_append (Kd.int .u8) (w0 := w) (W := W2) w.heap.size rfl (.tmp 44) (.tmp 48) 22 5 _ 1 rfl (by kernel_rfl) u8_info rfl (by decide) (by decide) u3 xs 121 [.int .u8 121] (fun _ => True) (fun _ => False) rfl rfl rfl (fun _ h => h.elim) (fun _ _ => trivial) HRA.out HBA.out HBA.out.size (by omega) ?_; intro v1 w4 hR1 hB1 hg1 hat1)
          rw [rounds_succ]
          go_wp2
          go_roundw
          case rel => exact ⟨k + 1, xs ++ [121], by go_num, by omega, by simp; omega, ⟨hB1, hR1, fun b hb => by rcases List.mem_append.1 hb with h | h; exact HXB.out b h; rw [List.mem_singleton.1 h]; omega⟩⟩
          case measure => simp [intOf]; omega
        · have hq13z : ¬ (13 : Int) < (q : Int) := by omega
          go_wp2
          generalize wr.alloc (.cells #[.string ⟨#[97]⟩, .string ⟨#[98, 99]⟩, .string ⟨#[32]⟩, .string ⟨#[9]⟩, .string ⟨#[10]⟩, .string ⟨#[35]⟩, .string ⟨#[120, 49]⟩, .string ⟨#[10]⟩, .string ⟨#[32]⟩, .string ⟨#[32, 32]⟩, .string ⟨#[115, 105, 122, 101]⟩, .string ⟨#[100, 101, 102, 97, 117, 108, 116]⟩, .string ⟨#[114, 117, 108, 101]⟩, .string ⟨#[55]⟩, .string ⟨#[127]⟩, .string ⟨#[13]⟩] 9) = W2 at HBA HRA c0 p1 ⊢
          go_loopw [3, 6] (fun v jv w3 => ∃ (j : Nat) (ys : List Int), jv = .int .i64 j ∧ j ≤ t.size ∧ ys.length ≤ 7 * k + j ∧ Aside1 (Below w.heap.size w w3 ∧ (Kd.int .u8).R 5 w3 w.heap.size (fun _ => True) v ys ∧ ∀ b ∈ ys, 0 ≤ b ∧ b ≤ 255)) (fun _ jv _ => t.size - (intOf jv).toNat)
          case atStart => exact ⟨0, xs, rfl, Nat.zero_le _, by omega, ⟨HBA.out, HRA.out, HXB.out⟩⟩
          case round =>
            obtain ⟨j, ys, rfl, hj, hys, HJ⟩ := hrel
            have HJ := Lib.hid HJ.out
            by_cases hjl : j < t.size
            · have hjz : (j : Int) < (t.size : Int) := by omega
              have hbt := t[j].toNat_lt
              go_wp2_with (at_builtin; refine Kd.R_append (Kd.int .u8) (w0 := w) (W := wr) w.heap.size rfl (.tmp 44) (.tmp 48) 22 5 _ 1 rfl (by kernel_rfl) u8_info rfl (by decide) (by decide) u3 ys (t[j].toNat : Int) [.int .u8 (t[j].toNat : Int)] (fun _ => True) (fun _ => False) rfl rfl rfl (fun _ h => h.elim) (fun _ _ => trivial) HJ.out.2.1 HJ.out.1 HJ.out.1.size (by omega) ?_; intro v1 w4 hR1 hB1 hg1 hat1)
              go_roundw
              case rel => exact ⟨j + 1, ys ++ [(t[j].toNat : Int)], by go_num, by omega, by simp; omega, ⟨hB1, hR1, fun b hb => by rcases List.mem_append.1 hb with h | h; exact HJ.out.2.2 b h; rw [List.mem_singleton.1 h]; omega⟩⟩
              case measure => simp [intOf]; omega
            · have hjz : ¬ (j : Int) < (t.size : Int) := by omega
              go_wp2
              go_roundw
              case rel => exact ⟨k + 1, ys, by go_num, by omega, by omega, ⟨HJ.out.1, HJ.out.2.1, HJ.out.2.2⟩⟩
              case measure => simp [intOf]; omega
      · go_wp2
        generalize wr.alloc (.cells #[.string ⟨#[97]⟩, .string ⟨#[98, 99]⟩, .string ⟨#[32]⟩, .string ⟨#[9]⟩, .string ⟨#[10]⟩, .string ⟨#[35]⟩, .string ⟨#[120, 49]⟩, .string ⟨#[10]⟩, .string ⟨#[32]⟩, .string ⟨#[32, 32]⟩, .string ⟨#[115, 105, 122, 101]⟩, .string ⟨#[100, 101, 102, 97, 117, 108, 116]⟩, .string ⟨#[114, 117, 108, 101]⟩, .string ⟨#[55]⟩, .string ⟨#[127]⟩, .string ⟨#[13]⟩] 9) = W2 at HBA HRA c0 p1 ⊢
        go_loopw [3, 6] (fun v jv w3 => ∃ (j : Nat) (ys : List Int), jv = .int .i64 j ∧ j ≤ t.size ∧ ys.length ≤ 7 * k + j ∧ Aside1 (Below w.heap.size w w3 ∧ (Kd.int .u8).R 5 w3 w.heap.size (fun _ => True) v ys ∧ ∀ b ∈ ys, 0 ≤ b ∧ b ≤ 255)) (fun _ jv _ => t.size - (intOf jv).toNat)
        case atStart => exact ⟨0, xs, rfl, Nat.zero_le _, by omega, ⟨HBA.out, HRA.out, HXB.out⟩⟩
        case round =>
          obtain ⟨j, ys, rfl, hj, hys, HJ⟩ := hrel
          have HJ := Lib.hid HJ.out
          by_cases hjl : j < t.size
          · have hjz : (j : Int) < (t.size : Int) := by omega
            have hbt := t[j].toNat_lt
            go_wp2_with (at_builtin; refine Kd.R_append (Kd.int .u8) (w0 := w) (W := wr) w.heap.size rfl (.tmp 44) (.tmp 48) 22 5 _ 1 rfl (by kernel_rfl) u8_info rfl (by decide) (by decide) u3 ys (t[j].toNat : Int) [.int .u8 (t[j].toNat : Int)] (fun _ => True) (fun _ => False) rfl rfl rfl (fun _ h => h.elim) (fun _ _ => trivial) HJ.out.2.1 HJ.out.1 HJ.out.1.size (by omega) ?_; intro v1 w4 hR1 hB1 hg1 hat1)
            go_roundw
            case rel => exact ⟨j + 1, ys ++ [(t[j].toNat : Int)], by go_num, by omega, by simp; omega, ⟨hB1, hR1, fun b hb => by rcases List.mem_append.1 hb with h | h; exact HJ.out.2.2 b h; rw [List.mem_singleton.1 h]; omega⟩⟩
            case measure => simp [intOf]; omega
          · have hjz : ¬ (j : Int) < (t.size : Int) := by omega
            go_wp2
            go_roundw
            case rel => exact ⟨k + 1, ys, by go_num, by omega, by omega, ⟨HJ.out.1, HJ.out.2.1, HJ.out.2.2⟩⟩
            case measure => simp [intOf]; omega
    · by_cases h1 : k < cs.length
      · have h2 : ¬ k < 80 := fun h => hgo ⟨h1, h⟩
        have h1z : (k : Int) < (cs.length : Int) := by omega
        have h2z : ¬ (k : Int) < 80 := by omega
        go_wp2
        go_ret
        exact ⟨_, xs, rfl, HI.out.2.1, by omega, HI.out.2.2, HI.out.1⟩
      · have h1z : ¬ (k : Int) < (cs.length : Int) := by omega
        go_wp2
        go_ret
        exact ⟨_, xs, rfl, HI.out.2.1, by omega, HI.out.2.2, HI.out.1⟩
end Go.Proofs.YtamhpnenpoamhaaGreat
