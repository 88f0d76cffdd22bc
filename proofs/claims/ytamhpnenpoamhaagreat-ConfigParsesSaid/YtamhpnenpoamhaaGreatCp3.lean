/- Part 3 of 9 of the proof of LRowParses: lemmas and walks, gathered. -/
import Derived.Test.YtamhpnenpoamhaaGreatCp2
import Derived.Test.YtamhpnenpoamhaaGreatProg
import Derived.Test.YtamhpnenpoamhaaGreatCp1
import Derived.Laws.EntriesVeiled
import Derived.LoopN
import Derived.Lib.ConvBytes
import Derived.Shelf.Abstract
import Derived.Deep.RegionHeld3
import Derived.Deep.QuietTactic
import Derived.BigQuiet
import Derived.Test.YtamhpnenpoamhaaGreatWWords
import Derived.Lib.SliceRun
set_option linter.unusedSimpArgs false
set_option linter.unusedVariables false
/- config.Parse's reader: the line of the size. -/
namespace Go.Proofs.YtamhpnenpoamhaaGreat
open Go.RowKit Go.Proofs.YtamhpnenpoamhaaGreatW.PrintWords Go.Proofs.YtamhpnenpoamhaaGreatW.PrintLast
set_option maxHeartbeats 4000000 in
set_option maxRecDepth 100000 in
theorem conf_size (Wl : World) (n : Nat) (m : Int) (l : List Ru) (w : World) (A : Option Addr) (c : Nat) (row : List Wd) (h : RdAt Wl n m l w) (hc : kWd.C Wl A row.length row) (hl : 0 < row.length) (hs : ∀ x ∈ row, x.t.size ≤ 9223372036854775807) :
    Calls Tryz.prog 28 #[.pointer (some ⟨n + 1, 0, none⟩), .slice A row.length c] w (RdPost Wl n (Cf.sizeL m l row)) := by
  have OK := Lib.hid (fun e t l c w => must_ok e t l c w)
  have BAD := Lib.hid (fun e t l c w => must_bad e t l c w)
  have hC := Kd.C_below hc h.bel
  obtain ⟨ad, hA, p0, p1, p2⟩ := word_cells hC 0 hl
  subst hA
  simp only [Nat.zero_mul, addr_zero, addr_succ, Nat.zero_add] at p0 p1 p2
  have hmax := Kd.C_max hc
  by_cases h2 : row.length = 2
  · obtain ⟨ad', e', p3, p4, p5⟩ := word_cells hC 1 (by omega)
    obtain rfl : ad = ad' := Option.some.inj e'
    simp only [Nat.one_mul, addr_succ] at p3 p4 p5
    have hs1 := hs (Cf.at_ row 1) (by unfold Cf.at_; rw [List.getD_eq_getElem?_getD, List.getElem?_eq_getElem (by omega)]; exact List.getElem_mem _)
    have hdl : (((row.length : Nat) : Int) == 2) = true := by rw [beq_iff_eq]; omega
    obtain ⟨v0, k3, k4⟩ := h.rows
    have r0 := k3.cell_at 0 _ rfl
    have hn := h.hn
    have HL := Lib.hid h2
    have h1l : (1 : Int) < (row.length : Int) := by omega
    by_cases hm : m = 0
    · have hmb : (m == 0) = true := by rw [hm]; rfl
      have DG := Lib.hid (fun w => digit_parse (Cf.at_ row 1).t w hs1)
      have hr := Dg.parse_range (Cf.at_ row 1).t.data.toList
      have HS := Lib.hid (show ∀ o, o = Cf.size m row → o = (if (Dg.parse (Cf.at_ row 1).t.data.toList).2 ≠ 0 then .inr ((Dg.parse (Cf.at_ row 1).t.data.toList).2, Cf.at_ row 1) else if ¬ (1 ≤ (Dg.parse (Cf.at_ row 1).t.data.toList).1 ∧ (Dg.parse (Cf.at_ row 1).t.data.toList).1 ≤ 1000000) then .inr (29, Cf.at_ row 1) else .inl (Dg.parse (Cf.at_ row 1).t.data.toList).1) from fun o ho => by rw [ho]; unfold Cf.size; rw [if_neg (by omega), if_neg (by rw [hm]; simp)])
      clear hm
      generalize Dg.parse (Cf.at_ row 1).t.data.toList = r at DG hr HS
      obtain ⟨q, e⟩ := r
      have H := Lib.hid h; have HC := Lib.hid hc
      clear h hc hC h2 k3 k4 hs hs1
      simp only at DG hr HS
      by_cases he : e = 0
      · subst he
        have heb : ((0 : Int) == 0) = true := rfl
        by_cases h1 : 1 ≤ q
        · by_cases h10 : q ≤ 1000000
          · have HE := Lib.hid (Cf.sizeL_ok (l := l) ((HS.out _ rfl).trans (show _ = (Sum.inl q : Int ⊕ (Int × Wd)) by rw [if_neg (by simp), if_neg (by omega)])))
            go_enter Tryz.func28, Tryz.ntmps28
            go_wp2_with fail
            refine (OK.out _ _ _ _ _).mono ?_
            rintro x w1 ⟨rfl, hb⟩
            have K := fun {a : Addr} {v : Value} (hv : w.cell? a = some v) => (hb.cell (World.block_lt_of_cell? w a hv)).trans hv
            have q0 := K p0; have q1 := K p1; have q2 := K p2; have s0 := K r0; have q3 := K p3; have q4 := K p4; have q5 := K p5
            have H1 := Lib.hid (H.out.step hb)
            clear K H hb
            go_wp2_with fail
            refine startK 10 (fun w' => w'.cell? ad = some (.string (Cf.at_ row 0).t) ∧ w'.cell? ⟨ad.block, ad.off + 1, none⟩ = some (.int .i64 (Cf.at_ row 0).l) ∧ w'.cell? ⟨ad.block, ad.off + 2, none⟩ = some (.int .i64 (Cf.at_ row 0).c) ∧ w'.cell? ⟨n + 1, 0, none⟩ = some (.int .i64 m)) [9] (by kernel_rfl) rfl (by kernel_rfl) ⟨q0, q1, q2, s0⟩ (fun hHeld => ?_)
            repeat (refine takeK (v := ?_) (a' := ?_) rfl rfl rfl (by kernel_rfl) (fun _ _ _ h => h) (Or.inl ⟨by rfl, ?_⟩) hHeld ?_ ?_; rotate_left; (rintro w' ⟨s0, s1, s2, s3⟩; go_simp; with_reducible rfl); rotate_left; (simp only [Act.put, List.setIfInBounds_toArray, List.set_cons_zero, List.set_cons_succ]; rfl))
            refine lastK rfl rfl rfl (by kernel_rfl) rfl (fun K hK => ?_)
            go_simp
            refine (OK.out _ _ _ _ _).mono ?_
            rintro x w2 ⟨rfl, hb⟩
            have K2 := fun {a : Addr} {v : Value} (hv : w1.cell? a = some v) => (hb.cell (p := a) (by exact World.block_lt_of_cell? w1 a hv)).trans hv
            have u3 := K2 q3; have u4 := K2 q4; have u5 := K2 q5
            have H2 := Lib.hid ((H1.out.step (Below.refl _ _).drew).step hb)
            clear K2 H1 hb q0 q1 q2 q3 q4 q5 s0
            refine hK.out _ _ ?_
            refine done_ (by kernel_rfl) ?_
            clear hHeld
            go_wp2_with fail
            refine (DG.out _).mono ?_
            rintro x w3 ⟨rfl, rfl⟩
            go_wp2_with fail
            refine (OK.out _ _ _ _ _).mono ?_
            rintro x w4 ⟨rfl, hb⟩
            have K4 := fun {a : Addr} {v : Value} (hv : w2.cell? a = some v) => (hb.cell (World.block_lt_of_cell? w2 a hv)).trans hv
            have x3 := K4 u3; have x4 := K4 u4; have x5 := K4 u5
            have H4 := Lib.hid (H2.out.step hb)
            clear K4 hb u3 u4 u5 H2
            go_wp2_with fail
            refine (OK.out _ _ _ _ _).mono ?_
            rintro x w5 ⟨rfl, hb⟩
            have H5 := Lib.hid (H4.out.step hb)
            obtain ⟨v5, y3, _⟩ := H5.out.rows
            have z0 := y3.cell_at 0 _ rfl
            have zf := y3.free 0
            clear hb y3
            go_wp2
            go_end0
            unfold RdPost
            rw [HE.out]
            exact ⟨rfl, H5.out.most q⟩
          · have HE := Lib.hid (Cf.sizeL_bad (l := l) ((HS.out _ rfl).trans (show _ = (Sum.inr (29, Cf.at_ row 1) : Int ⊕ (Int × Wd)) by rw [if_neg (by simp), if_pos (by omega)])))
            have h10b : decide (q ≤ 1000000) = false := decide_eq_false h10
            go_enter Tryz.func28, Tryz.ntmps28
            go_wp2_with fail
            refine (OK.out _ _ _ _ _).mono ?_
            rintro x w1 ⟨rfl, hb⟩
            have K := fun {a : Addr} {v : Value} (hv : w.cell? a = some v) => (hb.cell (World.block_lt_of_cell? w a hv)).trans hv
            have q0 := K p0; have q1 := K p1; have q2 := K p2; have s0 := K r0; have q3 := K p3; have q4 := K p4; have q5 := K p5
            have H1 := Lib.hid (H.out.step hb)
            clear K H hb
            go_wp2_with fail
            refine startK 10 (fun w' => w'.cell? ad = some (.string (Cf.at_ row 0).t) ∧ w'.cell? ⟨ad.block, ad.off + 1, none⟩ = some (.int .i64 (Cf.at_ row 0).l) ∧ w'.cell? ⟨ad.block, ad.off + 2, none⟩ = some (.int .i64 (Cf.at_ row 0).c) ∧ w'.cell? ⟨n + 1, 0, none⟩ = some (.int .i64 m)) [9] (by kernel_rfl) rfl (by kernel_rfl) ⟨q0, q1, q2, s0⟩ (fun hHeld => ?_)
            repeat (refine takeK (v := ?_) (a' := ?_) rfl rfl rfl (by kernel_rfl) (fun _ _ _ h => h) (Or.inl ⟨by rfl, ?_⟩) hHeld ?_ ?_; rotate_left; (rintro w' ⟨s0, s1, s2, s3⟩; go_simp; with_reducible rfl); rotate_left; (simp only [Act.put, List.setIfInBounds_toArray, List.set_cons_zero, List.set_cons_succ]; rfl))
            refine lastK rfl rfl rfl (by kernel_rfl) rfl (fun K hK => ?_)
            go_simp
            refine (OK.out _ _ _ _ _).mono ?_
            rintro x w2 ⟨rfl, hb⟩
            have K2 := fun {a : Addr} {v : Value} (hv : w1.cell? a = some v) => (hb.cell (p := a) (by exact World.block_lt_of_cell? w1 a hv)).trans hv
            have u3 := K2 q3; have u4 := K2 q4; have u5 := K2 q5
            have H2 := Lib.hid ((H1.out.step (Below.refl _ _).drew).step hb)
            clear K2 H1 hb q0 q1 q2 q3 q4 q5 s0
            refine hK.out _ _ ?_
            refine done_ (by kernel_rfl) ?_
            clear hHeld
            go_wp2_with fail
            refine (DG.out _).mono ?_
            rintro x w3 ⟨rfl, rfl⟩
            go_wp2_with fail
            refine (OK.out _ _ _ _ _).mono ?_
            rintro x w4 ⟨rfl, hb⟩
            have K4 := fun {a : Addr} {v : Value} (hv : w2.cell? a = some v) => (hb.cell (World.block_lt_of_cell? w2 a hv)).trans hv
            have x3 := K4 u3; have x4 := K4 u4; have x5 := K4 u5
            have H4 := Lib.hid (H2.out.step hb)
            clear K4 hb u3 u4 u5 H2
            go_wp2_with fail
            refine (BAD.out _ _ _ _ _).mono ?_
            rintro x w5 ⟨rfl, hb⟩
            go_wp2
            refine ⟨rfl, ?_⟩
            unfold RdPost
            rw [HE.out]
            exact ⟨rfl, (H4.out.step hb).bel⟩
        · have HE := Lib.hid (Cf.sizeL_bad (l := l) ((HS.out _ rfl).trans (show _ = (Sum.inr (29, Cf.at_ row 1) : Int ⊕ (Int × Wd)) by rw [if_neg (by simp), if_pos (by omega)])))
          have h1b : decide (1 ≤ q) = false := decide_eq_false h1
          go_enter Tryz.func28, Tryz.ntmps28
          go_wp2_with fail
          refine (OK.out _ _ _ _ _).mono ?_
          rintro x w1 ⟨rfl, hb⟩
          have K := fun {a : Addr} {v : Value} (hv : w.cell? a = some v) => (hb.cell (World.block_lt_of_cell? w a hv)).trans hv
          have q0 := K p0; have q1 := K p1; have q2 := K p2; have s0 := K r0; have q3 := K p3; have q4 := K p4; have q5 := K p5
          have H1 := Lib.hid (H.out.step hb)
          clear K H hb
          go_wp2_with fail
          refine startK 10 (fun w' => w'.cell? ad = some (.string (Cf.at_ row 0).t) ∧ w'.cell? ⟨ad.block, ad.off + 1, none⟩ = some (.int .i64 (Cf.at_ row 0).l) ∧ w'.cell? ⟨ad.block, ad.off + 2, none⟩ = some (.int .i64 (Cf.at_ row 0).c) ∧ w'.cell? ⟨n + 1, 0, none⟩ = some (.int .i64 m)) [9] (by kernel_rfl) rfl (by kernel_rfl) ⟨q0, q1, q2, s0⟩ (fun hHeld => ?_)
          repeat (refine takeK (v := ?_) (a' := ?_) rfl rfl rfl (by kernel_rfl) (fun _ _ _ h => h) (Or.inl ⟨by rfl, ?_⟩) hHeld ?_ ?_; rotate_left; (rintro w' ⟨s0, s1, s2, s3⟩; go_simp; with_reducible rfl); rotate_left; (simp only [Act.put, List.setIfInBounds_toArray, List.set_cons_zero, List.set_cons_succ]; rfl))
          refine lastK rfl rfl rfl (by kernel_rfl) rfl (fun K hK => ?_)
          go_simp
          refine (OK.out _ _ _ _ _).mono ?_
          rintro x w2 ⟨rfl, hb⟩
          have K2 := fun {a : Addr} {v : Value} (hv : w1.cell? a = some v) => (hb.cell (p := a) (by exact World.block_lt_of_cell? w1 a hv)).trans hv
          have u3 := K2 q3; have u4 := K2 q4; have u5 := K2 q5
          have H2 := Lib.hid ((H1.out.step (Below.refl _ _).drew).step hb)
          clear K2 H1 hb q0 q1 q2 q3 q4 q5 s0
          refine hK.out _ _ ?_
          refine done_ (by kernel_rfl) ?_
          clear hHeld
          go_wp2_with fail
          refine (DG.out _).mono ?_
          rintro x w3 ⟨rfl, rfl⟩
          go_wp2_with fail
          refine (OK.out _ _ _ _ _).mono ?_
          rintro x w4 ⟨rfl, hb⟩
          have K4 := fun {a : Addr} {v : Value} (hv : w2.cell? a = some v) => (hb.cell (World.block_lt_of_cell? w2 a hv)).trans hv
          have x3 := K4 u3; have x4 := K4 u4; have x5 := K4 u5
          have H4 := Lib.hid (H2.out.step hb)
          clear K4 hb u3 u4 u5 H2
          go_wp2_with fail
          refine (BAD.out _ _ _ _ _).mono ?_
          rintro x w5 ⟨rfl, hb⟩
          go_wp2
          refine ⟨rfl, ?_⟩
          unfold RdPost
          rw [HE.out]
          exact ⟨rfl, (H4.out.step hb).bel⟩
      · have heb : (e == 0) = false := by rw [beq_eq_false_iff_ne]; exact he
        have HE := Lib.hid (Cf.sizeL_bad (l := l) ((HS.out _ rfl).trans (show _ = (Sum.inr (e, Cf.at_ row 1) : Int ⊕ (Int × Wd)) from if_pos he)))
        clear he
        go_enter Tryz.func28, Tryz.ntmps28
        go_wp2_with fail
        refine (OK.out _ _ _ _ _).mono ?_
        rintro x w1 ⟨rfl, hb⟩
        have K := fun {a : Addr} {v : Value} (hv : w.cell? a = some v) => (hb.cell (World.block_lt_of_cell? w a hv)).trans hv
        have q0 := K p0; have q1 := K p1; have q2 := K p2; have s0 := K r0; have q3 := K p3; have q4 := K p4; have q5 := K p5
        have H1 := Lib.hid (H.out.step hb)
        clear K H hb
        go_wp2_with fail
        refine startK 10 (fun w' => w'.cell? ad = some (.string (Cf.at_ row 0).t) ∧ w'.cell? ⟨ad.block, ad.off + 1, none⟩ = some (.int .i64 (Cf.at_ row 0).l) ∧ w'.cell? ⟨ad.block, ad.off + 2, none⟩ = some (.int .i64 (Cf.at_ row 0).c) ∧ w'.cell? ⟨n + 1, 0, none⟩ = some (.int .i64 m)) [9] (by kernel_rfl) rfl (by kernel_rfl) ⟨q0, q1, q2, s0⟩ (fun hHeld => ?_)
        repeat (refine takeK (v := ?_) (a' := ?_) rfl rfl rfl (by kernel_rfl) (fun _ _ _ h => h) (Or.inl ⟨by rfl, ?_⟩) hHeld ?_ ?_; rotate_left; (rintro w' ⟨s0, s1, s2, s3⟩; go_simp; with_reducible rfl); rotate_left; (simp only [Act.put, List.setIfInBounds_toArray, List.set_cons_zero, List.set_cons_succ]; rfl))
        refine lastK rfl rfl rfl (by kernel_rfl) rfl (fun K hK => ?_)
        go_simp
        refine (OK.out _ _ _ _ _).mono ?_
        rintro x w2 ⟨rfl, hb⟩
        have K2 := fun {a : Addr} {v : Value} (hv : w1.cell? a = some v) => (hb.cell (p := a) (by exact World.block_lt_of_cell? w1 a hv)).trans hv
        have u3 := K2 q3; have u4 := K2 q4; have u5 := K2 q5
        have H2 := Lib.hid ((H1.out.step (Below.refl _ _).drew).step hb)
        clear K2 H1 hb q0 q1 q2 q3 q4 q5 s0
        refine hK.out _ _ ?_
        refine done_ (by kernel_rfl) ?_
        clear hHeld
        go_wp2_with fail
        refine (DG.out _).mono ?_
        rintro x w3 ⟨rfl, rfl⟩
        go_wp2_with fail
        refine (BAD.out _ _ _ _ _).mono ?_
        rintro x w4 ⟨rfl, hb⟩
        go_wp2
        refine ⟨rfl, ?_⟩
        unfold RdPost
        rw [HE.out]
        exact ⟨rfl, (H2.out.step hb).bel⟩
    · have hmb : (m == 0) = false := by rw [beq_eq_false_iff_ne]; exact hm
      have HE := Lib.hid (Cf.sizeL_bad (l := l) (show Cf.size m row = .inr (28, Cf.at_ row 0) by unfold Cf.size; rw [if_neg (by omega), if_pos hm]))
      have H := Lib.hid h; have HC := Lib.hid hc
      clear h hc hC h2 hm k3 k4 hs
      go_enter Tryz.func28, Tryz.ntmps28
      go_wp2_with fail
      refine (OK.out _ _ _ _ _).mono ?_
      rintro x w1 ⟨rfl, hb⟩
      have K := fun {a : Addr} {v : Value} (hv : w.cell? a = some v) => (hb.cell (World.block_lt_of_cell? w a hv)).trans hv
      have q0 := K p0; have q1 := K p1; have q2 := K p2; have s0 := K r0; have q3 := K p3; have q4 := K p4; have q5 := K p5
      have H1 := Lib.hid (H.out.step hb)
      clear K H hb
      go_wp2_with fail
      refine startK 10 (fun w' => w'.cell? ad = some (.string (Cf.at_ row 0).t) ∧ w'.cell? ⟨ad.block, ad.off + 1, none⟩ = some (.int .i64 (Cf.at_ row 0).l) ∧ w'.cell? ⟨ad.block, ad.off + 2, none⟩ = some (.int .i64 (Cf.at_ row 0).c) ∧ w'.cell? ⟨n + 1, 0, none⟩ = some (.int .i64 m)) [9] (by kernel_rfl) rfl (by kernel_rfl) ⟨q0, q1, q2, s0⟩ (fun hHeld => ?_)
      repeat (refine takeK (v := ?_) (a' := ?_) rfl rfl rfl (by kernel_rfl) (fun _ _ _ h => h) (Or.inl ⟨by rfl, ?_⟩) hHeld ?_ ?_; rotate_left; (rintro w' ⟨s0, s1, s2, s3⟩; go_simp; with_reducible rfl); rotate_left; (simp only [Act.put, List.setIfInBounds_toArray, List.set_cons_zero, List.set_cons_succ]; rfl))
      refine lastK rfl rfl rfl (by kernel_rfl) rfl (fun K hK => ?_)
      go_simp
      refine (BAD.out _ _ _ _ _).mono ?_
      rintro x w2 ⟨rfl, hb⟩
      refine ⟨rfl, ?_⟩
      unfold RdPost
      rw [HE.out]
      exact ⟨rfl, ((H1.out.step (Below.refl _ _).drew).step hb).bel⟩
  · have hd : (((row.length : Nat) : Int) == 2) = false := by rw [beq_eq_false_iff_ne]; omega
    have HE := Lib.hid (Cf.sizeL_bad (l := l) (show Cf.size m row = .inr (22, Cf.at_ row 0) from if_pos h2))
    have H := Lib.hid h; have HC := Lib.hid hc
    clear h hc hC h2
    go_enter Tryz.func28, Tryz.ntmps28
    go_wp2_with fail
    refine (BAD.out _ _ _ _ _).mono ?_
    rintro x w1 ⟨rfl, hb⟩
    go_wp2
    refine ⟨rfl, ?_⟩
    unfold RdPost
    rw [HE.out]
    exact ⟨rfl, (H.out.step hb).bel⟩
end Go.Proofs.YtamhpnenpoamhaaGreat

/- kernel.Right: a kind is right that is 1, 2 or 3. -/
namespace Go.Proofs.YtamhpnenpoamhaaGreat
open Go.RowKit

theorem kern_ins (w : World) (es : Array MapEntry) (c : Nat) (k : Int) (v : Value) (h : Instr.findNow (.int .u8) (.int .u8 k) es.toList 0 = some none) :
    (Instr.mapUpdate 156 (.map (some w.heap.size)) (.int .u8 k) v).run Tryz.prog (w.alloc (.map es c)) = .ok () (w.alloc (.map (es.push { key := .int .u8 k, val := v, born := c }) (c + 1))) := by
  rw [run_mapUpdate_new Tryz.underlying156 Tryz.underlying5 (alloc_at_new w _) (by exact rfl) h, setObj'_new]

/-- The three kernels, by their kinds. -/
def kernV (f g h : Nat) : Value := .agg #[.func (.func f) #[] #[], .func (.func g) #[] #[], .func (.func h) #[] #[]]
def kernMap : Array MapEntry := #[{ key := .int .u8 1, val := kernV 104 105 106, born := 0 }, { key := .int .u8 2, val := kernV 107 108 109, born := 1 }, { key := .int .u8 3, val := kernV 110 111 112, born := 2 }]

set_option maxRecDepth 100000 in
set_option maxHeartbeats 400000 in
theorem kernel_all (w : World) :
    Calls Tryz.prog 93 #[] w fun e w' => e = .returned (.map (some w.heap.size)) ∧ w.alloc (.map kernMap 3) = w' := by
  have hmm := @run_makeMap Tryz.prog
  have h1 := fun v => kern_ins w #[] 0 1 v rfl
  have h2 := fun v v' => kern_ins w #[{ key := .int .u8 1, val := v', born := 0 }] 1 2 v rfl
  have h3 := fun v v' v'' => kern_ins w #[{ key := .int .u8 1, val := v', born := 0 }, { key := .int .u8 2, val := v'', born := 1 }] 2 3 v rfl
  simp only [List.push_toArray, List.nil_append, List.cons_append, Nat.reduceAdd] at h1 h2 h3
  go_enter Tryz.func93, Tryz.ntmps93
  go_wp2
  go_ret
  exact ⟨rfl, rfl⟩

theorem kern_zero (w : World) : (zeroValue 154).run Tryz.prog w = .ok (.agg #[.nilFunc, .nilFunc, .nilFunc]) w := by kernel_rfl

set_option maxRecDepth 100000 in
set_option maxHeartbeats 400000 in
theorem kernel_right (n : Int) (w : World) :
    Calls Tryz.prog 70 #[.int .u8 n] w fun e w' => e = .returned (.bool (decide (1 ≤ n ∧ n ≤ 3))) ∧ Below w.heap.size w w' := by
  have hk : ∀ k v, Instr.findNow (.int .u8) (.int .u8 n) kernMap.toList 0 = some (some (k, v)) → (Instr.lookup 156 (.map (some w.heap.size)) (.int .u8 n) true).run Tryz.prog (w.alloc (.map kernMap 3)) = .ok (.tuple #[v, .bool true]) (w.alloc (.map kernMap 3)) :=
    fun k v h => run_lookup_has Tryz.underlying156 Tryz.underlying5 (alloc_at_new w _) (by exact rfl) h true
  have hn : Instr.findNow (.int .u8) (.int .u8 n) kernMap.toList 0 = some none → (Instr.lookup 156 (.map (some w.heap.size)) (.int .u8 n) true).run Tryz.prog (w.alloc (.map kernMap 3)) = .ok (.tuple #[.agg #[.nilFunc, .nilFunc, .nilFunc], .bool false]) (w.alloc (.map kernMap 3)) :=
    fun h => run_lookup_not Tryz.underlying156 Tryz.underlying5 (alloc_at_new w _) (by exact rfl) h (kern_zero _) true
  have hc : (∃ f g h, decide (1 ≤ n ∧ n ≤ 3) = true ∧ (Instr.lookup 156 (.map (some w.heap.size)) (.int .u8 n) true).run Tryz.prog (w.alloc (.map kernMap 3)) = .ok (.tuple #[kernV f g h, .bool true]) (w.alloc (.map kernMap 3))) ∨
      decide (1 ≤ n ∧ n ≤ 3) = false ∧ (Instr.lookup 156 (.map (some w.heap.size)) (.int .u8 n) true).run Tryz.prog (w.alloc (.map kernMap 3)) = .ok (.tuple #[.agg #[.nilFunc, .nilFunc, .nilFunc], .bool false]) (w.alloc (.map kernMap 3)) := by
    by_cases h1 : n = 1
    · subst h1; exact .inl ⟨_, _, _, rfl, hk 0 _ rfl⟩
    · by_cases h2 : n = 2
      · subst h2; exact .inl ⟨_, _, _, rfl, hk 1 _ rfl⟩
      · by_cases h3 : n = 3
        · subst h3; exact .inl ⟨_, _, _, rfl, hk 2 _ rfl⟩
        · exact .inr ⟨decide_eq_false (by omega), hn (by simp [Instr.findNow, Instr.sameNow, kernMap, beq_eq_false_iff_ne.2 h1, beq_eq_false_iff_ne.2 h2, beq_eq_false_iff_ne.2 h3])⟩
  clear hk hn
  rcases hc with ⟨f, g, h, hd, hc⟩ | ⟨hd, hc⟩
  all_goals
    have HD := Lib.hid hd; clear hd
    try unfold kernV at hc
    go_enter Tryz.func70, Tryz.ntmps70
    go_wp2_with (go_at_call 93; refine (kernel_all _).mono ?_; rintro e w' ⟨rfl, rfl⟩)
    go_ret
    exact ⟨by rw [HD.out]; rfl, ((Below.refl _ _).alloc (Nat.le_refl _) _).alloc (by simp) _⟩
end Go.Proofs.YtamhpnenpoamhaaGreat

/- rule.names, rule.Name, rule.Kind: the kernels' names. -/
namespace Go.Proofs.YtamhpnenpoamhaaGreat
open Go.RowKit

set_option maxHeartbeats 400000 in
theorem rule_names (w : World) :
    Calls Tryz.prog 71 #[] w fun e w' => e = .returned (.agg #[.string ⟨#[]⟩, .string sGcra, .string sBucket, .string sLeaky]) ∧ Below w.heap.size w w' := by
  go_enter Tryz.func71, Tryz.ntmps71
  go_wp2
  exact bodyPost_ret (v := .agg #[.string ⟨#[]⟩, .string sGcra, .string sBucket, .string sLeaky]) (by simp [results, Tryz.results71, go_sem, sGcra, sBucket, sLeaky]) rfl ⟨rfl, (Below.refl _ _).alloc (Nat.le_refl _) _⟩

set_option maxHeartbeats 400000 in
theorem rule_name (n : Int) (w : World) (h0 : 0 ≤ n) (h9 : n ≤ 255) :
    Calls Tryz.prog 46 #[.int .u8 n] w fun e w' => e = .returned (.string (Rl.name n)) ∧ Below w.heap.size w w' := by
  have K := Lib.hid (kernel_right n w)
  by_cases hk : 1 ≤ n ∧ n ≤ 3
  · have hd : decide (1 ≤ n ∧ n ≤ 3) = true := decide_eq_true hk
    rw [hd] at K; clear hd
    have HN : Hid (Rl.name n = if n = 1 then sGcra else if n = 2 then sBucket else if n = 3 then sLeaky else ⟨#[]⟩) := rfl
    have i1 : ∀ w, (Instr.index 126 (.agg #[.string ⟨#[]⟩, .string sGcra, .string sBucket, .string sLeaky]) (.int .u8 1)).run Tryz.prog w = .ok (.string sGcra) w := fun _ => by kernel_rfl
    have i2 : ∀ w, (Instr.index 126 (.agg #[.string ⟨#[]⟩, .string sGcra, .string sBucket, .string sLeaky]) (.int .u8 2)).run Tryz.prog w = .ok (.string sBucket) w := fun _ => by kernel_rfl
    have i3 : ∀ w, (Instr.index 126 (.agg #[.string ⟨#[]⟩, .string sGcra, .string sBucket, .string sLeaky]) (.int .u8 3)).run Tryz.prog w = .ok (.string sLeaky) w := fun _ => by kernel_rfl
    obtain rfl | rfl | rfl : n = 1 ∨ n = 2 ∨ n = 3 := by omega
    all_goals
      clear hk h0 h9
      go_enter Tryz.func46, Tryz.ntmps46
      go_wp2_with fail
      refine K.out.mono ?_
      rintro e w1 ⟨rfl, hb⟩
      go_wp2_with fail
      refine (rule_names _).mono ?_
      rintro e w2 ⟨rfl, hb2⟩
      go_wp2
      go_ret
      exact ⟨rfl, hb.trans (hb2.mono hb.size)⟩
  · have hd : decide (1 ≤ n ∧ n ≤ 3) = false := decide_eq_false hk
    rw [hd] at K
    have HN := Lib.hid (show Rl.name n = ⟨#[]⟩ by unfold Rl.name; rw [if_neg (by omega), if_neg (by omega), if_neg (by omega)])
    clear hk hd h0 h9
    go_enter Tryz.func46, Tryz.ntmps46
    go_wp2_with fail
    refine K.out.mono ?_
    rintro e w1 ⟨rfl, hb⟩
    go_wp2
    go_ret
    exact ⟨by rw [HN.out]; rfl, hb⟩
end Go.Proofs.YtamhpnenpoamhaaGreat

/- rule.Kind: the kernel of a name. -/
namespace Go.Proofs.YtamhpnenpoamhaaGreat
open Go.RowKit

set_option maxHeartbeats 1000000 in
theorem str_index3 (b : Nat) (s : ByteArray) (w : World) (h1 : w.cell? ⟨b, 1, none⟩ = some (.string sGcra)) (h2 : w.cell? ⟨b, 2, none⟩ = some (.string sBucket)) (h3 : w.cell? ⟨b, 3, none⟩ = some (.string sLeaky)) :
    Calls Tryz.prog 114 #[.slice (some ⟨b, 1, none⟩) 3 3, .string s] w fun e w' => e = .returned (.int .i64 (Rl.kindOf s - 1)) ∧ w = w' := by
  have HK : Hid (Rl.kindOf s = if (s.toList == sGcra.toList) = true then 1 else if (s.toList == sBucket.toList) = true then 2 else if (s.toList == sLeaky.toList) = true then 3 else 0) := rfl
  by_cases c1 : (s.toList == sGcra.toList) = true
  · have HR := Lib.hid (show Rl.kindOf s - 1 = 0 by rw [HK.out, if_pos c1]; rfl)
    go_enter Tryz.func114, Tryz.ntmps114
    go_wp2_with fail
    refine wp_loop_rounds 1 ?_
    rw [rounds_succ]
    go_wp2
    go_ret
    exact ⟨by rw [HR.out]; rfl, rfl⟩
  · have c1 : (s.toList == sGcra.toList) = false := by simpa using c1
    by_cases c2 : (s.toList == sBucket.toList) = true
    · have HR := Lib.hid (show Rl.kindOf s - 1 = 1 by rw [HK.out, if_neg (by rw [c1]; simp), if_pos c2]; rfl)
      go_enter Tryz.func114, Tryz.ntmps114
      go_wp2_with fail
      refine wp_loop_rounds 2 ?_
      rw [rounds_succ]
      go_wp2
      rw [rounds_succ]
      go_wp2
      go_ret
      exact ⟨by rw [HR.out]; rfl, rfl⟩
    · have c2 : (s.toList == sBucket.toList) = false := by simpa using c2
      by_cases c3 : (s.toList == sLeaky.toList) = true
      · have HR := Lib.hid (show Rl.kindOf s - 1 = 2 by rw [HK.out, if_neg (by rw [c1]; simp), if_neg (by rw [c2]; simp), if_pos c3]; rfl)
        go_enter Tryz.func114, Tryz.ntmps114
        go_wp2_with fail
        refine wp_loop_rounds 3 ?_
        rw [rounds_succ]
        go_wp2
        rw [rounds_succ]
        go_wp2
        rw [rounds_succ]
        go_wp2
        go_ret
        exact ⟨by rw [HR.out]; rfl, rfl⟩
      · have c3 : (s.toList == sLeaky.toList) = false := by simpa using c3
        have HR := Lib.hid (show Rl.kindOf s - 1 = -1 by rw [HK.out, if_neg (by rw [c1]; simp), if_neg (by rw [c2]; simp), if_neg (by rw [c3]; simp)]; rfl)
        go_enter Tryz.func114, Tryz.ntmps114
        go_wp2_with fail
        refine wp_loop_rounds 4 ?_
        rw [rounds_succ]
        go_wp2
        rw [rounds_succ]
        go_wp2
        rw [rounds_succ]
        go_wp2
        rw [rounds_succ]
        go_wp2
        go_ret
        exact ⟨by rw [HR.out]; rfl, rfl⟩

set_option maxHeartbeats 1000000 in
theorem rule_kind (s : ByteArray) (w : World) :
    Calls Tryz.prog 98 #[.string s] w fun e w' => e = .returned (.tuple #[.int .u8 (Rl.kindOf s), .bool (decide (0 < Rl.kindOf s))]) ∧ Below w.heap.size w w' := by
  have hr := Rl.kindOf_range s
  obtain ⟨k, hk⟩ : ∃ k, k = Rl.kindOf s := ⟨_, rfl⟩
  have HK := Lib.hid hk
  rw [← hk] at hr ⊢
  clear hk
  go_enter Tryz.func98, Tryz.ntmps98
  go_wp2_with fail
  refine (rule_names _).mono ?_
  rintro e w1 ⟨rfl, hb⟩
  go_wp2_with fail
  refine (str_index3 w1.heap.size s _ (by simp) (by simp) (by simp)).mono ?_
  rintro e w2 ⟨rfl, rfl⟩
  rw [← HK.out]
  go_wp2
  go_ret2
  exact ⟨rfl, hb.alloc hb.size _⟩
end Go.Proofs.YtamhpnenpoamhaaGreat

/- wide.Mul is the product in two words; num.Mul is the product, or the end. -/
namespace Go.Proofs.YtamhpnenpoamhaaGreat
open Go.RowKit

set_option maxHeartbeats 400000 in
theorem wide_parts (n : Int) (w : World) (h0 : 0 ≤ n) (h1 : n ≤ 18446744073709551615) :
    Calls Tryz.prog 117 #[.int .u64 n] w fun e w' => e = .returned (.agg #[.int .u64 (n % 4294967296), .int .u64 (n / 4294967296)]) ∧ Below w.heap.size w w' := by
  have hb := and_low32 n h0 (by omega)
  go_enter Tryz.func117, Tryz.ntmps117
  go_wp2
  exact bodyPost_ret (v := .agg #[.int .u64 (n % 4294967296), .int .u64 (n / 4294967296)]) (by simp [results, Tryz.results117, go_sem]) rfl ⟨rfl, (Below.refl _ _).alloc (Nat.le_refl _) _⟩

set_option maxHeartbeats 1000000 in
theorem wide_mul (a b : Int) (w : World) (ha : 0 ≤ a ∧ a ≤ 18446744073709551615) (hb : 0 ≤ b ∧ b ≤ 18446744073709551615) :
    Calls Tryz.prog 102 #[.int .u64 a, .int .u64 b] w fun e w' => e = .returned (.tuple #[.int .u64 (a * b / 18446744073709551616), .int .u64 (a * b % 18446744073709551616)]) ∧ Below w.heap.size w w' := by
  obtain ⟨ha0, ha1⟩ := ha
  obtain ⟨hb0, hb1⟩ := hb
  have P1 : ∀ w, Calls Tryz.prog 117 #[.int .u64 a] w fun e w' => ∃ x0 x1, (0 ≤ x0 ∧ x0 ≤ 4294967295) ∧ (0 ≤ x1 ∧ x1 ≤ 4294967295) ∧ Hid (a = x1 * 4294967296 + x0) ∧ e = .returned (.agg #[.int .u64 x0, .int .u64 x1]) ∧ Below w.heap.size w w' :=
    fun w => (wide_parts a w ha0 ha1).mono fun e w' h => ⟨a % 4294967296, a / 4294967296, by omega, by omega, Lib.hid (by omega), h.1, h.2⟩
  have P2 : ∀ w, Calls Tryz.prog 117 #[.int .u64 b] w fun e w' => ∃ x0 x1, (0 ≤ x0 ∧ x0 ≤ 4294967295) ∧ (0 ≤ x1 ∧ x1 ≤ 4294967295) ∧ Hid (b = x1 * 4294967296 + x0) ∧ e = .returned (.agg #[.int .u64 x0, .int .u64 x1]) ∧ Below w.heap.size w w' :=
    fun w => (wide_parts b w hb0 hb1).mono fun e w' h => ⟨b % 4294967296, b / 4294967296, by omega, by omega, Lib.hid (by omega), h.1, h.2⟩
  have Q1 := Lib.hid P1; have Q2 := Lib.hid P2; clear P1 P2
  go_enter Tryz.func102, Tryz.ntmps102
  go_wp2_with fail
  refine (Q1.out _).mono ?_
  rintro e w1 ⟨x0, x1, h1, h2, EA, rfl, hb1⟩
  go_wp2_with fail
  refine (Q2.out _).mono ?_
  rintro e w2 ⟨y0, y1, h3, h4, EB, rfl, hb2⟩
  clear Q1 Q2
  have pA := prod_bound x1 y1 h2.1 h2.2 h4.1 h4.2
  have pB := prod_bound x1 y0 h2.1 h2.2 h3.1 h3.2
  have pC := prod_bound x0 y0 h1.1 h1.2 h3.1 h3.2
  have pD := prod_bound x0 y1 h1.1 h1.2 h4.1 h4.2
  have HM := Lib.hid (mul_words a b x0 x1 y0 y1 EA.out EB.out h1 h2 h3 h4)
  have hm1 := and_low32 (x1 * y0 + x0 * y0 / 4294967296) (by omega) (by omega)
  have hm2 := and_low32 (x0 * y0) (by omega) (by omega)
  go_wp2
  go_ret2
  refine ⟨?_, ((hb1.trans (hb2.mono hb1.size)).alloc (Nat.le_trans hb1.size hb2.size) _).alloc (by simp; have := hb1.size; have := hb2.size; omega) _⟩
  rw [HM.out.1, HM.out.2, IntKind.wrap_u64, or_words _ _ (by omega) (by omega) (by omega) (by omega)]
  rfl

set_option maxHeartbeats 400000 in
theorem num_mul (a b : Int) (w : World) (ha : 0 ≤ a ∧ a ≤ 18446744073709551615) (hb : 0 ≤ b ∧ b ≤ 18446744073709551615) :
    Calls Tryz.prog 86 #[.int .u64 a, .int .u64 b] w fun e w' => e = .returned (.int .u64 (Nm.mul a b)) ∧ Below w.heap.size w w' := by
  have P := Lib.hid (wide_mul a b w ha hb)
  obtain ⟨h, Hh⟩ : ∃ h, h = a * b / 18446744073709551616 := ⟨_, rfl⟩
  obtain ⟨l, Hl⟩ : ∃ l, l = a * b % 18446744073709551616 := ⟨_, rfl⟩
  have HM := Lib.hid (show Nm.mul a b = if h = 0 then l else 18446744073709551615 by unfold Nm.mul; rw [← Hh]; split <;> omega)
  have HH := Lib.hid Hh; have HL := Lib.hid Hl; clear Hh Hl ha hb
  go_enter Tryz.func86, Tryz.ntmps86
  go_wp2_with fail
  refine P.out.mono ?_
  rw [← HH.out, ← HL.out]
  rintro e w1 ⟨rfl, hb1⟩
  by_cases hz : h = 0
  · have HZ := Lib.hid hz
    have h1 : (h != 0) = false := by rw [hz]; rfl
    clear hz
    go_wp2
    go_ret
    exact ⟨by rw [HM.out, if_pos HZ.out]; rfl, hb1⟩
  · have h1 : (h != 0) = true := by simpa using hz
    go_wp2
    go_ret
    exact ⟨by rw [HM.out, if_neg hz]; rfl, hb1⟩
end Go.Proofs.YtamhpnenpoamhaaGreat

/- key.Right of any string answers as Ky.right says. -/
namespace Go.Proofs.YtamhpnenpoamhaaGreat
open Go.RowKit

theorem key_bad (b : Int) (w : World) : Calls Tryz.prog 100 #[.int .u8 b] w fun e w' => e = .returned (.bool (decide (b < 33) || decide (126 < b))) ∧ w = w' := by
  by_cases h : b < 33
  · go_enter Tryz.func100, Tryz.ntmps100
    go_wp2
    go_ret
    exact ⟨by simp [h], rfl⟩
  · have h' : decide (b < 33) = false := decide_eq_false h
    go_enter Tryz.func100, Tryz.ntmps100
    go_wp2
    go_ret
    exact ⟨rfl, rfl⟩

set_option maxHeartbeats 400000 in
theorem key_index (l : List UInt8) (b c : Nat) (w : World) (hl : l.length ≤ 9223372036854775807) (hc : ∀ j, j < l.length → w.cell? ⟨b, j, none⟩ = some (.int .u8 (l.getD j 0).toNat)) :
    Calls Tryz.prog 116 #[.slice (some ⟨b, 0, none⟩) l.length c, .func (.func 100) #[] #[]] w fun e w' => ∃ r : Int, Hid (Ky.Idx l r) ∧ e = .returned (.int .i64 r) ∧ w = w' := by
  go_enter Tryz.func116, Tryz.ntmps116
  have HC := Lib.hid hc; clear hc
  go_wp2_with fail
  go_loop [8] (fun i => ∃ k : Nat, k ≤ l.length ∧ i = .int .i64 k ∧ Hid ((l.take k).all Ky.ok = true)) (fun i => match i with | .int _ n => l.length - n.toNat | _ => 0)
  case atStart => exact ⟨0, Nat.zero_le _, rfl, Lib.hid rfl⟩
  case round =>
    obtain ⟨k, hk, rfl, hd⟩ := hrel
    by_cases hlt : k < l.length
    · have hcell := HC.out k hlt
      go_wp2_with (go_at_call 100; refine (key_bad _ _).mono ?_; rintro e w' ⟨rfl, rfl⟩)
      · have h2 : (l[k].toNat : Int) < 33 ∨ 126 < (l[k].toNat : Int) := by assumption
        go_ret
        exact ⟨_, Lib.hid (Ky.idx_bad l k hlt h2), rfl, rfl⟩
      · have h2 : 33 ≤ (l[k].toNat : Int) ∧ (l[k].toNat : Int) ≤ 126 := by assumption
        exact ⟨⟨k + 1, by omega, rfl, Lib.hid (Ky.all_snoc l k hlt hd.out h2)⟩, by simp; omega⟩
    · go_wp2
      go_ret
      exact ⟨_, Lib.hid (Ky.idx_good l (by have := hd.out; rwa [List.take_of_length_le (by omega)] at this)), rfl, rfl⟩

set_option maxHeartbeats 400000 in
theorem key_contains (l : List UInt8) (b c : Nat) (w : World) (hl : l.length ≤ 9223372036854775807) (hc : ∀ j, j < l.length → w.cell? ⟨b, j, none⟩ = some (.int .u8 (l.getD j 0).toNat)) :
    Calls Tryz.prog 101 #[.slice (some ⟨b, 0, none⟩) l.length c, .func (.func 100) #[] #[]] w fun e w' => e = .returned (.bool (!l.all Ky.ok)) ∧ w = w' := by
  have HC := Lib.hid hc; clear hc
  go_enter Tryz.func101, Tryz.ntmps101
  go_wp2_with (go_at_call 116; refine (key_index l b c _ hl HC.out).mono ?_; rintro e w' ⟨r, hr, rfl, rfl⟩)
  go_ret
  exact ⟨by rw [← hr.out]; rfl, rfl⟩

theorem bytes_below (w : World) (e : TypeId) (s : ByteArray) : Below w.heap.size w (Lib.bytesWorld w e s) :=
  ⟨rfl, rfl, rfl, by rw [Lib.bytesWorld_size]; omega, fun i hi => Lib.bytesWorld_at_old w e s i hi⟩

set_option maxHeartbeats 400000 in
theorem key_right (s : ByteArray) (w : World) (hs : s.size ≤ 9223372036854775807) :
    Calls Tryz.prog 82 #[.string s] w fun e w' => e = .returned (.bool (Ky.right s.data.toList)) ∧ Below w.heap.size w w' := by
  have hl : s.data.toList.length = s.size := by simp
  have HL := Lib.hid hl; clear hl
  have kc := fun w => Lib.run_convert_string_bytes (P := Tryz.prog) w 9 22 5 s Tryz.underlying9 Tryz.underlying22 Tryz.underlying5
  by_cases h0 : s.size = 0
  · have HP := Lib.hid (Ky.right_big (l := s.data.toList) (by rw [HL.out]; omega))
    go_enter Tryz.func82, Tryz.ntmps82
    go_wp2_with fail
    go_ret
    exact ⟨by rw [HP.out]; rfl, Below.refl _ _⟩
  · have h1 : 0 < s.size := by omega
    clear h0
    by_cases h2 : s.size ≤ 128
    · have HP := Lib.hid (Ky.right_fit (l := s.data.toList) (by rw [HL.out]; omega) (by rw [HL.out]; omega))
      go_enter Tryz.func82, Tryz.ntmps82
      go_wp2_with fail
      have kk := key_contains s.data.toList w.heap.size (grownCap w s.size 0 5) (Lib.bytesWorld w 5 s) (by rw [HL.out]; exact hs) (fun j hj => Lib.bytesWorld_cell w _ s j (by rw [← HL.out]; exact hj))
      rw [HL.out] at kk
      refine kk.mono ?_
      clear kk
      rintro e w' ⟨rfl, rfl⟩
      go_wp2
      go_ret
      exact ⟨by rw [HP.out]; simp, bytes_below w _ s⟩
    · have HP := Lib.hid (Ky.right_big (l := s.data.toList) (by rw [HL.out]; omega))
      go_enter Tryz.func82, Tryz.ntmps82
      go_wp2_with fail
      go_ret
      exact ⟨by rw [HP.out]; rfl, Below.refl _ _⟩
end Go.Proofs.YtamhpnenpoamhaaGreat

/- rule.Right: what is wrong with a rule; 0: nothing. -/
namespace Go.Proofs.YtamhpnenpoamhaaGreat
open Go.RowKit Go.Shelf

def ruleV (p : ByteArray) (e u k : Int) : Value := .agg #[.string p, .int .u64 e, .int .u64 u, .int .u8 k]

def ask (f : Nat) : Value := .func (.func f) #[] #[]
def askCells : Array Value := #[ask 81, .int .u16 23, ask 83, .int .u16 24, ask 84, .int .u16 25, ask 85, .int .u16 26, ask 87, .int .u16 27]

set_option maxHeartbeats 400000 in
theorem rule_asks (w : World) :
    Calls Tryz.prog 59 #[] w fun e w' => e = .returned (.slice (some ⟨w.heap.size, 0, none⟩) 5 5) ∧ w.alloc (.cells askCells 120) = w' := by
  unfold askCells ask
  go_enter Tryz.func59, Tryz.ntmps59
  go_wp2
  go_ret
  exact ⟨rfl, rfl⟩

set_option maxHeartbeats 400000 in
theorem rule_ask1 (p : ByteArray) (e u k : Int) (w : World) (hs : p.size ≤ 9223372036854775807) :
    Calls Tryz.prog 81 #[ruleV p e u k] w fun x w' => x = .returned (.bool (Rl.okP p)) ∧ Below w.heap.size w w' := by
  have K := fun w => Lib.hid (key_right p w hs)
  have K := Lib.hid K
  unfold ruleV
  cases hp : p.toList.isEmpty with
  | true =>
    have HO := Lib.hid (show Rl.okP p = true by unfold Rl.okP; rw [hp]; rfl)
    go_enter Tryz.func81, Tryz.ntmps81
    go_wp2_with fail
    go_ret
    exact ⟨by rw [HO.out]; rfl, (Below.refl _ _).alloc (Nat.le_refl _) _⟩
  | false =>
    have HO := Lib.hid (show Rl.okP p = Ky.right p.data.toList by unfold Rl.okP; rw [hp]; rfl)
    go_enter Tryz.func81, Tryz.ntmps81
    go_wp2_with fail
    refine (K.out _).out.mono ?_
    rintro x w1 ⟨rfl, hb⟩
    go_wp2
    go_ret
    exact ⟨by rw [HO.out]; rfl, ((Below.refl _ _).alloc (Nat.le_refl _) _).trans (hb.mono (by simp))⟩

theorem rule_ask2 (p : ByteArray) (e u k : Int) (w : World) :
    Calls Tryz.prog 83 #[ruleV p e u k] w fun x w' => x = .returned (.bool (decide (0 < e))) ∧ Below w.heap.size w w' := by
  unfold ruleV
  go_enter Tryz.func83, Tryz.ntmps83
  go_wp2
  go_ret
  exact ⟨rfl, (Below.refl _ _).alloc (Nat.le_refl _) _⟩

theorem rule_ask3 (p : ByteArray) (e u k : Int) (w : World) :
    Calls Tryz.prog 84 #[ruleV p e u k] w fun x w' => x = .returned (.bool (decide (0 < u))) ∧ Below w.heap.size w w' := by
  unfold ruleV
  go_enter Tryz.func84, Tryz.ntmps84
  go_wp2
  go_ret
  exact ⟨rfl, (Below.refl _ _).alloc (Nat.le_refl _) _⟩

theorem rule_ask4 (p : ByteArray) (e u k : Int) (w : World) (he : 0 ≤ e ∧ e ≤ 18446744073709551615) (hu : 0 ≤ u ∧ u ≤ 18446744073709551615) :
    Calls Tryz.prog 85 #[ruleV p e u k] w fun x w' => x = .returned (.bool (decide (Nm.mul e u ≤ 4611686018427387904))) ∧ Below w.heap.size w w' := by
  have K := Lib.hid (fun w => num_mul e u w he hu)
  unfold ruleV
  clear he hu
  go_enter Tryz.func85, Tryz.ntmps85
  go_wp2_with fail
  refine (K.out _).mono ?_
  rintro x w1 ⟨rfl, hb⟩
  go_wp2
  go_ret
  exact ⟨rfl, ((Below.refl _ _).alloc (Nat.le_refl _) _).trans (hb.mono (by simp))⟩

theorem rule_ask5 (p : ByteArray) (e u k : Int) (w : World) :
    Calls Tryz.prog 87 #[ruleV p e u k] w fun x w' => x = .returned (.bool (decide (1 ≤ k ∧ k ≤ 3))) ∧ Below w.heap.size w w' := by
  have K := Lib.hid (fun w => kernel_right k w)
  unfold ruleV
  go_enter Tryz.func87, Tryz.ntmps87
  go_wp2_with fail
  refine (K.out _).mono ?_
  rintro x w1 ⟨rfl, hb⟩
  go_wp2
  go_ret
  exact ⟨by simp, ((Below.refl _ _).alloc (Nat.le_refl _) _).trans (hb.mono (by simp))⟩

theorem rule_ask (p : ByteArray) (e u k : Int) (j : Nat) (hs : p.size ≤ 9223372036854775807) (he : 0 ≤ e ∧ e ≤ 18446744073709551615) (hu : 0 ≤ u ∧ u ≤ 18446744073709551615) (hj : j < 5) :
    ∃ f, askCells[j * 2]? = some (ask f) ∧ askCells[j * 2 + 1]? = some (.int .u16 (Rl.askE j)) ∧ (∀ args w, (callFunc f args).run Tryz.prog w = .ok (.enter f args) w) ∧ ∀ w, Calls Tryz.prog f #[ruleV p e u k] w fun x w' => x = .returned (.bool (Rl.askB p e u k j)) ∧ Below w.heap.size w w' := by
  obtain rfl | rfl | rfl | rfl | rfl : j = 0 ∨ j = 1 ∨ j = 2 ∨ j = 3 ∨ j = 4 := by omega
  · exact ⟨_, rfl, rfl, enters_of Tryz.func81 (by kernel_rfl) rfl, fun w => rule_ask1 p e u k w hs⟩
  · exact ⟨_, rfl, rfl, enters_of Tryz.func83 (by kernel_rfl) rfl, fun w => rule_ask2 p e u k w⟩
  · exact ⟨_, rfl, rfl, enters_of Tryz.func84 (by kernel_rfl) rfl, fun w => rule_ask3 p e u k w⟩
  · exact ⟨_, rfl, rfl, enters_of Tryz.func85 (by kernel_rfl) rfl, fun w => rule_ask4 p e u k w he hu⟩
  · exact ⟨_, rfl, rfl, enters_of Tryz.func87 (by kernel_rfl) rfl, fun w => rule_ask5 p e u k w⟩

set_option maxRecDepth 100000 in
set_option maxHeartbeats 1000000 in
theorem rule_right (p : ByteArray) (e u k : Int) (w : World) (hs : p.size ≤ 9223372036854775807) (he : 0 ≤ e ∧ e ≤ 18446744073709551615) (hu : 0 ≤ u ∧ u ≤ 18446744073709551615) :
    Calls Tryz.prog 35 #[ruleV p e u k] w fun x w' => x = .returned (.int .u16 (Rl.right p e u k)) ∧ Below w.heap.size w w' := by
  have K := Lib.hid (fun j hj => rule_ask p e u k j hs he hu hj)
  clear he hu hs
  unfold ruleV at K ⊢
  go_enter Tryz.func35, Tryz.ntmps35
  go_wp2_with fail
  refine (rule_asks _).mono ?_
  rintro x w' ⟨rfl, rfl⟩
  go_wp2_with fail
  go_loopw [7] (fun i wr => ∃ j : Nat, j ≤ 5 ∧ i = .int .i64 j ∧ (∀ i, i < j → Rl.askB p e u k i = true) ∧ Below (w.heap.size + 2) ((w.alloc (.cells #[.string p, .int .u64 e, .int .u64 u, .int .u8 k] 37)).alloc (.cells askCells 120)) wr) (fun i _ => 5 - (intOf i).toNat)
  case atStart => exact ⟨0, by omega, rfl, fun i h => by omega, Below.refl _ _⟩
  case round =>
    obtain ⟨j, hj, rfl, hall, hb⟩ := hrel
    have hA := Lib.hid hall; clear hall
    have hz := hb.size
    simp at hz
    have b1 : Blk wr w.heap.size _ 37 := ((Blk.new w _ 37).alloc _).below hb (by omega)
    have b2 : Blk wr (w.heap.size + 1) askCells 120 := by
      have := Blk.new (w.alloc (.cells #[.string p, .int .u64 e, .int .u64 u, .int .u8 k] 37)) askCells 120
      rw [World.size_alloc] at this
      exact this.below hb (by omega)
    by_cases hlt : j < 5
    · obtain ⟨f, hf1, hf2, hen, hc⟩ := K.out j hlt
      have a0 := b2.cell_at (j * 2) _ hf1
      have a1 := b2.cell_at (j * 2 + 1) _ hf2
      have r0 := fun o => (b1.alloc o).cell_at 0 (.string p) rfl; have r1 := fun o => (b1.alloc o).cell_at 1 (.int .u64 e) rfl; have r2 := fun o => (b1.alloc o).cell_at 2 (.int .u64 u) rfl; have r3 := fun o => (b1.alloc o).cell_at 3 (.int .u8 k) rfl
      clear hf1 hf2 K b1 b2
      have HB := Lib.hid hb; clear hb
      unfold ask at a0
      have HC := Lib.hid hc; clear hc
      go_wp2_with fail
      refine (HC.out _).mono ?_
      rintro x w1 ⟨rfl, hb1⟩
      have b3 : Blk w1 wr.heap.size #[.func (.func f) #[] #[], .int .u16 (Rl.askE j)] 120 := (Blk.new wr _ _).below hb1 (by simp)
      have c1 := b3.cell_at 1 (.int .u16 (Rl.askE j)) rfl
      have hw1 := hb1.size
      simp at hw1
      have HB1 := Lib.hid (HB.out.trans (((Below.refl _ wr).alloc (show w.heap.size + 2 ≤ wr.heap.size by omega) _).trans (hb1.mono (by simp; omega))))
      clear HB HC b3 hb1
      cases hq : Rl.askB p e u k j with
      | true =>
        have HQ := Lib.hid hq; clear hq
        go_wp2
        go_roundw
        case rel => exact ⟨j + 1, by omega, by simp, fun i hi => by
          rcases Nat.lt_or_ge i j with h | h
          · exact hA.out i h
          · obtain rfl : i = j := by omega
            exact HQ.out, HB1.out⟩
        case measure => simp [intOf]; omega
      | false =>
        have HQ := Lib.hid (Rl.right_at j hlt hA.out hq); clear hq
        go_wp2
        go_ret
        exact ⟨by rw [HQ.out]; rfl, ((((Below.refl _ w).alloc (Nat.le_refl _) _).alloc (by simp) _)).trans (HB1.out.mono (by omega))⟩
    · have HR := Lib.hid (Rl.right_all fun i hi => hA.out i (by omega))
      have HB1 := Lib.hid hb; clear hb b1 b2
      go_wp2
      go_ret
      exact ⟨by rw [HR.out]; rfl, ((((Below.refl _ w).alloc (Nat.le_refl _) _).alloc (by simp) _)).trans (HB1.out.mono (by omega))⟩
end Go.Proofs.YtamhpnenpoamhaaGreat

/- rule.prefix, rule.named, rule.number, rule.burst: what a word does to a rule. -/
namespace Go.Proofs.YtamhpnenpoamhaaGreat
open Go.RowKit Go.Shelf

/-- A rule in memory. -/
def RuleAt (w : World) (b : Nat) (p : ByteArray) (e u k : Int) : Prop := Blk w b #[.string p, .int .u64 e, .int .u64 u, .int .u8 k] 37

theorem ret_u16 {a b : Int} (h : a = b) : Ending.returned (.int .u16 a) = .returned (.int .u16 b) := by rw [h]

set_option maxHeartbeats 400000 in
theorem rule_prefix (b : Nat) (p : ByteArray) (e u k : Int) (s : ByteArray) (w : World) (hR : RuleAt w b p e u k) (hs : s.size ≤ 9223372036854775807) :
    Calls Tryz.prog 78 #[.pointer (some ⟨b, 0, none⟩), .string s] w fun x w' => x = .returned (.int .u16 (Rl.prefixE s)) ∧ RuleAt w' b s e u k ∧ w.grownBy w' (some b) := by
  have r0 := hR.cell_at 0 (.string p) rfl
  have f0 := hR.free 0
  have K := Lib.hid (key_right s (w.setCell ⟨b, 0, none⟩ (.string s)) hs)
  have HR : RuleAt (w.setCell ⟨b, 0, none⟩ (.string s)) b s e u k := hR.set 0 (.string s)
  have HB := hR.lt
  have HR := Lib.hid HR
  clear hR hs
  cases hk : Ky.right s.data.toList with
  | true =>
    have HE := Lib.hid (show Rl.prefixE s = 0 from if_pos hk)
    rw [hk] at K; clear hk
    go_enter Tryz.func78, Tryz.ntmps78
    go_wp2_with fail
    refine K.out.mono ?_
    rintro x w1 ⟨rfl, hb⟩
    have HF := Lib.hid (HR.out.below hb HR.out.lt)
    go_wp2
    go_ret
    exact ⟨ret_u16 HE.out.symm, HF.out, grown_trans (grown_set _ _ _ _) (grown_below hb _)⟩
  | false =>
    have HE := Lib.hid (show Rl.prefixE s = 23 from if_neg (by simp [hk]))
    rw [hk] at K; clear hk
    go_enter Tryz.func78, Tryz.ntmps78
    go_wp2_with fail
    refine K.out.mono ?_
    rintro x w1 ⟨rfl, hb⟩
    have HF := Lib.hid (HR.out.below hb HR.out.lt)
    go_wp2
    go_ret
    exact ⟨ret_u16 HE.out.symm, HF.out, grown_trans (grown_set _ _ _ _) (grown_below hb _)⟩

set_option maxHeartbeats 400000 in
theorem rule_named (b : Nat) (p : ByteArray) (e u k : Int) (s : ByteArray) (w : World) (hR : RuleAt w b p e u k) :
    Calls Tryz.prog 77 #[.pointer (some ⟨b, 0, none⟩), .string s] w fun x w' => x = .returned (.int .u16 (Rl.namedE (Rl.kindOf s))) ∧ RuleAt w' b p e u (Rl.kindOf s) ∧ w.grownBy w' (some b) := by
  have K := Lib.hid (rule_kind s w)
  have hkr := Rl.kindOf_range s
  obtain ⟨n, hn⟩ : ∃ n, n = Rl.kindOf s := ⟨_, rfl⟩
  rw [← hn] at K hkr ⊢
  clear hn
  have HR := Lib.hid hR; clear hR
  by_cases hd : 0 < n
  · go_enter Tryz.func77, Tryz.ntmps77
    go_wp2_with fail
    refine K.out.mono ?_
    rintro x w1 ⟨rfl, hb⟩
    have h1 : Blk w1 b _ 37 := HR.out.below hb HR.out.lt
    have r3 := h1.cell_at 3 (.int .u8 k) rfl
    have f3 := h1.free 3
    have HF := Lib.hid (h1.set 3 (.int .u8 n)); clear h1
    go_wp2
    go_ret
    exact ⟨ret_u16 (Rl.namedE_pos (by omega)).symm, HF.out, grown_trans (grown_below hb _) (grown_set _ _ _ _)⟩
  · have hd' : decide (0 < n) = false := decide_eq_false hd
    go_enter Tryz.func77, Tryz.ntmps77
    go_wp2_with fail
    refine K.out.mono ?_
    rintro x w1 ⟨rfl, hb⟩
    have h1 : Blk w1 b _ 37 := HR.out.below hb HR.out.lt
    have r3 := h1.cell_at 3 (.int .u8 k) rfl
    have f3 := h1.free 3
    have HF := Lib.hid (h1.set 3 (.int .u8 n)); clear h1
    go_wp2
    go_ret
    exact ⟨ret_u16 (Rl.namedE_neg (by omega)).symm, HF.out, grown_trans (grown_below hb _) (grown_set _ _ _ _)⟩

set_option maxHeartbeats 400000 in
theorem rule_number (f : Nat) (z : Int) (w : World) :
    Calls Tryz.prog 74 #[.func (.func f) #[] #[], .int .u16 z] w fun x w' => x = .returned (.func (.func 96) #[] #[.pointer (some ⟨w.heap.size, 0, none⟩), .pointer (some ⟨w.heap.size + 1, 0, none⟩)]) ∧
      (w.alloc (.cells #[.func (.func f) #[] #[]] 135)).alloc (.cells #[.int .u16 z] 40) = w' := by
  have hmf : ∀ (fn : Fn) (first cap : Array Value) (w : World), (Instr.makeFunc fn first cap).run Tryz.prog w = .ok (.func fn first cap) w := fun _ _ _ _ => rfl
  go_enter Tryz.func74, Tryz.ntmps74
  go_wp2
  go_ret
  exact ⟨rfl, rfl⟩

set_option maxHeartbeats 400000 in
theorem rule_to1 (b : Nat) (w : World) :
    Calls Tryz.prog 75 #[.pointer (some ⟨b, 0, none⟩)] w fun x w' => x = .returned (.pointer (some ⟨b, 1, none⟩)) ∧ w = w' := by
  go_enter Tryz.func75, Tryz.ntmps75
  go_wp2
  go_ret
  exact ⟨rfl, rfl⟩

set_option maxHeartbeats 1000000 in
theorem rule_number1 (b B C : Nat) (p : ByteArray) (e u k z : Int) (s : ByteArray) (w : World) (hR : RuleAt w b p e u k) (hB : Blk w B #[.func (.func 75) #[] #[]] 135) (hC : Blk w C #[.int .u16 z] 40) (hne : C ≠ b) (hs : s.size ≤ 9223372036854775807) :
    Calls Tryz.prog 96 #[.pointer (some ⟨b, 0, none⟩), .string s, .pointer (some ⟨B, 0, none⟩), .pointer (some ⟨C, 0, none⟩)] w fun x w' =>
      x = .returned (.int .u16 (Rl.numE z (Dg.parse s.data.toList))) ∧ RuleAt w' b p (Dg.parse s.data.toList).1 u k ∧ w.grownBy w' (some b) := by
  have r1 := hR.cell_at 1 (.int .u64 e) rfl
  have f1 := hR.free 1
  have b0 := hB.cell_at 0 _ rfl
  have K := Lib.hid (digit_parse s w hs)
  obtain ⟨n, hn⟩ : ∃ n, n = (Dg.parse s.data.toList).1 := ⟨_, rfl⟩
  obtain ⟨c, hc⟩ : ∃ c, c = (Dg.parse s.data.toList).2 := ⟨_, rfl⟩
  have HP := Lib.hid (show Dg.parse s.data.toList = (n, c) by rw [hn, hc])
  rw [← hn, ← hc] at K; rw [← hn]
  clear hn hc
  have HF := Lib.hid (hR.set 1 (.int .u64 n))
  have c0 := (hC.far (Ne.symm hne) 1 (.int .u64 n)).cell_at 0 (.int .u16 z) rfl
  clear hR hB hC hs
  have T := Lib.hid (rule_to1 b w)
  by_cases h0 : c = 0
  · have h0' : (c == 0) = true := by rw [h0]; rfl
    have H0 := Lib.hid h0; clear h0
    by_cases hz : n = 0
    · have hz' : (n == 0) = true := by rw [hz]; rfl
      have HE := Lib.hid (show Rl.numE z (Dg.parse s.data.toList) = z by rw [HP.out, H0.out, hz]; rfl)
      clear hz
      go_enter Tryz.func96, Tryz.ntmps96
      go_wp2_with fail
      refine K.out.mono ?_
      rintro x w1 ⟨rfl, rfl⟩
      go_wp2_with fail
      refine T.out.mono ?_
      rintro x w1 ⟨rfl, rfl⟩
      go_wp2
      go_ret
      exact ⟨ret_u16 HE.out.symm, HF.out, grown_set _ _ _ _⟩
    · have hz' : (n == 0) = false := beq_eq_false_iff_ne.2 hz
      have HE := Lib.hid (show Rl.numE z (Dg.parse s.data.toList) = c by rw [HP.out]; exact if_neg (fun h => hz h.2))
      clear hz
      go_enter Tryz.func96, Tryz.ntmps96
      go_wp2_with fail
      refine K.out.mono ?_
      rintro x w1 ⟨rfl, rfl⟩
      go_wp2_with fail
      refine T.out.mono ?_
      rintro x w1 ⟨rfl, rfl⟩
      go_wp2
      go_ret
      exact ⟨ret_u16 HE.out.symm, HF.out, grown_set _ _ _ _⟩
  · have h0' : (c == 0) = false := beq_eq_false_iff_ne.2 h0
    have HE := Lib.hid (show Rl.numE z (Dg.parse s.data.toList) = c by rw [HP.out]; exact if_neg (fun h => h0 h.1))
    clear h0
    go_enter Tryz.func96, Tryz.ntmps96
    go_wp2_with fail
    refine K.out.mono ?_
    rintro x w1 ⟨rfl, rfl⟩
    go_wp2_with fail
    refine T.out.mono ?_
    rintro x w1 ⟨rfl, rfl⟩
    go_wp2
    go_ret
    exact ⟨ret_u16 HE.out.symm, HF.out, grown_set _ _ _ _⟩

set_option maxHeartbeats 400000 in
theorem rule_to2 (b : Nat) (w : World) :
    Calls Tryz.prog 97 #[.pointer (some ⟨b, 0, none⟩)] w fun x w' => x = .returned (.pointer (some ⟨b, 2, none⟩)) ∧ w = w' := by
  go_enter Tryz.func97, Tryz.ntmps97
  go_wp2
  go_ret
  exact ⟨rfl, rfl⟩

set_option maxHeartbeats 1000000 in
theorem rule_number2 (b B C : Nat) (p : ByteArray) (e u k z : Int) (s : ByteArray) (w : World) (hR : RuleAt w b p e u k) (hB : Blk w B #[.func (.func 97) #[] #[]] 135) (hC : Blk w C #[.int .u16 z] 40) (hne : C ≠ b) (hs : s.size ≤ 9223372036854775807) :
    Calls Tryz.prog 96 #[.pointer (some ⟨b, 0, none⟩), .string s, .pointer (some ⟨B, 0, none⟩), .pointer (some ⟨C, 0, none⟩)] w fun x w' =>
      x = .returned (.int .u16 (Rl.numE z (Dg.parse s.data.toList))) ∧ RuleAt w' b p e (Dg.parse s.data.toList).1 k ∧ w.grownBy w' (some b) := by
  have r1 := hR.cell_at 2 (.int .u64 u) rfl
  have f1 := hR.free 2
  have b0 := hB.cell_at 0 _ rfl
  have K := Lib.hid (digit_parse s w hs)
  obtain ⟨n, hn⟩ : ∃ n, n = (Dg.parse s.data.toList).1 := ⟨_, rfl⟩
  obtain ⟨c, hc⟩ : ∃ c, c = (Dg.parse s.data.toList).2 := ⟨_, rfl⟩
  have HP := Lib.hid (show Dg.parse s.data.toList = (n, c) by rw [hn, hc])
  rw [← hn, ← hc] at K; rw [← hn]
  clear hn hc
  have HF := Lib.hid (hR.set 2 (.int .u64 n))
  have c0 := (hC.far (Ne.symm hne) 2 (.int .u64 n)).cell_at 0 (.int .u16 z) rfl
  clear hR hB hC hs
  have T := Lib.hid (rule_to2 b w)
  by_cases h0 : c = 0
  · have h0' : (c == 0) = true := by rw [h0]; rfl
    have H0 := Lib.hid h0; clear h0
    by_cases hz : n = 0
    · have hz' : (n == 0) = true := by rw [hz]; rfl
      have HE := Lib.hid (show Rl.numE z (Dg.parse s.data.toList) = z by rw [HP.out, H0.out, hz]; rfl)
      clear hz
      go_enter Tryz.func96, Tryz.ntmps96
      go_wp2_with fail
      refine K.out.mono ?_
      rintro x w1 ⟨rfl, rfl⟩
      go_wp2_with fail
      refine T.out.mono ?_
      rintro x w1 ⟨rfl, rfl⟩
      go_wp2
      go_ret
      exact ⟨ret_u16 HE.out.symm, HF.out, grown_set _ _ _ _⟩
    · have hz' : (n == 0) = false := beq_eq_false_iff_ne.2 hz
      have HE := Lib.hid (show Rl.numE z (Dg.parse s.data.toList) = c by rw [HP.out]; exact if_neg (fun h => hz h.2))
      clear hz
      go_enter Tryz.func96, Tryz.ntmps96
      go_wp2_with fail
      refine K.out.mono ?_
      rintro x w1 ⟨rfl, rfl⟩
      go_wp2_with fail
      refine T.out.mono ?_
      rintro x w1 ⟨rfl, rfl⟩
      go_wp2
      go_ret
      exact ⟨ret_u16 HE.out.symm, HF.out, grown_set _ _ _ _⟩
  · have h0' : (c == 0) = false := beq_eq_false_iff_ne.2 h0
    have HE := Lib.hid (show Rl.numE z (Dg.parse s.data.toList) = c by rw [HP.out]; exact if_neg (fun h => h0 h.1))
    clear h0
    go_enter Tryz.func96, Tryz.ntmps96
    go_wp2_with fail
    refine K.out.mono ?_
    rintro x w1 ⟨rfl, rfl⟩
    go_wp2_with fail
    refine T.out.mono ?_
    rintro x w1 ⟨rfl, rfl⟩
    go_wp2
    go_ret
    exact ⟨ret_u16 HE.out.symm, HF.out, grown_set _ _ _ _⟩

end Go.Proofs.YtamhpnenpoamhaaGreat

/- rule.burst: the second number of a rule. -/
namespace Go.Proofs.YtamhpnenpoamhaaGreat
open Go.RowKit Go.Shelf

set_option maxHeartbeats 400000 in
theorem rule_burst (b : Nat) (p : ByteArray) (e u k : Int) (s : ByteArray) (w : World) (hR : RuleAt w b p e u k) (hs : s.size ≤ 9223372036854775807) (he : 0 ≤ e ∧ e ≤ 18446744073709551615) :
    Calls Tryz.prog 76 #[.pointer (some ⟨b, 0, none⟩), .string s] w fun x w' => x = .returned (.int .u16 (Rl.burstE e (Dg.parse s.data.toList))) ∧ RuleAt w' b p e (Dg.parse s.data.toList).1 k ∧ w.grownBy w' (some b) := by
  have hlt := hR.lt
  have K := Lib.hid (rule_number2 b w.heap.size (w.heap.size + 1) p e u k 25 s ((w.alloc (.cells #[.func (.func 97) #[] #[]] 135)).alloc (.cells #[.int .u16 25] 40)) ((hR.alloc _).alloc _) ((Blk.new w _ _).alloc _)
    (by have := Blk.new (w.alloc (.cells #[.func (.func 97) #[] #[]] 135)) #[.int .u16 25] 40; rwa [World.size_alloc] at this) (by omega) hs)
  have hn := Dg.parse_range s.data.toList
  obtain ⟨r, hr⟩ : ∃ r, r = Dg.parse s.data.toList := ⟨_, rfl⟩
  rw [← hr] at K hn ⊢
  obtain ⟨c, hc⟩ : ∃ c, c = Rl.numE 25 r := ⟨_, rfl⟩
  rw [← hc] at K
  have HC := Lib.hid hc; clear hc hr hs
  obtain ⟨n, hn1⟩ : ∃ n, n = r.1 := ⟨_, rfl⟩
  rw [← hn1] at K hn ⊢
  have HN := Lib.hid hn1; clear hn1
  clear hR
  have HM := Lib.hid (fun w => num_mul e n w he hn)
  by_cases h0 : c = 0
  · have h0' : (c == 0) = true := by rw [h0]; rfl
    have H0 := Lib.hid h0; clear h0
    go_enter Tryz.func76, Tryz.ntmps76
    go_wp2_with fail
    refine (rule_number _ _ _).mono ?_
    rintro x w1 ⟨rfl, rfl⟩
    go_wp2_with fail
    refine K.out.mono ?_
    rintro x w1 ⟨rfl, hR, hg⟩
    have r1 := hR.cell_at 1 (.int .u64 e) rfl
    have r2 := hR.cell_at 2 (.int .u64 n) rfl
    have HR := Lib.hid hR; have HG := Lib.hid hg; clear hR hg K
    go_wp2_with fail
    have hl1 := HR.out.lt
    go_region_held3 (fun w' => w'.cell? ⟨b, 1, none⟩ = some (.int .u64 e) ∧ w'.cell? ⟨b, 2, none⟩ = some (.int .u64 n)) (go_keep) ((go_at_call 86; refine (HM.out _).mono ?_; rintro x w2 ⟨rfl, hb2⟩; have k1 : w2.cell? ⟨b, 1, none⟩ = some (.int .u64 e) := (hb2.cell (p := ⟨b, 1, none⟩) (by simpa using hl1)).trans (by simpa using r1); have k2 : w2.cell? ⟨b, 2, none⟩ = some (.int .u64 n) := (hb2.cell (p := ⟨b, 2, none⟩) (by simpa using hl1)).trans (by simpa using r2)))
    have HF := Lib.hid (HR.out.drew.below hb2 (by simpa using hl1))
    have HG2 := Lib.hid (grown_trans HG.out (grown_below ((Below.refl _ _).drew.trans hb2) _))
    go_wp2
    · have hm : 4611686018427387904 < Nm.mul e n := by assumption
      have HE := Lib.hid (show Rl.burstE e r = 26 by unfold Rl.burstE; rw [← HC.out, ← HN.out]; exact if_pos ⟨H0.out, hm⟩)
      go_ret
      exact ⟨ret_u16 HE.out.symm, HF.out, grown_trans (grown_trans (grown_alloc _ _ _) (grown_alloc _ _ _)) HG2.out⟩
    · have hm : Nm.mul e n ≤ 4611686018427387904 := by assumption
      have HE := Lib.hid (show Rl.burstE e r = c by unfold Rl.burstE; rw [← HC.out, ← HN.out]; exact if_neg (by omega))
      go_ret
      exact ⟨ret_u16 HE.out.symm, HF.out, grown_trans (grown_trans (grown_alloc _ _ _) (grown_alloc _ _ _)) HG2.out⟩
  · have h0' : (c == 0) = false := beq_eq_false_iff_ne.2 h0
    have HE := Lib.hid (show Rl.burstE e r = c by unfold Rl.burstE; rw [← HC.out, ← HN.out]; exact if_neg (fun h => h0 h.1))
    clear h0
    go_enter Tryz.func76, Tryz.ntmps76
    go_wp2_with fail
    refine (rule_number _ _ _).mono ?_
    rintro x w1 ⟨rfl, rfl⟩
    go_wp2_with fail
    refine K.out.mono ?_
    rintro x w1 ⟨rfl, hR, hg⟩
    have HR := Lib.hid hR; have HG := Lib.hid hg; clear hR hg K
    go_wp2_with fail
    go_quiet (fail)
    go_wp2
    go_ret
    exact ⟨ret_u16 HE.out.symm, HR.out, grown_trans (grown_trans (grown_alloc _ _ _) (grown_alloc _ _ _)) (grown_trans HG.out (grown_drewN _ _ _))⟩
end Go.Proofs.YtamhpnenpoamhaaGreat

/- rule.Parse: the rule of a line's words. -/
namespace Go.Proofs.YtamhpnenpoamhaaGreat
open Go.RowKit Go.Shelf


theorem setObj'_alloc (w : World) (r : Nat) (o o' : Obj) (h : r < w.heap.size) : World.setObj' (w.alloc o) r o' = (World.setObj' w r o').alloc o := by
  have : (w.heap.push o).setIfInBounds r o' = (w.heap.setIfInBounds r o').push o := by
    apply Array.ext_getElem?
    intro i
    rw [Array.getElem?_push, Array.getElem?_setIfInBounds, Array.getElem?_setIfInBounds, Array.getElem?_push, Array.size_push, Array.size_setIfInBounds]
    by_cases h1 : r = i
    · subst h1; rw [if_pos rfl, if_pos rfl, if_pos (by omega), if_neg (by omega), if_pos h]
    · rw [if_neg h1, if_neg h1]
  unfold World.setObj'
  simp [World.alloc, -World.alloc_eq, this]
theorem alloc_at_old (w : World) (o : Obj) (r : Nat) (h : r < w.heap.size) : (w.alloc o).heap[r]? = w.heap[r]? := by
  simp [World.alloc, -World.alloc_eq, Array.getElem?_push, show ¬ r = w.heap.size by omega]

theorem parts_ins1 (w : World) (v : Value) (o : Obj) :
    (Instr.mapUpdate 137 (.map (some w.heap.size)) (.string sDefault) v).run Tryz.prog ((w.alloc (.map #[] 0)).alloc o) = .ok () ((w.alloc (.map #[{ key := .string sDefault, val := v, born := 0 }] 1)).alloc o) := by
  rw [run_mapUpdate_new Tryz.underlying137 Tryz.underlying9 ((alloc_at_old _ _ _ (by simp)).trans (alloc_at_new w _)) (by exact trivial) rfl, setObj'_alloc _ _ _ _ (by simp), setObj'_new]
  rfl
theorem parts_ins2 (w : World) (v v1 : Value) (o o2 : Obj) :
    (Instr.mapUpdate 137 (.map (some w.heap.size)) (.string sRule) v).run Tryz.prog (((w.alloc (.map #[{ key := .string sDefault, val := v1, born := 0 }] 1)).alloc o).alloc o2) =
      .ok () (((w.alloc (.map #[{ key := .string sDefault, val := v1, born := 0 }, { key := .string sRule, val := v, born := 1 }] 2)).alloc o).alloc o2) := by
  rw [run_mapUpdate_new Tryz.underlying137 Tryz.underlying9 ((alloc_at_old _ _ _ (by simp; omega)).trans ((alloc_at_old _ _ _ (by simp)).trans (alloc_at_new w _))) (by exact trivial) (by rfl), setObj'_alloc _ _ _ _ (by simp; omega), setObj'_alloc _ _ _ _ (by simp), setObj'_new]
  rfl

def fnV (f : Nat) : Value := .func (.func f) #[] #[]
/-- The reader of the first number: a closure over two boxes from block m on. -/
def everyV (m : Nat) : Value := .func (.func 96) #[] #[.pointer (some ⟨m, 0, none⟩), .pointer (some ⟨m + 1, 0, none⟩)]

theorem rule_number_abs (f : Nat) (z : Int) (w : World) :
    Calls Tryz.prog 74 #[.func (.func f) #[] #[], .int .u16 z] w fun x w' => x = .returned (everyV w.heap.size) ∧
      Blk w' w.heap.size #[fnV f] 135 ∧ Blk w' (w.heap.size + 1) #[.int .u16 z] 40 ∧ Below w.heap.size w w' ∧ w'.heap.size = w.heap.size + 2 :=
  (rule_number f z w).mono fun x w' h => by
    obtain ⟨rfl, rfl⟩ := h
    refine ⟨rfl, (Blk.new w _ _).alloc _, ?_, ((Below.refl _ _).alloc (Nat.le_refl _) _).alloc (by simp) _, by simp⟩
    have := Blk.new (w.alloc (.cells #[.func (.func f) #[] #[]] 135)) #[.int .u16 z] 40
    rwa [World.size_alloc] at this

theorem bytes_ne {a b : ByteArray} (h : a ≠ b) : (a == b) = false := by
  rw [Bool.eq_false_iff]; intro h1; exact h ((MapKept.bytes_beq a b).1 h1)

theorem parts_zero (w : World) : (zeroValue 136).run Tryz.prog w = .ok (.slice none 0 0) w := by kernel_rfl
theorem parts_look (w : World) (l : ByteArray) (v1 v2 : Value) (o o2 : Obj) :
    (Instr.lookup 137 (.map (some w.heap.size)) (.string l) false).run Tryz.prog (((w.alloc (.map #[{ key := .string sDefault, val := v1, born := 0 }, { key := .string sRule, val := v2, born := 1 }] 2)).alloc o).alloc o2) =
      .ok (if l = sDefault then v1 else if l = sRule then v2 else .slice none 0 0) (((w.alloc (.map #[{ key := .string sDefault, val := v1, born := 0 }, { key := .string sRule, val := v2, born := 1 }] 2)).alloc o).alloc o2) := by
  have hb : (((w.alloc (.map #[{ key := .string sDefault, val := v1, born := 0 }, { key := .string sRule, val := v2, born := 1 }] 2)).alloc o).alloc o2).heap[w.heap.size]? = some (.map #[{ key := .string sDefault, val := v1, born := 0 }, { key := .string sRule, val := v2, born := 1 }] 2) :=
    (alloc_at_old _ _ _ (by simp; omega)).trans ((alloc_at_old _ _ _ (by simp)).trans (alloc_at_new w _))
  by_cases h1 : l = sDefault
  · rw [if_pos h1]; subst h1
    exact run_lookup_has Tryz.underlying137 Tryz.underlying9 hb (by exact trivial) (j := 0) (by rfl) false
  · rw [if_neg h1]
    by_cases h2 : l = sRule
    · rw [if_pos h2]; subst h2
      exact run_lookup_has Tryz.underlying137 Tryz.underlying9 hb (by exact trivial) (j := 1) (by rfl) false
    · rw [if_neg h2]
      exact run_lookup_not Tryz.underlying137 Tryz.underlying9 hb (by exact trivial) (by simp [Instr.findNow, Instr.sameNow, bytes_ne h1, bytes_ne h2]) (parts_zero _) false
end Go.Proofs.YtamhpnenpoamhaaGreat

/- rule.Parse: lines that are no rule. -/
namespace Go.Proofs.YtamhpnenpoamhaaGreat
open Go.RowKit Go.Shelf Go.Proofs.YtamhpnenpoamhaaGreatW.PrintWords

/-- What rule.Parse hands back: the rule, the error, the place. -/
def parseV (r : Ru × Int × Int) : Value := .tuple #[.agg #[.string r.1.p, .int .u64 r.1.e, .int .u64 r.1.u, .int .u8 r.1.k], .int .u16 r.2.1, .int .i64 r.2.2]
theorem parse_results {tmps : Array Value} {w : World} {r : Ru × Int × Int} (b : Nat) (h2 : tmps.getD 2 undef = .pointer (some ⟨b, 0, none⟩)) (h3 : tmps.getD 3 undef = .int .u16 r.2.1) (h4 : tmps.getD 4 undef = .int .i64 r.2.2)
    (hb : Blk w b #[.string r.1.p, .int .u64 r.1.e, .int .u64 r.1.u, .int .u8 r.1.k] 37) : (results Tryz.f56 tmps).run Tryz.prog w = .ok (parseV r) w := by
  have c0 := hb.cell_at 0 (.string r.1.p) rfl
  have c1 := hb.cell_at 1 (.int .u64 r.1.e) rfl
  have c2 := hb.cell_at 2 (.int .u64 r.1.u) rfl
  have c3 := hb.cell_at 3 (.int .u8 r.1.k) rfl
  simp only [Array.getD_eq_getD_getElem?] at h2 h3 h4
  simp [results, Tryz.results56, go_sem, h2, h3, h4, c0, c1, c2, c3, parseV]

theorem rule_parse_nil (c : Nat) (A : Option Addr) (w : World) :
    Calls Tryz.prog 56 #[.slice A 0 c] w fun x w' => x = .returned (parseV (Ru.zero, 22, 0)) ∧ Below w.heap.size w w' := by
  go_enter Tryz.func56, Tryz.ntmps56
  go_wp2
  exact bodyPost_ret (v := parseV (Ru.zero, 22, 0)) (by simp [results, Tryz.results56, go_sem, parseV, Ru.zero]) rfl ⟨rfl, (Below.refl _ _).alloc (Nat.le_refl _) _⟩


set_option maxRecDepth 100000 in
set_option maxHeartbeats 1000000 in
theorem rule_parse_bad (ad : Addr) (n c : Nat) (l0 : ByteArray) (w : World) (hn : 0 < n) (hn2 : n ≤ 9223372036854775807) (h0 : w.cell? ad = some (.string l0))
    (hbad : ¬ (l0 = sDefault ∧ n = 4) ∧ ¬ (l0 = sRule ∧ n = 5)) :
    Calls Tryz.prog 56 #[.slice (some ad) n c] w fun x w' => x = .returned (parseV (Ru.zero, 22, 0)) ∧ Below w.heap.size w w' := by
  have hlen : ((n : Int) == 0) = false := beq_eq_false_iff_ne.2 (by omega)
  have hmm := @run_makeMap Tryz.prog
  have had := World.block_lt_of_cell? w ad h0
  obtain ⟨c1, c2⟩ := hbad
  have heq1 : ∀ (w : World) (x : Addr) (l c : Nat), (binOp .eql 136 (.slice (some x) l c) (.slice none 0 0)).run Tryz.prog w = .ok (.bool false) w := fun w x l c => Lib.run_eql_slice_nil w _ _ (some x) l c 0 0 Tryz.underlying136
  have heq2 : ∀ (w : World), (binOp .eql 136 (.slice none 0 0) (.slice none 0 0)).run Tryz.prog w = .ok (.bool true) w := fun w => Lib.run_eql_slice_nil w _ _ none 0 0 0 0 Tryz.underlying136
  have hcase : (l0 = sDefault ∧ ((n : Int) != 3 + 1) = true) ∨ (l0 = sRule ∧ ¬ l0 = sDefault ∧ ((n : Int) != 4 + 1) = true) ∨ (¬ l0 = sDefault ∧ ¬ l0 = sRule) := by
    by_cases hd : l0 = sDefault
    · exact .inl ⟨hd, by rw [bne_iff_ne]; intro h; exact c1 ⟨hd, by omega⟩⟩
    · by_cases hr : l0 = sRule
      · exact .inr (.inl ⟨hr, hd, by rw [bne_iff_ne]; intro h; exact c2 ⟨hr, by omega⟩⟩)
      · exact .inr (.inr ⟨hd, hr⟩)
  clear c1 c2
  rcases hcase with ⟨hd, hne⟩ | ⟨hr, hd, hne⟩ | ⟨hd, hr⟩
  all_goals
    go_enter Tryz.func56, Tryz.ntmps56
    go_wp2_with fail
    refine (rule_number_abs _ _ _).mono ?_
    rintro x w1 ⟨rfl, hB, hC, hb1, hsz⟩
    have hbw : Below w.heap.size w w1 := ((Below.refl _ _).alloc (Nat.le_refl _) _).trans (hb1.mono (by simp))
    have h1 : w1.cell? ad = some (.string l0) := (hbw.cell had).trans h0
    have HBW := Lib.hid hbw; clear hbw
    have h1 := fun o1 o2 o3 => cell_alloc (cell_alloc (cell_alloc h1 o1) o2) o3
    have hres : ∀ o1 o2 o3, Blk (((w1.alloc o1).alloc o2).alloc o3) w.heap.size #[.string ⟨#[]⟩, .int .u64 0, .int .u64 0, .int .u8 0] 37 := fun o1 o2 o3 => ((((Blk.new w _ 37).below hb1 (by simp)).alloc _).alloc _).alloc _
    have g1 := fun o1 o2 o3 => (hres o1 o2 o3).cell_at 0 (.string ⟨#[]⟩) rfl
    have g2 := fun o1 o2 o3 => (hres o1 o2 o3).cell_at 1 (.int .u64 0) rfl
    have g3 := fun o1 o2 o3 => (hres o1 o2 o3).cell_at 2 (.int .u64 0) rfl
    have g4 := fun o1 o2 o3 => (hres o1 o2 o3).cell_at 3 (.int .u8 0) rfl
    have f := fun o1 o2 o3 => (hres o1 o2 o3).free
    have HSZ : Hid (w.heap.size < w1.heap.size) := Lib.hid (by simp at hsz; omega)
    have HRES := Lib.hid hres
    clear h0 hb1 hsz hB hC hres
    have I1 := parts_ins1 w1
    have I2 := parts_ins2 w1
    have L := parts_look w1 l0
    first
      | simp only [if_pos hd] at L
      | simp only [if_pos hr, if_neg hd] at L
      | simp only [if_neg hr, if_neg hd] at L
    have HD := Lib.hid hd; clear hd
    try (have HR := Lib.hid hr; clear hr)
    simp only [sDefault, sRule] at I1 I2 L
    unfold everyV
    go_wp2
    refine bodyPost_ret (parse_results (r := (Ru.zero, 22, 0)) w.heap.size rfl rfl rfl (((((HRES.out _ _ _).set 0 (.string ⟨#[]⟩)).set 1 (.int .u64 0)).set 2 (.int .u64 0)).set 3 (.int .u8 0))) rfl ⟨rfl, ?_⟩
    refine ((((((HBW.out.alloc ?_ _).alloc ?_ _).alloc ?_ _).setCell ?_ _).setCell ?_ _).setCell ?_ _).setCell ?_ _
    all_goals (have hz := HSZ.out; first | omega | (simp; done) | (simp; omega))
end Go.Proofs.YtamhpnenpoamhaaGreat

/- rule.Parse: lines of the right length, word by word. -/
namespace Go.Proofs.YtamhpnenpoamhaaGreat
open Go.RowKit Go.Shelf Go.Proofs.YtamhpnenpoamhaaGreatW.PrintWords

def partV (m : Nat) (kd : Nat) : Value := if kd = 0 then fnV 78 else if kd = 1 then everyV m else if kd = 2 then fnV 76 else fnV 77
def RuAt (w : World) (b : Nat) (r : Ru) : Prop := RuleAt w b r.p r.e r.u r.k ∧ 0 ≤ r.e ∧ r.e ≤ 18446744073709551615
theorem numE_range (z : Int) (r : Int × Int) (hz : z ≠ 0) (h : Rl.numE z r = 0) : r.2 = 0 := by
  unfold Rl.numE at h
  split at h
  · exact absurd h hz
  · exact h

/-- Each part, by its kind: the function, and what a call of it does to the rule at block b. -/
theorem part_call (m kd : Nat) (hk : kd ≤ 3) : ∃ f caps, partV m kd = .func (.func f) #[] caps ∧ (∀ args w, (callFunc f args).run Tryz.prog w = .ok (.enter f args) w) ∧
    ∀ (w : World) (b : Nat) (r : Ru) (s : ByteArray), RuAt w b r → Blk w m #[fnV 75] 135 → Blk w (m + 1) #[.int .u16 24] 40 → m + 1 ≠ b → s.size ≤ 9223372036854775807 →
      Calls Tryz.prog f (#[.pointer (some ⟨b, 0, none⟩), .string s] ++ caps) w fun x w' => x = .returned (.int .u16 (Rl.step kd r s).1) ∧ RuAt w' b (Rl.step kd r s).2 ∧ w.grownBy w' (some b) := by
  obtain rfl | rfl | rfl | rfl : kd = 0 ∨ kd = 1 ∨ kd = 2 ∨ kd = 3 := by omega
  · exact ⟨_, _, rfl, enters_of Tryz.func78 (by kernel_rfl) rfl, fun w b r s hR _ _ _ hs => (rule_prefix b r.p r.e r.u r.k s w hR.1 hs).mono fun x w' h => ⟨h.1, ⟨h.2.1, hR.2⟩, h.2.2⟩⟩
  · exact ⟨_, _, rfl, enters_of Tryz.func96 (by kernel_rfl) rfl, fun w b r s hR hB hC hne hs => (rule_number1 b m (m + 1) r.p r.e r.u r.k 24 s w hR.1 hB hC hne hs).mono fun x w' h => ⟨h.1, ⟨h.2.1, Dg.parse_range _⟩, h.2.2⟩⟩
  · exact ⟨_, _, rfl, enters_of Tryz.func76 (by kernel_rfl) rfl, fun w b r s hR _ _ _ hs => (rule_burst b r.p r.e r.u r.k s w hR.1 hs hR.2).mono fun x w' h => ⟨h.1, ⟨h.2.1, hR.2⟩, h.2.2⟩⟩
  · exact ⟨_, _, rfl, enters_of Tryz.func77 (by kernel_rfl) rfl, fun w b r s hR _ _ _ hs => (rule_named b r.p r.e r.u r.k s w hR.1).mono fun x w' h => ⟨h.1, ⟨h.2.1, hR.2⟩, h.2.2⟩⟩

theorem run_ok {ks : List Nat} {ws : List ByteArray} {r : Ru} {n : Int} {j : Nat} (h1 : j < ks.length) (h2 : j < ws.length) (h : (Rl.step (ks.getD j 0) r (ws.getD j ⟨#[]⟩)).1 = 0) :
    Rl.run (ks.drop j) (ws.drop j) r n = Rl.run (ks.drop (j + 1)) (ws.drop (j + 1)) (Rl.step (ks.getD j 0) r (ws.getD j ⟨#[]⟩)).2 (n + 1) := by
  rw [List.drop_eq_getElem_cons h1, List.drop_eq_getElem_cons h2]
  simp only [List.getD_eq_getElem?_getD, List.getElem?_eq_getElem h1, List.getElem?_eq_getElem h2, Option.getD_some] at h ⊢
  rw [Rl.run, if_pos h]
theorem run_no {ks : List Nat} {ws : List ByteArray} {r : Ru} {n : Int} {j : Nat} (h1 : j < ks.length) (h2 : j < ws.length) (h : ¬ (Rl.step (ks.getD j 0) r (ws.getD j ⟨#[]⟩)).1 = 0) :
    Rl.run (ks.drop j) (ws.drop j) r n = (Ru.zero, (Rl.step (ks.getD j 0) r (ws.getD j ⟨#[]⟩)).1, n) := by
  rw [List.drop_eq_getElem_cons h1, List.drop_eq_getElem_cons h2]
  simp only [List.getD_eq_getElem?_getD, List.getElem?_eq_getElem h1, List.getElem?_eq_getElem h2, Option.getD_some] at h ⊢
  rw [Rl.run, if_neg h]

def Rl.rel (w : World) (ks : List Nat) (ws : List ByteArray) (R P : Nat) (i : Value) (wr : World) : Prop :=
  ∃ (j : Nat) (r : Ru), j ≤ ks.length ∧ i = .int .i64 j ∧ Rl.run ks ws Ru.zero 1 = Rl.run (ks.drop j) (ws.drop j) r (1 + j) ∧ RuAt wr R r ∧
    Blk wr (w.heap.size + 1) #[fnV 75] 135 ∧ Blk wr (w.heap.size + 1 + 1) #[.int .u16 24] 40 ∧ Blk wr P (ks.map (partV (w.heap.size + 1))).toArray 131 ∧
    Blk wr w.heap.size #[.string ⟨#[]⟩, .int .u64 0, .int .u64 0, .int .u8 0] 37 ∧ Below w.heap.size w wr

set_option maxRecDepth 100000 in
set_option maxHeartbeats 2000000 in
theorem rule_parse_run (ad : Addr) (c : Nat) (l : List ByteArray) (w : World) (hl : 0 < l.length) (hw : ∀ j, j < l.length → w.cell? (ad.add j) = some (.string (l.getD j ⟨#[]⟩))) (hs : ∀ j, (l.getD j ⟨#[]⟩).size ≤ 9223372036854775807)
    (ks : List Nat) (hk : ∀ k, k ∈ ks → k ≤ 3) (hsel : (l.getD 0 ⟨#[]⟩ = sDefault ∧ l.length = 4 ∧ ks = [1, 2, 3]) ∨ (l.getD 0 ⟨#[]⟩ = sRule ∧ l.length = 5 ∧ ks = [0, 1, 2, 3])) :
    Calls Tryz.prog 56 #[.slice (some ad) l.length c] w fun x w' => x = .returned (parseV (Rl.run ks l.tail Ru.zero 1)) ∧ Below w.heap.size w w' := by
  have hmm := @run_makeMap Tryz.prog
  have h0 : w.cell? ad = some (.string (l.getD 0 ⟨#[]⟩)) := by have := hw 0 hl; rwa [show ad.add 0 = ad from addr_zero ad] at this
  have had := World.block_lt_of_cell? w ad h0
  have heq1 : ∀ (w : World) (x : Addr) (l c : Nat), (binOp .eql 136 (.slice (some x) l c) (.slice none 0 0)).run Tryz.prog w = .ok (.bool false) w := fun w x l c => Lib.run_eql_slice_nil w _ _ (some x) l c 0 0 Tryz.underlying136
  have HW := Lib.hid hw; have HS := Lib.hid hs; have HK := Lib.hid hk
  clear hw hs hk
  obtain ⟨l0, hl0⟩ : ∃ l0, l0 = l.getD 0 ⟨#[]⟩ := ⟨_, rfl⟩
  obtain ⟨N, hN⟩ : ∃ N, N = l.length := ⟨_, rfl⟩
  rw [← hl0] at h0 hsel
  rw [← hN] at hsel hl ⊢
  have HL0 := Lib.hid hl0; have HN := Lib.hid hN
  clear hl0 hN
  rcases hsel with ⟨hd, hn, hks⟩ | ⟨hd, hn, hks⟩
  · have HKS := Lib.hid hks; clear hks
    subst hn
    go_enter Tryz.func56, Tryz.ntmps56
    go_wp2_with fail
    refine (rule_number_abs _ _ _).mono ?_
    rintro x w1 ⟨rfl, hB, hC, hb1, hsz⟩
    have hbw : Below w.heap.size w w1 := ((Below.refl _ _).alloc (Nat.le_refl _) _).trans (hb1.mono (by simp))
    have h1 : w1.cell? ad = some (.string l0) := (hbw.cell had).trans h0
    have h1 := fun o1 o2 o3 => cell_alloc (cell_alloc (cell_alloc h1 o1) o2) o3
    have HBW := Lib.hid hbw; clear hbw
    have HRES := Lib.hid (show Blk w1 w.heap.size #[.string ⟨#[]⟩, .int .u64 0, .int .u64 0, .int .u8 0] 37 from (Blk.new w _ 37).below hb1 (by simp))
    have hz : w.heap.size + 3 ≤ w1.heap.size := by simp at hsz; omega
    simp only [World.size_alloc] at hB hC
    have HB := Lib.hid hB; have HC := Lib.hid hC
    clear h0 hb1 hsz hB hC
    have I1 := parts_ins1 w1
    have I2 := parts_ins2 w1
    have L := parts_look w1 l0
    simp only [if_pos hd] at L
    have HD := Lib.hid hd; clear hd
    simp only [sDefault, sRule] at I1 I2 L
    unfold everyV
    go_wp2_with fail
    clear I1 I2 L h1 hmm
    go_loopw [39] (Rl.rel w ks l.tail (w1.heap.size + 1 + 1 + 1) (w1.heap.size + 1)) (fun i _ => 3 - (intOf i).toNat)
    case atStart =>
      refine ⟨0, Ru.zero, by omega, rfl, rfl, ⟨?_, by decide, by decide⟩, (((HB.out.alloc _).alloc _).alloc _).alloc _, (((HC.out.alloc _).alloc _).alloc _).alloc _, ?_, (((HRES.out.alloc _).alloc _).alloc _).alloc _, ?_⟩
      · exact Blk.new_at (by simp)
      · rw [HKS.out]
        exact ((Blk.new_at (by simp)).alloc _).alloc _
      · refine (((HBW.out.alloc ?_ _).alloc ?_ _).alloc ?_ _).alloc ?_ _
        all_goals (first | omega | (simp; done) | (simp; omega))
    case round =>
      obtain ⟨j, r, hj, rfl, hrun, hR, hB, hC, hP, hres, hb⟩ := hrel
      have HKS' := HKS.out
      have hlen : ks.length = 3 := by rw [HKS.out]; rfl
      have hll : l.tail.length = 3 := by rw [List.length_tail, ← HN.out]
      have HLL := Lib.hid hll; have HLEN := Lib.hid hlen
      rw [hlen] at hj
      clear hlen hll HKS'
      have HRUN := Lib.hid hrun; have HBC := Lib.hid hb
      clear hrun
      by_cases hlt : j < 3
      · obtain ⟨kd, hkd⟩ : ∃ kd, kd = ks.getD j 0 := ⟨_, rfl⟩
        have hkm : kd ≤ 3 := HK.out kd (by rw [hkd, List.getD_eq_getElem?_getD, List.getElem?_eq_getElem (by rw [HLEN.out]; exact hlt)]; exact List.getElem_mem _)
        obtain ⟨f, caps, hv, hen, hcall⟩ := part_call (w.heap.size + 1) kd hkm
        obtain ⟨s, hsd⟩ : ∃ s, s = l.tail.getD j ⟨#[]⟩ := ⟨_, rfl⟩
        have hst : s = l.getD (j + 1) ⟨#[]⟩ := by rw [hsd]; simp [List.getD_eq_getElem?_getD]
        have cw : wr.cell? (ad.add (j + 1)) = some (.string s) := by
          rw [hst]
          have := HW.out (j + 1) (by rw [← HN.out]; omega)
          exact (hb.cell (World.block_lt_of_cell? _ _ this)).trans this
        rw [addr_succ] at cw
        have cp : wr.cell? ⟨(w1.heap.size + 1), j, none⟩ = some (.func (.func f) #[] caps) := hP.cell_at j _ (by
          rw [← hv, hkd]
          simp [List.getD_eq_getElem?_getD, List.getElem?_eq_getElem (show j < ks.length by rw [HLEN.out]; exact hlt)])
        have HCALL := Lib.hid (hcall wr (w1.heap.size + 1 + 1 + 1) r s hR hB hC (by omega) (by rw [hst]; exact HS.out _))
        have HBB := Lib.hid hB; have HCC := Lib.hid hC; have HPP := Lib.hid hP; have HRR := Lib.hid hres
        have HST := Lib.hid hst; have HSD := Lib.hid hsd; have HKD := Lib.hid hkd; have HV := Lib.hid hv
        have hRlt := hR.1.lt
        clear hB hC hP hres hst hsd hkd hv hcall hR hb hkm
        go_wp2_with fail
        refine HCALL.out.mono ?_
        rintro x w2 ⟨rfl, hR2, hg⟩
        have hB2 := Lib.hid (HBB.out.grown hg (by simp; omega)); have hC2 := Lib.hid (HCC.out.grown hg (by simp; omega))
        have hP2 := Lib.hid (HPP.out.grown hg (by simp)); have hres2 := HRR.out.grown hg (by simp; omega)
        have hb2 := Lib.hid (below_grown HBC.out HBC.out.size hg (by omega))
        have hz2 := hg.size
        obtain ⟨e1, he1⟩ : ∃ e1, e1 = (Rl.step kd r s).1 := ⟨_, rfl⟩
        rw [← he1]
        have HE := Lib.hid he1; have HR2 := Lib.hid hR2
        clear he1 hR2 hg HCALL
        by_cases h0 : e1 = 0
        · have hne : (e1 != 0) = false := by rw [h0]; rfl
          have H0 := Lib.hid h0; have HRES2 := Lib.hid hres2; clear h0 hres2
          go_wp2
          go_roundw
          case rel =>
            refine ⟨j + 1, (Rl.step kd r s).2, by rw [HLEN.out]; omega, by simp, ?_, HR2.out, hB2.out, hC2.out, hP2.out, HRES2.out, hb2.out⟩
            have hr := run_ok (ks := ks) (ws := l.tail) (r := r) (n := 1 + j) (j := j) (by rw [HLEN.out]; exact hlt) (by rw [HLL.out]; exact hlt) (by rw [← HKD.out, ← HSD.out, ← HE.out]; exact H0.out)
            rw [HRUN.out, hr, ← HKD.out, ← HSD.out, Int.add_assoc]
            rfl
          case measure => simp [intOf]; omega
        · have hne : (e1 != 0) = true := by rw [bne_iff_ne]; exact h0
          have g1 := hres2.cell_at 0 (.string ⟨#[]⟩) rfl
          have g2 := hres2.cell_at 1 (.int .u64 0) rfl
          have g3 := hres2.cell_at 2 (.int .u64 0) rfl
          have g4 := hres2.cell_at 3 (.int .u8 0) rfl
          have fz := hres2.free
          have HRES2 := Lib.hid hres2
          have HF := Lib.hid (show Rl.run ks l.tail Ru.zero 1 = (Ru.zero, e1, (j : Int) + 1) by
            rw [HRUN.out, run_no (by rw [HLEN.out]; exact hlt) (by rw [HLL.out]; exact hlt) (by rw [← HKD.out, ← HSD.out, ← HE.out]; exact h0), ← HKD.out, ← HSD.out, ← HE.out, Int.add_comm])
          clear h0 hres2
          go_wp2
          rw [HF.out]
          refine bodyPost_ret (parse_results (r := (Ru.zero, e1, (j : Int) + 1)) w.heap.size rfl rfl rfl (((((HRES2.out).set 0 (.string ⟨#[]⟩)).set 1 (.int .u64 0)).set 2 (.int .u64 0)).set 3 (.int .u8 0))) rfl ⟨rfl, ?_⟩
          exact (((hb2.out.setCell (Nat.le_refl _) _).setCell (Nat.le_refl _) _).setCell (Nat.le_refl _) _).setCell (Nat.le_refl _) _
      · obtain rfl : j = 3 := by omega
        have HF := Lib.hid (show Rl.run ks l.tail Ru.zero 1 = (r, 0, 0) by
          rw [HRUN.out, HKS.out]; rfl)
        have q0 := hR.1.cell_at 0 (.string r.p) rfl; have q1 := hR.1.cell_at 1 (.int .u64 r.e) rfl; have q2 := hR.1.cell_at 2 (.int .u64 r.u) rfl; have q3 := hR.1.cell_at 3 (.int .u8 r.k) rfl
        have g1 := hres.cell_at 0 (.string ⟨#[]⟩) rfl
        have g2 := hres.cell_at 1 (.int .u64 0) rfl
        have g3 := hres.cell_at 2 (.int .u64 0) rfl
        have g4 := hres.cell_at 3 (.int .u8 0) rfl
        have fz := hres.free
        have HRES := Lib.hid hres
        clear hB hC hP hR hres hb
        go_wp2
        rw [HF.out]
        refine bodyPost_ret (parse_results (r := (r, 0, 0)) w.heap.size rfl rfl rfl (((((HRES.out).set 0 (.string r.p)).set 1 (.int .u64 r.e)).set 2 (.int .u64 r.u)).set 3 (.int .u8 r.k))) rfl ⟨rfl, ?_⟩
        exact (((HBC.out.setCell (Nat.le_refl _) _).setCell (Nat.le_refl _) _).setCell (Nat.le_refl _) _).setCell (Nat.le_refl _) _
  · have HKS := Lib.hid hks; clear hks
    subst hn
    go_enter Tryz.func56, Tryz.ntmps56
    go_wp2_with fail
    refine (rule_number_abs _ _ _).mono ?_
    rintro x w1 ⟨rfl, hB, hC, hb1, hsz⟩
    have hbw : Below w.heap.size w w1 := ((Below.refl _ _).alloc (Nat.le_refl _) _).trans (hb1.mono (by simp))
    have h1 : w1.cell? ad = some (.string l0) := (hbw.cell had).trans h0
    have h1 := fun o1 o2 o3 => cell_alloc (cell_alloc (cell_alloc h1 o1) o2) o3
    have HBW := Lib.hid hbw; clear hbw
    have HRES := Lib.hid (show Blk w1 w.heap.size #[.string ⟨#[]⟩, .int .u64 0, .int .u64 0, .int .u8 0] 37 from (Blk.new w _ 37).below hb1 (by simp))
    have hz : w.heap.size + 3 ≤ w1.heap.size := by simp at hsz; omega
    simp only [World.size_alloc] at hB hC
    have HB := Lib.hid hB; have HC := Lib.hid hC
    clear h0 hb1 hsz hB hC
    have I1 := parts_ins1 w1
    have I2 := parts_ins2 w1
    have L := parts_look w1 l0
    have hnd : ¬ l0 = sDefault := by rw [hd]; intro h; exact absurd (congrArg ByteArray.size h) (by decide)
    simp only [if_neg hnd, if_pos hd] at L
    clear hnd
    have HD := Lib.hid hd; clear hd
    simp only [sDefault, sRule] at I1 I2 L
    unfold everyV
    go_wp2_with fail
    clear I1 I2 L h1 hmm
    go_loopw [39] (Rl.rel w ks l.tail (w1.heap.size + 1 + 1 + 1) (w1.heap.size + 1 + 1)) (fun i _ => 4 - (intOf i).toNat)
    case atStart =>
      refine ⟨0, Ru.zero, by omega, rfl, rfl, ⟨?_, by decide, by decide⟩, (((HB.out.alloc _).alloc _).alloc _).alloc _, (((HC.out.alloc _).alloc _).alloc _).alloc _, ?_, (((HRES.out.alloc _).alloc _).alloc _).alloc _, ?_⟩
      · exact Blk.new_at (by simp)
      · rw [HKS.out]
        exact (Blk.new_at (by simp)).alloc _
      · refine (((HBW.out.alloc ?_ _).alloc ?_ _).alloc ?_ _).alloc ?_ _
        all_goals (first | omega | (simp; done) | (simp; omega))
    case round =>
      obtain ⟨j, r, hj, rfl, hrun, hR, hB, hC, hP, hres, hb⟩ := hrel
      have HKS' := HKS.out
      have hlen : ks.length = 4 := by rw [HKS.out]; rfl
      have hll : l.tail.length = 4 := by rw [List.length_tail, ← HN.out]
      have HLL := Lib.hid hll; have HLEN := Lib.hid hlen
      rw [hlen] at hj
      clear hlen hll HKS'
      have HRUN := Lib.hid hrun; have HBC := Lib.hid hb
      clear hrun
      by_cases hlt : j < 4
      · obtain ⟨kd, hkd⟩ : ∃ kd, kd = ks.getD j 0 := ⟨_, rfl⟩
        have hkm : kd ≤ 3 := HK.out kd (by rw [hkd, List.getD_eq_getElem?_getD, List.getElem?_eq_getElem (by rw [HLEN.out]; exact hlt)]; exact List.getElem_mem _)
        obtain ⟨f, caps, hv, hen, hcall⟩ := part_call (w.heap.size + 1) kd hkm
        obtain ⟨s, hsd⟩ : ∃ s, s = l.tail.getD j ⟨#[]⟩ := ⟨_, rfl⟩
        have hst : s = l.getD (j + 1) ⟨#[]⟩ := by rw [hsd]; simp [List.getD_eq_getElem?_getD]
        have cw : wr.cell? (ad.add (j + 1)) = some (.string s) := by
          rw [hst]
          have := HW.out (j + 1) (by rw [← HN.out]; omega)
          exact (hb.cell (World.block_lt_of_cell? _ _ this)).trans this
        rw [addr_succ] at cw
        have cp : wr.cell? ⟨(w1.heap.size + 1 + 1), j, none⟩ = some (.func (.func f) #[] caps) := hP.cell_at j _ (by
          rw [← hv, hkd]
          simp [List.getD_eq_getElem?_getD, List.getElem?_eq_getElem (show j < ks.length by rw [HLEN.out]; exact hlt)])
        have HCALL := Lib.hid (hcall wr (w1.heap.size + 1 + 1 + 1) r s hR hB hC (by omega) (by rw [hst]; exact HS.out _))
        have HBB := Lib.hid hB; have HCC := Lib.hid hC; have HPP := Lib.hid hP; have HRR := Lib.hid hres
        have HST := Lib.hid hst; have HSD := Lib.hid hsd; have HKD := Lib.hid hkd; have HV := Lib.hid hv
        have hRlt := hR.1.lt
        clear hB hC hP hres hst hsd hkd hv hcall hR hb hkm
        go_wp2_with fail
        refine HCALL.out.mono ?_
        rintro x w2 ⟨rfl, hR2, hg⟩
        have hB2 := Lib.hid (HBB.out.grown hg (by simp; omega)); have hC2 := Lib.hid (HCC.out.grown hg (by simp; omega))
        have hP2 := Lib.hid (HPP.out.grown hg (by simp)); have hres2 := HRR.out.grown hg (by simp; omega)
        have hb2 := Lib.hid (below_grown HBC.out HBC.out.size hg (by omega))
        have hz2 := hg.size
        obtain ⟨e1, he1⟩ : ∃ e1, e1 = (Rl.step kd r s).1 := ⟨_, rfl⟩
        rw [← he1]
        have HE := Lib.hid he1; have HR2 := Lib.hid hR2
        clear he1 hR2 hg HCALL
        by_cases h0 : e1 = 0
        · have hne : (e1 != 0) = false := by rw [h0]; rfl
          have H0 := Lib.hid h0; have HRES2 := Lib.hid hres2; clear h0 hres2
          go_wp2
          go_roundw
          case rel =>
            refine ⟨j + 1, (Rl.step kd r s).2, by rw [HLEN.out]; omega, by simp, ?_, HR2.out, hB2.out, hC2.out, hP2.out, HRES2.out, hb2.out⟩
            have hr := run_ok (ks := ks) (ws := l.tail) (r := r) (n := 1 + j) (j := j) (by rw [HLEN.out]; exact hlt) (by rw [HLL.out]; exact hlt) (by rw [← HKD.out, ← HSD.out, ← HE.out]; exact H0.out)
            rw [HRUN.out, hr, ← HKD.out, ← HSD.out, Int.add_assoc]
            rfl
          case measure => simp [intOf]; omega
        · have hne : (e1 != 0) = true := by rw [bne_iff_ne]; exact h0
          have g1 := hres2.cell_at 0 (.string ⟨#[]⟩) rfl
          have g2 := hres2.cell_at 1 (.int .u64 0) rfl
          have g3 := hres2.cell_at 2 (.int .u64 0) rfl
          have g4 := hres2.cell_at 3 (.int .u8 0) rfl
          have fz := hres2.free
          have HRES2 := Lib.hid hres2
          have HF := Lib.hid (show Rl.run ks l.tail Ru.zero 1 = (Ru.zero, e1, (j : Int) + 1) by
            rw [HRUN.out, run_no (by rw [HLEN.out]; exact hlt) (by rw [HLL.out]; exact hlt) (by rw [← HKD.out, ← HSD.out, ← HE.out]; exact h0), ← HKD.out, ← HSD.out, ← HE.out, Int.add_comm])
          clear h0 hres2
          go_wp2
          rw [HF.out]
          refine bodyPost_ret (parse_results (r := (Ru.zero, e1, (j : Int) + 1)) w.heap.size rfl rfl rfl (((((HRES2.out).set 0 (.string ⟨#[]⟩)).set 1 (.int .u64 0)).set 2 (.int .u64 0)).set 3 (.int .u8 0))) rfl ⟨rfl, ?_⟩
          exact (((hb2.out.setCell (Nat.le_refl _) _).setCell (Nat.le_refl _) _).setCell (Nat.le_refl _) _).setCell (Nat.le_refl _) _
      · obtain rfl : j = 4 := by omega
        have HF := Lib.hid (show Rl.run ks l.tail Ru.zero 1 = (r, 0, 0) by
          rw [HRUN.out, HKS.out]; rfl)
        have q0 := hR.1.cell_at 0 (.string r.p) rfl; have q1 := hR.1.cell_at 1 (.int .u64 r.e) rfl; have q2 := hR.1.cell_at 2 (.int .u64 r.u) rfl; have q3 := hR.1.cell_at 3 (.int .u8 r.k) rfl
        have g1 := hres.cell_at 0 (.string ⟨#[]⟩) rfl
        have g2 := hres.cell_at 1 (.int .u64 0) rfl
        have g3 := hres.cell_at 2 (.int .u64 0) rfl
        have g4 := hres.cell_at 3 (.int .u8 0) rfl
        have fz := hres.free
        have HRES := Lib.hid hres
        clear hB hC hP hR hres hb
        go_wp2
        rw [HF.out]
        refine bodyPost_ret (parse_results (r := (r, 0, 0)) w.heap.size rfl rfl rfl (((((HRES.out).set 0 (.string r.p)).set 1 (.int .u64 r.e)).set 2 (.int .u64 r.u)).set 3 (.int .u8 r.k))) rfl ⟨rfl, ?_⟩
        exact (((HBC.out.setCell (Nat.le_refl _) _).setCell (Nat.le_refl _) _).setCell (Nat.le_refl _) _).setCell (Nat.le_refl _) _
end Go.Proofs.YtamhpnenpoamhaaGreat

/- rule.Parse of any words answers as Rl.parse says. -/
namespace Go.Proofs.YtamhpnenpoamhaaGreat
open Go.RowKit Go.Shelf Go.Proofs.YtamhpnenpoamhaaGreatW.PrintWords

theorem rule_parse (A : Option Addr) (c : Nat) (l : List ByteArray) (w : World) (hr : Kd.C Kd.string w A l.length l) (hs : ∀ s, s ∈ l → s.size ≤ 9223372036854775807) :
    Calls Tryz.prog 56 #[.slice A l.length c] w fun x w' => x = .returned (parseV (Rl.parse l)) ∧ Below w.heap.size w w' := by
  have hsz : ∀ j, (l.getD j ⟨#[]⟩).size ≤ 9223372036854775807 := fun j => by
    rw [List.getD_eq_getElem?_getD]
    rcases Nat.lt_or_ge j l.length with h | h
    · rw [List.getElem?_eq_getElem h]; exact hs _ (List.getElem_mem h)
    · rw [List.getElem?_eq_none h]; exact Nat.zero_le _
  by_cases hl : 0 < l.length
  · have hlen := hr.2.1
    have hcell : ∃ ad, A = some ad ∧ ∀ j, j < l.length → w.cell? (ad.add j) = some (.string (l.getD j ⟨#[]⟩)) := by
      obtain ⟨ad, e, _⟩ := Kd.at_string hr 0 (by omega) (by omega)
      refine ⟨ad, e, fun j hj => ?_⟩
      obtain ⟨ad', e', h⟩ := Kd.at_string hr j (by omega) (by omega)
      obtain rfl : ad = ad' := Option.some.inj (e.symm.trans e')
      exact h
    obtain ⟨ad, rfl, hw⟩ := hcell
    by_cases c1 : l.getD 0 ⟨#[]⟩ = sDefault ∧ l.length = 4
    · have := rule_parse_run ad c l w hl hw hsz [1, 2, 3] (by decide) (.inl ⟨c1.1, c1.2, rfl⟩)
      unfold Rl.parse
      rw [if_pos c1]; exact this
    · by_cases c2 : l.getD 0 ⟨#[]⟩ = sRule ∧ l.length = 5
      · have := rule_parse_run ad c l w hl hw hsz [0, 1, 2, 3] (by decide) (.inr ⟨c2.1, c2.2, rfl⟩)
        unfold Rl.parse
        rw [if_neg c1, if_pos c2]; exact this
      · have h0 := hw 0 hl
        rw [addr_zero] at h0
        have := rule_parse_bad ad l.length c (l.getD 0 ⟨#[]⟩) w hl hlen h0 ⟨c1, c2⟩
        unfold Rl.parse
        rw [if_neg c1, if_neg c2]; exact this
  · have h0 : l.length = 0 := by omega
    have hp : Rl.parse l = (Ru.zero, 22, 0) := by unfold Rl.parse; rw [if_neg (by omega), if_neg (by omega)]
    rw [h0, hp]
    exact rule_parse_nil c A w
end Go.Proofs.YtamhpnenpoamhaaGreat
