/- Part 6 of 9 of the proof of LRowParses: lemmas and walks, gathered. -/
import Derived.Test.YtamhpnenpoamhaaGreatCp5
import Derived.Laws.FloatArith
import Derived.Laws.ComplexArith
import Derived.Test.YtamhpnenpoamhaaGreatCp4
import Derived.Defers
import Derived.Recover
import Derived.Test.YtamhpnenpoamhaaGreatCp2
set_option linter.unusedSimpArgs false
set_option linter.unusedVariables false
/- words.Split of any bytes answers as Sp.split says. -/
namespace Go.Proofs.YtamhpnenpoamhaaGreat
open Go.RowKit Go.Proofs.YtamhpnenpoamhaaGreatW.PrintWords Go.Proofs.YtamhpnenpoamhaaGreatW.PrintLast
theorem run_store_complex {P : Program} {w : World} {a : Addr} {m : Mode} (k : FloatKind) (x y : Nat) : (store a (.complex k x y) m).run P w = stored P w a (.complex k x y) m := run_store P w a _ m rfl
attribute [local go_sem] run_store_complex jumps_normal jumps_exit jumps_ret jumps_panic

def SplitPost (xs : List Int) (w0 : World) (x : Ending) (w' : World) : Prop := Below w0.heap.size w0 w' ∧
  if 1048576 < xs.length then x = .returned (.tuple #[.slice none 0 0, .int .u16 21, .agg #[.int .i64 0, .int .i64 0]]) else
  match Sp.split xs with
  | .inr (l, c) => x = .returned (.tuple #[.slice none 0 0, .int .u16 20, .agg #[.int .i64 l, .int .i64 c]])
  | .inl out => ∃ vo, (Kd.slice 76 kWd).R 74 w' w0.heap.size (fun _ => True) vo out ∧ x = .returned (.tuple #[vo, .int .u16 0, .agg #[.int .i64 0, .int .i64 0]])

theorem F_csum (a b d : Nat) (ha : a < 2 ^ 53) (hc : b + d < 2 ^ 53) : cSumBits .add .f64 (Fl.F a) (Fl.F b) (Fl.F 0) (Fl.F d) = some (Fl.F a, Fl.F (b + d)) := by
  simp [cSumBits, F_sum a 0 (by omega), F_sum b d hc]

theorem SpLeft_lt {w0 : World} {T T' : Value} {s s' : Sp} {vo vr vo' vr' : Value} {w w' : World} {n : Nat} (h : SpAt w0 T s vo vr w) (h' : SpAt w0 T' s' vo' vr' w') (hk : s'.k = s.k + 1) (hn : s.k < n) : SpLeft n 1 w0 w' < SpLeft n 1 w0 w := by
  have a := h.b5.cell_at 0 _ rfl
  have b := h'.b5.cell_at 0 _ rfl
  unfold SpLeft
  rw [a, b]
  show n - (Int.toNat s'.k) + 1 < n - (Int.toNat s.k) + 1
  omega

theorem SpAt.first (w0 : World) (T : Value) : SpAt w0 T Sp.first (.slice none 0 0) (.slice none 0 0)
    ((((((((w0.alloc (.cells #[T] 22)).alloc (.cells #[.int .i64 0, .int .i64 0] 44)).alloc (.cells #[.slice none 0 0] 64)).alloc (.cells #[.slice none 0 0] 74)).alloc (.cells #[.int .i64 0] 3)).alloc (.cells #[.int .i64 0] 3)).alloc (.cells #[.complex .f64 4607182418800017408 4607182418800017408] 103)).alloc (.cells #[.int .i64 1] 3)) := by
  refine ⟨?_, ?_, ?_, ?_, ?_, ?_, ?_, ?_, ?_, ?_, Kd.R_nil _ _ _ _ _, Kd.R_nil _ _ _ _ _⟩
  · have h : ∀ {B : Nat} {w w' : World}, B ≤ w'.heap.size → Below B w w' → ∀ o, Below B w (w'.alloc o) ∧ B ≤ (w'.alloc o).heap.size := fun hB h o => ⟨h.alloc hB o, by rw [World.size_alloc]; omega⟩
    have h0 := h (Nat.le_refl _) (Below.refl w0.heap.size w0) (.cells #[T] 22)
    have h1 := h h0.2 h0.1 (.cells #[.int .i64 0, .int .i64 0] 44)
    have h2 := h h1.2 h1.1 (.cells #[.slice none 0 0] 64)
    have h3 := h h2.2 h2.1 (.cells #[.slice none 0 0] 74)
    have h4 := h h3.2 h3.1 (.cells #[.int .i64 0] 3)
    have h5 := h h4.2 h4.1 (.cells #[.int .i64 0] 3)
    have h6 := h h5.2 h5.1 (.cells #[.complex .f64 4607182418800017408 4607182418800017408] 103)
    exact (h h6.2 h6.1 (.cells #[.int .i64 1] 3)).1
  · simp only [World.size_alloc]; omega
  · exact (((((((Blk.new_at rfl).alloc _).alloc _).alloc _).alloc _).alloc _).alloc _).alloc _
  · exact ((((((Blk.new_at (by simp only [World.size_alloc])).alloc _).alloc _).alloc _).alloc _).alloc _).alloc _
  · exact (((((Blk.new_at (by simp only [World.size_alloc])).alloc _).alloc _).alloc _).alloc _).alloc _
  · exact ((((Blk.new_at (by simp only [World.size_alloc])).alloc _).alloc _).alloc _).alloc _
  · exact (((Blk.new_at (by simp only [World.size_alloc])).alloc _).alloc _).alloc _
  · exact ((Blk.new_at (by simp only [World.size_alloc])).alloc _).alloc _
  · have := (Blk.new_at (w := (((((w0.alloc (.cells #[T] 22)).alloc (.cells #[.int .i64 0, .int .i64 0] 44)).alloc (.cells #[.slice none 0 0] 64)).alloc (.cells #[.slice none 0 0] 74)).alloc (.cells #[.int .i64 0] 3)).alloc (.cells #[.int .i64 0] 3)) (n := w0.heap.size + 6) (cs := #[.complex .f64 4607182418800017408 4607182418800017408]) (t := 103) (by simp only [World.size_alloc])).alloc (.cells #[.int .i64 1] 3)
    rw [← Fl.one_eq] at this
    exact this
  · exact Blk.new_at (by simp only [World.size_alloc])

set_option maxHeartbeats 4000000 in
set_option maxRecDepth 100000 in
theorem words_split (w0 : World) (A : Option Addr) (c : Nat) (xs : List Int) (hc : (Kd.int .u8).C w0 A xs.length xs) (hle : xs.length ≤ c) :
    Calls Tryz.prog 26 #[.slice A xs.length c] w0 (SplitPost xs w0) := by
  by_cases hx : 1048576 < xs.length
  · have hx' : (1048576 : Int) < (xs.length : Int) := by omega
    have HX := Lib.hid hx; clear hx
    have hmx := Lib.hid (Kd.C_max hc); clear hc hle
    have b0 := (Blk.new w0 #[.slice A xs.length c] 22).cell_at 0 _ rfl
    have b1 := (Blk.new (w0.alloc (.cells #[.slice A xs.length c] 22)) #[.int .i64 0, .int .i64 0] 44)
    have c0 := b1.cell_at 0 _ rfl
    have c1 := b1.cell_at 1 _ rfl
    have f0 := b1.free 0
    have f1 := b1.free 1
    rw [World.size_alloc] at c0 c1 f0 f1
    clear b1
    go_enter Tryz.func26, Tryz.ntmps26
    go_wp2
    refine wp_scope_labels' (fun _ _ _ => False) (fun _ _ _ => 0) (fun _ _ _ h => h.elim) ?_
    intro _
    go_wp2
    rw [jumps_ret]
    refine bodyPost_ret (v := .tuple #[.slice none 0 0, .int .u16 21, .agg #[.int .i64 0, .int .i64 0]]) (by simp [results, Tryz.results26, go_sem, c0, c1]) rfl ⟨((Below.refl _ _).alloc (Nat.le_refl _) _).alloc (by simp) _, ?_⟩
    rw [if_pos HX.out]
  · have hx' : (xs.length : Int) ≤ (1048576 : Int) := by omega
    have hmf : ∀ (fn : Fn) (first cap : Array Value) (w : World), (Instr.makeFunc fn first cap).run Tryz.prog w = .ok (.func fn first cap) w := fun _ _ _ _ => rfl
    have z6 := Blk.new ((((((w0.alloc (.cells #[.slice A xs.length c] 22)).alloc (.cells #[.int .i64 0, .int .i64 0] 44)).alloc (.cells #[.slice none 0 0] 64)).alloc (.cells #[.slice none 0 0] 74)).alloc (.cells #[.int .i64 0] 3)).alloc (.cells #[.int .i64 0] 3)) #[.complex .f64 0 0] 103
    simp only [World.size_alloc] at z6
    have c6 := z6.cell_at 0 _ rfl
    have f6 := z6.free 0
    have z7 := Blk.new (((((((w0.alloc (.cells #[.slice A xs.length c] 22)).alloc (.cells #[.int .i64 0, .int .i64 0] 44)).alloc (.cells #[.slice none 0 0] 64)).alloc (.cells #[.slice none 0 0] 74)).alloc (.cells #[.int .i64 0] 3)).alloc (.cells #[.int .i64 0] 3)).alloc (.cells #[.complex .f64 0 0] 103)) #[.int .i64 0] 3
    simp only [World.size_alloc] at z7
    have c7 := z7.cell_at 0 _ rfl
    have f7 := z7.free 0
    clear z6 z7
    have HC := Lib.hid hc; have HLE := Lib.hid hle; have HX := Lib.hid hx; clear hc hle hx
    go_enter Tryz.func26, Tryz.ntmps26
    go_wp2
    refine wp_scope_labels' (SpJ w0 A c xs) (fun l _ w => SpLeft xs.length l w0 w) ?_ ?_
    · rintro l a w ⟨s, vo, vr, T, hT, h, g, hr, hl, u8, u14, u15, u16, u17, u18, u19, u20, u21, u22, u23, u24, u25, u26, u27, u28, u29, u30, u31, u32, u33, u34, u35, u36, u37, u38, u39, u40, u41, u42, u43, u44, u45, u46, u47, u48, u49, u50, u51, u52, u53, u54, u55, u56, u57, u58, u59, u60, u61, u62, u63, u64, rfl⟩
      subst hT
      have HRUN := Lib.hid hr; clear hr
      have hle := HX.out
      have hgk := g.k
      have hgl := g.l
      have hgc := g.c
      have hgw := g.was
      have hgo := g.out
      have ho := g.out
      have G := Lib.hid g; clear g
      have r0 := h.b0.cell_at 0 _ rfl
      have r5 := h.b5.cell_at 0 _ rfl
      have H := Lib.hid h; clear h
      rcases hl with rfl | ⟨rfl, hk⟩
      · by_cases hk : s.k = xs.length
        · have hkk : ((s.k : Int) == (xs.length : Int)) = true := by rw [hk]; simp
          have HK := Lib.hid hk; clear hk
          refine ⟨_, rfl, ?_⟩
          go_wp2
          go_step3
          rw [then_goto]
          refine goto_in ?_
          refine ⟨SpJ.mk rfl H.out G.out HRUN.out (.inr ⟨rfl, HK.out⟩), ?_⟩
          show (0 : Nat) < SpLeft xs.length 1 w0 w
          unfold SpLeft
          rw [r5]
          exact Nat.succ_pos _
        · have hkl : s.k < xs.length := by omega
          have hkk : ((s.k : Int) == (xs.length : Int)) = false := by rw [beq_eq_false_iff_ne]; omega
          clear hk
          obtain ⟨ad, hA, hcell⟩ := Kd.at_int (Kd.C_below HC.out H.out.bel) s.k (by omega) (by omega)
          subst hA
          rw [Int.toNat_natCast] at hcell
          obtain ⟨b, hb⟩ : ∃ b, b = rd xs s.k := ⟨_, rfl⟩
          rw [← hb] at hcell
          have hdrop : xs.drop s.k = b :: xs.drop (s.k + 1) := by
            rw [List.drop_eq_getElem_cons hkl, hb]; simp [rd, List.getD_eq_getElem?_getD, List.getElem?_eq_getElem hkl]
          have HRN := Lib.hid (show (if Sp.kind b = 3 then Sum.inr (s.l, s.c) else Sp.run xs (xs.drop (s.k + 1)) (s.put xs (Sp.kind b))) = Sp.split xs by rw [← HRUN.out, hdrop]; rfl)
          have HD := Lib.hid (fun w => words_kind b w); clear hdrop hb HRUN
          have hq4 := Sp.kind_le b
          obtain ⟨q, hq⟩ : ∃ q, q = Sp.kind b := ⟨_, rfl⟩
          rw [← hq] at HRN HD hq4
          clear hq
          refine ⟨_, rfl, ?_⟩
          rcases (show q = 3 ∨ (q = 0 ∧ s.was = 0) ∨ (q = 0 ∧ s.was ≠ 0) ∨ q = 1 ∨ q = 2 by omega) with rfl | ⟨rfl, hw0⟩ | ⟨rfl, hw0⟩ | rfl | rfl
          · have HP := Lib.hid (fun w => words_place s.l s.c w (by omega) (by omega))
            have r6 := H.out.b6.cell_at 0 _ rfl
            have HS := Lib.hid (show Sp.split xs = .inr (s.l, s.c) by rw [← HRN.out, if_pos rfl])
            go_wp2_with (first
              | (go_at_call 53; refine (HD.out _).mono ?_; rintro e w2 ⟨rfl, rfl⟩)
              | (go_at_call 51; refine (HP.out _).mono ?_; rintro e w1 ⟨rfl, hb1⟩; have H1 := Lib.hid (H.out.step hb1); clear hb1; have c10 := H1.out.b1.cell_at 0 _ rfl; have c11 := H1.out.b1.cell_at 1 _ rfl; have f10 := H1.out.b1.free 0; have f11 := H1.out.b1.free 1))
            rw [jumps_ret]
            refine bodyPost_ret (v := .tuple #[.slice none 0 0, .int .u16 20, .agg #[.int .i64 s.l, .int .i64 s.c]]) (by simp [results, Tryz.results26, go_sem, c10, c11]) rfl ?_
            have hs3 := H1.out.size
            have hss : ∀ (w : World) (a : Addr) (v : Value), (w.setCell a v).heap.size = w.heap.size := fun w a v => by simp [World.setCell]
            refine ⟨below_grown (below_grown H1.out.bel (by omega) (grown_set w1 (w0.heap.size + 1) 0 _) (by omega)) (by rw [hss]; omega) (grown_set _ (w0.heap.size + 1) 1 _) (by omega), ?_⟩
            rw [if_neg (by omega), HS.out]
          · have hwb : ((s.was : Int) != 0) = false := by rw [hw0]; rfl
            have HP := Lib.hid (show s.put xs 0 = s.col.ends 0 by unfold Sp.put Sp.begin; rw [if_pos rfl, if_pos hw0])
            clear hw0
            have cd := fun w => run_complex_sum (P := Tryz.prog) w .add (.inl rfl) 103 .f64 _ _ _ _ _ _ (F_csum s.l s.c 1 (by omega) (by omega))
            rw [Fl.zero_eq, Fl.one_eq] at cd
            have r7 := H.out.b7.cell_at 0 _ rfl
            have g7 := H.out.b7.free 0
            have r6 := H.out.b6.cell_at 0 _ rfl
            have g6 := H.out.b6.free 0
            have g5 := H.out.b5.free 0
            have r4 := H.out.b4.cell_at 0 _ rfl
            have g4 := H.out.b4.free 0
            go_wp2_with (go_at_call 53; refine (HD.out _).mono ?_; rintro e w2 ⟨rfl, rfl⟩)
            go_step3
            rw [then_goto]
            refine goto_in ?_
            have C := ((H.out.set6 s.l (s.c + 1)).set7 0).set5 (s.k + 1)
            have hR2 : Sp.run xs (xs.drop (s.put xs 0).k) (s.put xs 0) = Sp.split xs := by
              have := HRN.out
              rw [if_neg (by decide)] at this
              rw [show (s.put xs 0).k = s.k + 1 by rw [HP.out]; rfl]
              exact this
            have hG2 := Sp.good_put G.out hkl 0 (by decide)
            rw [HP.out] at hR2 hG2
            exact ⟨SpJ.mk rfl C hG2 hR2 (.inl rfl), SpLeft_lt H.out C rfl hkl⟩
          · have hwb : ((s.was : Int) != 0) = true := by rw [bne_iff_ne]; omega
            have HP := Lib.hid (show s.put xs 0 = ({ s with fr := s.k } : Sp).col.ends 0 by unfold Sp.put Sp.begin; rw [if_pos rfl, if_neg hw0])
            clear hw0
            have cd := fun w => run_complex_sum (P := Tryz.prog) w .add (.inl rfl) 103 .f64 _ _ _ _ _ _ (F_csum s.l s.c 1 (by omega) (by omega))
            rw [Fl.zero_eq, Fl.one_eq] at cd
            have r7 := H.out.b7.cell_at 0 _ rfl
            have g7 := H.out.b7.free 0
            have r6 := H.out.b6.cell_at 0 _ rfl
            have g6 := H.out.b6.free 0
            have g5 := H.out.b5.free 0
            have r4 := H.out.b4.cell_at 0 _ rfl
            have g4 := H.out.b4.free 0
            go_wp2_with (go_at_call 53; refine (HD.out _).mono ?_; rintro e w2 ⟨rfl, rfl⟩)
            go_step3
            rw [then_goto]
            refine goto_in ?_
            have C := (((H.out.set4 s.k).set6 s.l (s.c + 1)).set7 0).set5 (s.k + 1)
            have hR2 : Sp.run xs (xs.drop (s.put xs 0).k) (s.put xs 0) = Sp.split xs := by
              have := HRN.out
              rw [if_neg (by decide)] at this
              rw [show (s.put xs 0).k = s.k + 1 by rw [HP.out]; rfl]
              exact this
            have hG2 := Sp.good_put G.out hkl 0 (by decide)
            rw [HP.out] at hR2 hG2
            exact ⟨SpJ.mk rfl C hG2 hR2 (.inl rfl), SpLeft_lt H.out C rfl hkl⟩
          · have cd := fun w => run_complex_sum (P := Tryz.prog) w .add (.inl rfl) 103 .f64 _ _ _ _ _ _ (F_csum s.l s.c 1 (by omega) (by omega))
            rw [Fl.zero_eq, Fl.one_eq] at cd
            have HKF := Sp.keep_fields xs s
            have HKC := Lib.hid (split_keep w0 (some ad) c xs s vo vr w HC.out HLE.out (by omega) G.out H.out)
            obtain ⟨s2, hs2⟩ : ∃ s2, s2 = s.keep xs := ⟨_, rfl⟩
            have HP := Lib.hid (show s.put xs 1 = s2.col.ends 1 by rw [hs2]; rfl)
            rw [← hs2] at HKF HKC
            obtain ⟨-, -, e3, e4, e5, -⟩ := HKF
            clear hs2
            rw [← e4, ← e5] at cd
            have h2k : s2.k ≤ 1048576 := by omega
            have HE3 := Lib.hid e3; clear e3 e4 e5
            go_wp2_with (first
              | (go_at_call 53; refine (HD.out _).mono ?_; rintro e w2 ⟨rfl, rfl⟩)
              | (go_at_call 50; refine HKC.out.mono ?_; rintro e w2 ⟨rfl, vr2, h2⟩; have a6 := h2.b6.cell_at 0 _ rfl; have g6 := h2.b6.free 0; have a5 := h2.b5.cell_at 0 _ rfl; have g5 := h2.b5.free 0; have a7 := h2.b7.cell_at 0 _ rfl; have g7 := h2.b7.free 0; have H2 := Lib.hid h2; clear h2))
            have := HE3.out
            go_step3
            rw [then_goto]
            refine goto_in ?_
            have C := ((H2.out.set6 s2.l (s2.c + 1)).set7 1).set5 (s2.k + 1)
            have hR2 : Sp.run xs (xs.drop (s.put xs 1).k) (s.put xs 1) = Sp.split xs := by
              have := HRN.out
              rw [if_neg (by decide)] at this
              rw [show (s.put xs 1).k = s.k + 1 by rw [HP.out]; show s2.k + 1 = s.k + 1; omega]
              exact this
            have hG2 := Sp.good_put G.out hkl 1 (by decide)
            rw [HP.out] at hR2 hG2
            exact ⟨SpJ.mk rfl C hG2 hR2 (.inl rfl), SpLeft_lt H.out C (show s2.k + 1 = s.k + 1 by omega) hkl⟩
          · have cd := fun w => run_complex_sum (P := Tryz.prog) w .add (.inl rfl) 103 .f64 _ _ _ _ _ _ (F_csum s.l s.c 1 (by omega) (by omega))
            rw [Fl.zero_eq, Fl.one_eq] at cd
            have fd := fun w => run_float_arith (P := Tryz.prog) w .add 105 .f64 _ _ _ (F_sum s.l 1 (by omega))
            rw [Fl.one_eq] at fd
            have HKF := Sp.keep_fields xs s
            have HGK := Lib.hid (Sp.good_keep G.out)
            have HKC := Lib.hid (split_keep w0 (some ad) c xs s vo vr w HC.out HLE.out (by omega) G.out H.out)
            obtain ⟨s2, hs2⟩ : ∃ s2, s2 = s.keep xs := ⟨_, rfl⟩
            have HP := Lib.hid (show s.put xs 2 = s2.col.line.ends 2 by rw [hs2]; rfl)
            rw [← hs2] at HKF HKC HGK
            obtain ⟨e1, -, e3, e4, e5, -⟩ := HKF
            clear hs2
            rw [← e4, ← e5] at cd
            rw [← e4] at fd
            have h2k : s2.k ≤ 1048576 := by omega
            have h2o : s2.out.length ≤ 1048576 := by rw [e1]; omega
            have HE3 := Lib.hid e3; clear e1 e3 e4 e5
            go_wp2_with (first
              | (go_at_call 53; refine (HD.out _).mono ?_; rintro e w2 ⟨rfl, rfl⟩)
              | (go_at_call 50; refine HKC.out.mono ?_; rintro e w2 ⟨rfl, vr2, h2⟩; have a6 := h2.b6.cell_at 0 _ rfl; have g6 := h2.b6.free 0; have H2 := Lib.hid h2; clear h2)
              | (go_at_call 52; refine (split_lay w0 _ { s2 with l := s2.l, c := s2.c + 1 } vo vr2 _ h2o HGK.out.1 (H2.out.set6 s2.l (s2.c + 1))).mono ?_; rintro e w3 ⟨rfl, vo3, h3⟩; have b6 : w3.cell? ⟨w0.heap.size + 6, 0, none⟩ = some (.complex .f64 (Fl.F s2.l) (Fl.F (s2.c + 1))) := h3.b6.cell_at 0 _ rfl; have i6 := h3.b6.free 0; have b5 : w3.cell? ⟨w0.heap.size + 5, 0, none⟩ = some (.int .i64 s2.k) := h3.b5.cell_at 0 _ rfl; have i5 := h3.b5.free 0; have b7 := h3.b7.cell_at 0 _ rfl; have i7 := h3.b7.free 0; have H3 := Lib.hid h3; clear h3))
            rw [← Fl.one_eq]
            have := HE3.out
            go_step3
            rw [then_goto]
            refine goto_in ?_
            have C := ((H3.out.set6 (s2.l + 1) 1).set7 2).set5 (s2.k + 1)
            have hR2 : Sp.run xs (xs.drop (s.put xs 2).k) (s.put xs 2) = Sp.split xs := by
              have := HRN.out
              rw [if_neg (by decide)] at this
              rw [show (s.put xs 2).k = s.k + 1 by rw [HP.out]; show s2.k + 1 = s.k + 1; omega]
              exact this
            have hG2 := Sp.good_put G.out hkl 2 (by decide)
            rw [HP.out] at hR2 hG2
            exact ⟨SpJ.mk rfl C hG2 hR2 (.inl rfl), SpLeft_lt H.out C (show s2.k + 1 = s.k + 1 by omega) hkl⟩
      · refine ⟨_, rfl, ?_⟩
        have HGK := Lib.hid (Sp.good_keep G.out)
        have HKF := Lib.hid (Sp.keep_fields xs s)
        have HK := Lib.hid hk; clear hk
        go_wp2_with (first
          | (go_at_call 50; refine (split_keep w0 A c xs s vo vr _ HC.out HLE.out (by omega) G.out H.out).mono ?_; rintro e w2 ⟨rfl, vr2, h2⟩; have H2 := Lib.hid h2; clear h2)
          | (go_at_call 52; refine (split_lay w0 _ (s.keep xs) vo vr2 _ (by rw [HKF.out.1]; omega) HGK.out.1 H2.out).mono ?_; rintro e w3 ⟨rfl, vo3, h3⟩; have c2 := h3.b2.cell_at 0 _ rfl; have c10 := h3.b1.cell_at 0 _ rfl; have c11 := h3.b1.cell_at 1 _ rfl; have f10 := h3.b1.free 0; have f11 := h3.b1.free 1; have H3 := Lib.hid h3; clear h3))
        rw [jumps_ret]
        have HSP := Lib.hid (show Sp.split xs = .inl (s.keep xs).lay.out by rw [← HRUN.out, HK.out, List.drop_length]; rfl)
        refine bodyPost_ret (v := .tuple #[vo3, .int .u16 0, .agg #[.int .i64 0, .int .i64 0]]) (by simp [results, Tryz.results26, go_sem, c10, c11]) rfl ?_
        have hs3 := H3.out.size
        have hss : ∀ (w : World) (a : Addr) (v : Value), (w.setCell a v).heap.size = w.heap.size := fun w a v => by simp [World.setCell]
        refine ⟨below_grown (below_grown H3.out.bel (by omega) (grown_set w3 (w0.heap.size + 1) 0 _) (by omega)) (by rw [hss]; omega) (grown_set _ (w0.heap.size + 1) 1 _) (by omega), ?_⟩
        rw [if_neg (by omega), HSP.out]
        exact ⟨vo3, Kd.R_lower (R_low (R_low (Kd.R_mono H3.out.out (fun _ _ => trivial)) (by omega) 0 _) (by omega) 1 _) (by omega), rfl⟩
    · intro land
      have Land := Lib.hid land; clear land
      go_wp2
      go_step3
      refine jump_in ?_
      apply_assumption
      exact Land.out 1 _ _ _ (by rfl) (SpJ.mk rfl (SpAt.first w0 _) (Sp.good_first xs) rfl (.inl rfl))
end Go.Proofs.YtamhpnenpoamhaaGreat

/- The reference's words of a line. -/
namespace Go.Proofs.YtamhpnenpoamhaaGreat
open Go.RowKit Go.Proofs.YtamhpnenpoamhaaGreatW.PrintWords Go.Proofs.YtamhpnenpoamhaaGreatW.PrintLast

theorem cut_C {α : Type} (d : Kd α) {P : Program} (t e : TypeId) {i : TypeInfo} (ht : P.underlying t = some (.slice e)) (hi : P.info? e = some i) (hsz : i.size = d.sz) (A : Option Addr) (c : Nat) (xs : List α) (lo hi' : Nat) (h1 : lo ≤ hi') (h2 : hi' ≤ xs.length) (hc : xs.length ≤ c) :
    ∃ A' : Option Addr, (∀ W : World, (Instr.slice t (.slice A xs.length c) (some (.int .i64 lo)) (some (.int .i64 hi')) none).run P W = .ok (.slice A' (hi' - lo) (c - lo)) W) ∧ ∀ w, d.C w A xs.length xs → d.C w A' (hi' - lo) ((xs.take hi').drop lo) := by
  have hl : ((xs.take hi').drop lo).length = hi' - lo := by rw [List.length_drop, List.length_take]; omega
  refine ⟨if c = lo then A else A.map (·.add (lo * d.sz)), fun W => ?_, fun w h => ?_⟩
  · have := cut_mid t e .i64 .i64 ht hi d.sz hsz A xs.length c lo hi' (by omega) (by omega) (by omega) hc W
    rwa [Int.toNat_natCast, Int.toNat_natCast] at this
  · have := Kd.C_mid (c := c) h h1 h2 hc
    rwa [hl] at this

namespace Sq
theorem blank_kind {b : Int} (h : Sp.kind b ≤ 1) : isBlank b = decide (Sp.kind b = 1) := by
  unfold isBlank Sp.kind at *
  split at h
  · omega
  · rename_i h10
    rw [if_neg h10]
    by_cases hb : b = 32 ∨ b = 9
    · rw [if_pos hb]; rcases hb with rfl | rfl <;> rfl
    · rw [if_neg hb]
      have e1 : (b == 32) = false := beq_eq_false_iff_ne.2 (fun h => hb (.inl h))
      have e2 : (b == 9) = false := beq_eq_false_iff_ne.2 (fun h => hb (.inr h))
      rw [e1, e2]
      split <;> rfl
theorem kind_range {b : Int} (h : Sp.kind b = 0) : 0 ≤ b ∧ b ≤ 255 := by
  unfold Sp.kind at h
  split at h
  · omega
  · split at h
    · omega
    · split at h
      · omega
      · omega
theorem put_blank {q : Sq} {b : Int} (h : Sp.kind b = 1) : (q.put b).keep = q.keep ∧ (q.put b).cur = [] := by
  unfold put
  rw [if_neg (by omega), if_neg (by omega)]
  exact ⟨by unfold keep; rw [if_pos rfl], rfl⟩
theorem put_byte {q : Sq} {b : Int} (h : Sp.kind b = 0) : (q.put b).row = q.row ∧ (q.put b).cur = q.cur ++ [b] := by
  unfold put
  rw [if_pos h]
  exact ⟨rfl, rfl⟩
theorem some_word {b : Int} {r : List Int} {l c : Nat} {t : List Wd} (h : Sp.kind b = 0) : Sp.some? (⟨strOfNums (b :: r), l, c⟩ :: t) = !(b == 35) := by
  have := kind_range h
  show (!(bt (strOfNums (b :: r)) 0 == 35)) = _
  rw [strOf_head b r this.1 this.2]
theorem word_head {ys : List Int} {k j : Nat} (h1 : k < j) (h2 : j ≤ ys.length) : ∃ r, (ys.take j).drop k = ys.getD k 0 :: r := by
  have h : k < (ys.take j).length := by rw [List.length_take]; omega
  refine ⟨(ys.take j).drop (k + 1), ?_⟩
  rw [List.drop_eq_getElem_cons h, List.getElem_take, List.getD_eq_getElem?_getD, List.getElem?_eq_getElem (by omega)]; rfl
theorem some_snoc {l : List Wd} {x : Wd} (h : Sp.some? l = true) : Sp.some? (l ++ [x]) = true := by
  cases l with
  | nil => simp [Sp.some?] at h
  | cons a b => exact h
end Sq
/-- Where the reference's line stands at byte k, out of a word. -/
structure LineAt (w : World) (n : Nat) (ys : List Int) (k : Nat) (v : Value) (wr : World) : Prop where
  bel : Below w.heap.size w wr
  row : kWd.R 76 wr w.heap.size (fun _ => True) v (Sq.st n (ys.take k)).keep
  stop : (Sq.st n (ys.take k)).cur = [] ∨ k = ys.length ∨ Sp.kind (ys.getD k 0) = 1
  some : (Sq.st n (ys.take k)).keep = [] ∨ Sp.some? (Sq.st n (ys.take k)).keep = true
  few : (Sq.st n (ys.take k)).keep.length ≤ k
theorem take_next {ys : List Int} {k : Nat} (hk : k < ys.length) : ys.take (k + 1) = ys.take k ++ [ys.getD k 0] := by
  rw [List.take_succ_eq_append_getElem hk, List.getD_eq_getElem?_getD, List.getElem?_eq_getElem hk]; rfl
theorem LineAt.blank {w : World} {n : Nat} {ys : List Int} {k : Nat} {v : Value} {wr : World} (h : LineAt w n ys k v wr) (hk : k < ys.length) (hb : Sp.kind (ys.getD k 0) = 1) : LineAt w n ys (k + 1) v wr := by
  have e := Sq.put_blank (q := Sq.st n (ys.take k)) hb
  rw [← Sq.st_snoc, ← take_next hk] at e
  exact ⟨h.bel, by rw [e.1]; exact h.row, .inl e.2, by rw [e.1]; exact h.some, by rw [e.1]; have := h.few; omega⟩
/-- The word from k to j is whole. -/
theorem line_word {n : Nat} {ys : List Int} {k j : Nat} (hkj : k < j) (hj : j ≤ ys.length) (hk : ∀ b ∈ ys, Sp.kind b ≤ 1) (hr : (Sq.st n (ys.take j)).row = (Sq.st n (ys.take k)).keep) (hc : (Sq.st n (ys.take j)).cur = (ys.take j).drop k) :
    (Sq.st n (ys.take j)).keep = (Sq.st n (ys.take k)).keep ++ [⟨strOfNums ((ys.take j).drop k), n, k + 1⟩] := by
  have hl : ((ys.take j).drop k).length = j - k := by rw [List.length_drop, List.length_take]; omega
  have hne : (ys.take j).drop k ≠ [] := fun e => by rw [e] at hl; simp at hl; omega
  obtain ⟨_, f2, f3⟩ := Sq.st_fields n (ys.take j) (fun b hb => hk b (List.mem_of_mem_take hb))
  have e : (Sq.st n (ys.take j)).keep = (Sq.st n (ys.take j)).row ++ [⟨strOfNums (Sq.st n (ys.take j)).cur, (Sq.st n (ys.take j)).l, (Sq.st n (ys.take j)).c - (Sq.st n (ys.take j)).cur.length⟩] := by
    unfold Sq.keep; rw [if_neg (by rw [hc]; exact hne)]
  rw [e, hr, hc, f2, f3, hl, List.length_take, show min j ys.length + 1 - (j - k) = k + 1 by omega]

set_option maxHeartbeats 4000000 in
set_option maxRecDepth 100000 in
theorem ref_line (A : Option Addr) (c : Nat) (ys : List Int) (n : Nat) (w : World) (hC : (Kd.int .u8).C w A ys.length ys) (hle : ys.length ≤ c) (hk : ∀ b ∈ ys, Sp.kind b ≤ 1) (hsz : ys.length ≤ 1048576) :
    Calls Tryz.prog 63 #[.slice A ys.length c, .int .i64 n] w fun x w' => ∃ v, x = .returned v ∧ kWd.R 76 w' w.heap.size (fun _ => True) v (Sq.line n ys) ∧ Below w.heap.size w w' := by
  have HC := Lib.hid hC; have HK := Lib.hid hk
  have hmax : (ys.length : Int) ≤ 1048576 := by omega
  obtain ⟨iu, hiu, hsu⟩ := Option.map_eq_some_iff.1 (show (Tryz.prog.info? 5).map (fun i => i.size) = some 1 by kernel_rfl)
  have CUT := Lib.hid (cut_C (P := Tryz.prog) (Kd.int .u8) 22 5 (by kernel_rfl) hiu hsu A c ys)
  clear hC hk hiu hsu
  go_enter Tryz.func63, Tryz.ntmps63
  go_wp2
  go_loopw [5, 6] (fun v iv wr => ∃ (k : Nat), iv = .int .i64 k ∧ k ≤ ys.length ∧ Aside1 (LineAt w n ys k v wr)) (fun _ iv _ => ys.length - (intOf iv).toNat)
  case atStart => exact ⟨0, rfl, Nat.zero_le _, ⟨⟨Below.refl _ _, Kd.R_nil _ _ _ _ _, .inl rfl, .inl rfl, Nat.zero_le _⟩⟩⟩
  case round =>
    obtain ⟨k, rfl, hk, HI⟩ := hrel
    have HI := Lib.hid HI.out
    by_cases hlt : k < ys.length
    · have hltz : (k : Int) < (ys.length : Int) := by omega
      obtain ⟨ad, hA, p0⟩ := Kd.at_int (Kd.C_below HC.out HI.out.bel) k (by omega) (by omega)
      have hA' := hA
      subst hA
      rw [Int.toNat_natCast] at p0
      have hbk : Sp.kind (ys.getD k 0) ≤ 1 := HK.out _ (by rw [List.getD_eq_getElem?_getD, List.getElem?_eq_getElem hlt]; exact List.getElem_mem hlt)
      have hrd : rd ys (k : Int) = ys.getD k 0 := by simp [rd]
      rw [hrd] at p0
      have BK := Lib.hid (Sq.blank_kind hbk)
      obtain ⟨b, hb⟩ : ∃ b, b = ys.getD k 0 := ⟨_, rfl⟩
      rw [← hb] at p0 BK
      have HBB := Lib.hid hb
      clear hA' hrd hb
      by_cases hb1 : Sp.kind (ys.getD k 0) = 1
      · rw [← HBB.out] at hb1
        have hbt : isBlank b = true := by rw [BK.out]; exact decide_eq_true hb1
        have HN := Lib.hid (HI.out.blank hlt (by rw [← HBB.out]; exact hb1))
        clear hbk hb1
        go_wp2_with fail
        refine (ref_blank b _).mono ?_
        rw [hbt]
        rintro x w2 ⟨rfl, rfl⟩
        go_wp2
        go_roundw
        case rel => exact ⟨k + 1, by go_num, by omega, ⟨HN.out⟩⟩
        case measure => simp [intOf]; omega
      · have hbt : isBlank b = false := by rw [BK.out, HBB.out]; exact decide_eq_false hb1
        have HCU := Lib.hid (show (Sq.st n (ys.take k)).cur = [] by
          rcases HI.out.stop with h | h | h
          · exact h
          · omega
          · exact absurd h hb1)
        have HRO := Lib.hid (show (Sq.st n (ys.take k)).row = (Sq.st n (ys.take k)).keep by unfold Sq.keep; rw [if_pos HCU.out])
        have HB0 := Lib.hid (show Sp.kind b = 0 by rw [HBB.out]; omega)
        obtain ⟨A1, c1, hv1⟩ := Kd.R_slice HI.out.row
        subst hv1
        clear hbk hb1
        go_wp2_with fail
        refine (ref_blank b _).mono ?_
        rw [hbt]
        rintro x w2 ⟨rfl, rfl⟩
        go_wp2
        go_loop [6] (fun iv => ∃ (j : Nat), iv = .int .i64 j ∧ k ≤ j ∧ j ≤ ys.length ∧ Aside1 ((Sq.st n (ys.take j)).row = (Sq.st n (ys.take k)).keep ∧ (Sq.st n (ys.take j)).cur = (ys.take j).drop k)) (fun iv => ys.length - (intOf iv).toNat)
        case atStart => exact ⟨k, rfl, Nat.le_refl _, hk, ⟨⟨HRO.out, by rw [HCU.out, List.drop_of_length_le (by rw [List.length_take]; omega)]⟩⟩⟩
        case round =>
          obtain ⟨j, rfl, hkj, hj, HJ⟩ := hrel
          by_cases hstep : j < ys.length ∧ Sp.kind (ys.getD j 0) = 0
          · obtain ⟨hjl, hj0⟩ := hstep
            have hjz : (j : Int) < (ys.length : Int) := by omega
            obtain ⟨ad', e', q0⟩ := Kd.at_int (Kd.C_below HC.out HI.out.bel) j (by omega) (by omega)
            obtain rfl : ad = ad' := Option.some.inj e'
            rw [Int.toNat_natCast, show rd ys (j : Int) = ys.getD j 0 by simp [rd]] at q0
            have BJ := Lib.hid (Sq.blank_kind (b := ys.getD j 0) (by omega))
            have HN := Lib.hid (show (Sq.st n (ys.take (j + 1))).row = (Sq.st n (ys.take k)).keep ∧ (Sq.st n (ys.take (j + 1))).cur = (ys.take (j + 1)).drop k by
              rw [take_next hjl, Sq.st_snoc]
              obtain ⟨x1, x2⟩ := Sq.put_byte (q := Sq.st n (ys.take j)) hj0
              rw [x1, x2, HJ.out.1, HJ.out.2, List.drop_append_of_le_length (by rw [List.length_take]; omega)]
              exact ⟨rfl, rfl⟩)
            obtain ⟨bj, hbj⟩ : ∃ b, b = ys.getD j 0 := ⟨_, rfl⟩
            rw [← hbj] at q0 BJ hj0
            have hbt2 : isBlank bj = false := by rw [BJ.out]; exact decide_eq_false (by omega)
            clear hbj hj0 e'
            go_wp2_with fail
            refine (ref_blank bj _).mono ?_
            rw [hbt2]
            rintro x w2 ⟨rfl, rfl⟩
            go_wp2
            go_round
            case rel => exact ⟨j + 1, by go_num, by omega, by omega, ⟨HN.out⟩⟩
            case measure => simp [intOf]; omega
          · have hstop : j = ys.length ∨ j < ys.length ∧ Sp.kind (ys.getD j 0) = 1 := by
              by_cases hjl : j < ys.length
              · have : Sp.kind (ys.getD j 0) ≤ 1 := HK.out _ (by rw [List.getD_eq_getElem?_getD, List.getElem?_eq_getElem hjl]; exact List.getElem_mem hjl)
                exact .inr ⟨hjl, by
                  rcases Nat.lt_or_ge (Sp.kind (ys.getD j 0)) 1 with h | h
                  · exact absurd ⟨hjl, by omega⟩ hstep
                  · omega⟩
              · exact .inl (by omega)
            have hkj' : k < j := by
              rcases Nat.lt_or_ge k j with h | h
              · exact h
              · exfalso
                obtain rfl : k = j := by omega
                exact hstep ⟨hlt, by rw [← HBB.out]; exact HB0.out⟩
            have HW := Lib.hid (line_word hkj' hj HK.out HJ.out.1 HJ.out.2)
            have HSTOP := Lib.hid hstop
            obtain ⟨A', hsl, hC'⟩ := CUT.out k j hkj hj hle
            have hcv := Kd.C_string (P := Tryz.prog) (c := c - k) (src := 22) (dst := 9) (e := 5) (by kernel_rfl) (by kernel_rfl) (by kernel_rfl) (hC' wr (Kd.C_below HC.out HI.out.bel))
            obtain ⟨S, hS⟩ : ∃ S, S = strOfNums ((ys.take j).drop k) := ⟨_, rfl⟩
            rw [← hS] at hcv HW
            have HS := Lib.hid hS
            have hM : kWd.M wr w.heap.size (fun _ => False) ⟨S, n, k + 1⟩ [.string S, .int .i64 n, .int .i64 ((k : Int) + 1)] := kWd_M (x := ⟨S, n, k + 1⟩)
            have HM := Lib.hid hM
            have hfew := HI.out.few
            have HJ' := Lib.hid HJ.out
            have jk0 : (j : Int).toNat - (k : Int).toNat = j - k := by omega
            clear hstop hstep hC' hS hM HJ
            have hjc : (j : Int) ≤ (ys.length : Int) := by omega
            have hkjc : (k : Int) ≤ (j : Int) := by omega
            by_cases hR0 : (Sq.st n (ys.take k)).keep = []
            · have hl0 : (((Sq.st n (ys.take k)).keep.length : Int) == 0) = true := by rw [hR0]; rfl
              have HR0 := Lib.hid hR0; clear hR0
              by_cases h35 : b = 35
              · have b35 : (b == 35) = true := by rw [h35]; rfl
                have HF := Lib.hid (show Sq.line n ys = [] by
                  obtain ⟨t, ht⟩ := Sq.keep_mono n ys j hj HK.out (HSTOP.out.imp id (fun h => h.2))
                  obtain ⟨r, hr⟩ := Sq.word_head hkj' hj
                  rw [HW.out, HR0.out, HS.out, hr, List.nil_append, List.singleton_append] at ht
                  have hs : Sp.some? (Sq.st n ys).keep = false := by
                    rw [ht, Sq.some_word (by rw [← HBB.out]; exact HB0.out), ← HBB.out, h35]; rfl
                  unfold Sq.line; rw [hs]; rfl)
                clear h35
                have hst2 := HSTOP.out
                rcases hst2 with hjl | ⟨hjl, hj1⟩
                · have hjz : ¬ (j : Int) < (ys.length : Int) := by omega
                  clear hjl
                  go_wp2
                  go_ret
                  exact ⟨_, rfl, by rw [HF.out]; exact Kd.R_nil _ _ _ _ _, HI.out.bel⟩
                · have hjz : (j : Int) < (ys.length : Int) := by omega
                  obtain ⟨ad', e', q0⟩ := Kd.at_int (Kd.C_below HC.out HI.out.bel) j (by omega) (by omega)
                  obtain rfl : ad = ad' := Option.some.inj e'
                  rw [Int.toNat_natCast, show rd ys (j : Int) = ys.getD j 0 by simp [rd]] at q0
                  have BJ := Lib.hid (Sq.blank_kind (b := ys.getD j 0) (by omega))
                  obtain ⟨bj, hbj⟩ : ∃ b, b = ys.getD j 0 := ⟨_, rfl⟩
                  rw [← hbj] at q0 BJ hj1
                  have hbt2 : isBlank bj = true := by rw [BJ.out]; exact decide_eq_true hj1
                  clear hbj hj1 e'
                  go_wp2_with fail
                  refine (ref_blank bj _).mono ?_
                  rw [hbt2]
                  rintro x w2 ⟨rfl, rfl⟩
                  go_wp2
                  go_ret
                  exact ⟨_, rfl, by rw [HF.out]; exact Kd.R_nil _ _ _ _ _, HI.out.bel⟩
              · have b35 : (b == 35) = false := beq_eq_false_iff_ne.2 h35
                have HSOME := Lib.hid (show Sp.some? (Sq.st n (ys.take j)).keep = true by
                  obtain ⟨r, hr⟩ := Sq.word_head hkj' hj
                  rw [HW.out, HR0.out, HS.out, hr, List.nil_append, Sq.some_word (by rw [← HBB.out]; exact HB0.out), ← HBB.out, b35]; rfl)
                have HFEW := Lib.hid (show (Sq.st n (ys.take j)).keep.length ≤ j by rw [HW.out, List.length_append, List.length_singleton]; omega)
                clear h35
                have hst2 := HSTOP.out
                rcases hst2 with hjl | ⟨hjl, hj1⟩
                · have hjz : ¬ (j : Int) < (ys.length : Int) := by omega
                  clear hjl
                  go_wp2_with (at_builtin; refine Kd.R_append kWd (w0 := w) (W := wr) w.heap.size rfl (.tmp 44) (.tmp 54) 74 76 _ 32 rfl (by kernel_rfl) words_info rfl (by decide) (by decide) (.slice A1 (Sq.st n (ys.take k)).keep.length c1) (Sq.st n (ys.take k)).keep ⟨S, n, k + 1⟩ [.string S, .int .i64 n, .int .i64 ((k : Int) + 1)] (fun _ => True) (fun _ => False) rfl rfl HM.out (fun _ h => h.elim) (fun _ _ => trivial) HI.out.row HI.out.bel HI.out.bel.size (by omega) ?_; intro v1 w3 hR1 hB1 hg1 hat1)
                  go_roundw
                  case rel => exact ⟨j, rfl, hj, ⟨⟨hB1, by rw [HW.out]; exact hR1, HSTOP.out.elim (fun h => .inr (.inl h)) (fun h => .inr (.inr h.2)), .inr HSOME.out, HFEW.out⟩⟩⟩
                  case measure => simp [intOf]; omega
                · have hjz : (j : Int) < (ys.length : Int) := by omega
                  obtain ⟨ad', e', q0⟩ := Kd.at_int (Kd.C_below HC.out HI.out.bel) j (by omega) (by omega)
                  obtain rfl : ad = ad' := Option.some.inj e'
                  rw [Int.toNat_natCast, show rd ys (j : Int) = ys.getD j 0 by simp [rd]] at q0
                  have BJ := Lib.hid (Sq.blank_kind (b := ys.getD j 0) (by omega))
                  obtain ⟨bj, hbj⟩ : ∃ b, b = ys.getD j 0 := ⟨_, rfl⟩
                  rw [← hbj] at q0 BJ hj1
                  have hbt2 : isBlank bj = true := by rw [BJ.out]; exact decide_eq_true hj1
                  clear hbj hj1 e'
                  go_wp2_with fail
                  refine (ref_blank bj _).mono ?_
                  rw [hbt2]
                  rintro x w2 ⟨rfl, rfl⟩
                  go_wp2_with (at_builtin; refine Kd.R_append kWd (w0 := w) (W := wr) w.heap.size rfl (.tmp 44) (.tmp 54) 74 76 _ 32 rfl (by kernel_rfl) words_info rfl (by decide) (by decide) (.slice A1 (Sq.st n (ys.take k)).keep.length c1) (Sq.st n (ys.take k)).keep ⟨S, n, k + 1⟩ [.string S, .int .i64 n, .int .i64 ((k : Int) + 1)] (fun _ => True) (fun _ => False) rfl rfl HM.out (fun _ h => h.elim) (fun _ _ => trivial) HI.out.row HI.out.bel HI.out.bel.size (by omega) ?_; intro v1 w3 hR1 hB1 hg1 hat1)
                  go_roundw
                  case rel => exact ⟨j, rfl, hj, ⟨⟨hB1, by rw [HW.out]; exact hR1, HSTOP.out.elim (fun h => .inr (.inl h)) (fun h => .inr (.inr h.2)), .inr HSOME.out, HFEW.out⟩⟩⟩
                  case measure => simp [intOf]; omega
            · have hl0 : (((Sq.st n (ys.take k)).keep.length : Int) == 0) = false := by
                refine beq_eq_false_iff_ne.2 fun h => hR0 (List.eq_nil_of_length_eq_zero (by omega))
              have HSOME := Lib.hid (show Sp.some? (Sq.st n (ys.take j)).keep = true by
                rw [HW.out]; exact Sq.some_snoc (HI.out.some.resolve_left hR0))
              have HFEW := Lib.hid (show (Sq.st n (ys.take j)).keep.length ≤ j by rw [HW.out, List.length_append, List.length_singleton]; omega)
              clear hR0
              have hst2 := HSTOP.out
              rcases hst2 with hjl | ⟨hjl, hj1⟩
              · have hjz : ¬ (j : Int) < (ys.length : Int) := by omega
                clear hjl
                go_wp2_with (at_builtin; refine Kd.R_append kWd (w0 := w) (W := wr) w.heap.size rfl (.tmp 44) (.tmp 54) 74 76 _ 32 rfl (by kernel_rfl) words_info rfl (by decide) (by decide) (.slice A1 (Sq.st n (ys.take k)).keep.length c1) (Sq.st n (ys.take k)).keep ⟨S, n, k + 1⟩ [.string S, .int .i64 n, .int .i64 ((k : Int) + 1)] (fun _ => True) (fun _ => False) rfl rfl HM.out (fun _ h => h.elim) (fun _ _ => trivial) HI.out.row HI.out.bel HI.out.bel.size (by omega) ?_; intro v1 w3 hR1 hB1 hg1 hat1)
                go_roundw
                case rel => exact ⟨j, rfl, hj, ⟨⟨hB1, by rw [HW.out]; exact hR1, HSTOP.out.elim (fun h => .inr (.inl h)) (fun h => .inr (.inr h.2)), .inr HSOME.out, HFEW.out⟩⟩⟩
                case measure => simp [intOf]; omega
              · have hjz : (j : Int) < (ys.length : Int) := by omega
                obtain ⟨ad', e', q0⟩ := Kd.at_int (Kd.C_below HC.out HI.out.bel) j (by omega) (by omega)
                obtain rfl : ad = ad' := Option.some.inj e'
                rw [Int.toNat_natCast, show rd ys (j : Int) = ys.getD j 0 by simp [rd]] at q0
                have BJ := Lib.hid (Sq.blank_kind (b := ys.getD j 0) (by omega))
                obtain ⟨bj, hbj⟩ : ∃ b, b = ys.getD j 0 := ⟨_, rfl⟩
                rw [← hbj] at q0 BJ hj1
                have hbt2 : isBlank bj = true := by rw [BJ.out]; exact decide_eq_true hj1
                clear hbj hj1 e'
                go_wp2_with fail
                refine (ref_blank bj _).mono ?_
                rw [hbt2]
                rintro x w2 ⟨rfl, rfl⟩
                go_wp2_with (at_builtin; refine Kd.R_append kWd (w0 := w) (W := wr) w.heap.size rfl (.tmp 44) (.tmp 54) 74 76 _ 32 rfl (by kernel_rfl) words_info rfl (by decide) (by decide) (.slice A1 (Sq.st n (ys.take k)).keep.length c1) (Sq.st n (ys.take k)).keep ⟨S, n, k + 1⟩ [.string S, .int .i64 n, .int .i64 ((k : Int) + 1)] (fun _ => True) (fun _ => False) rfl rfl HM.out (fun _ h => h.elim) (fun _ _ => trivial) HI.out.row HI.out.bel HI.out.bel.size (by omega) ?_; intro v1 w3 hR1 hB1 hg1 hat1)
                go_roundw
                case rel => exact ⟨j, rfl, hj, ⟨⟨hB1, by rw [HW.out]; exact hR1, HSTOP.out.elim (fun h => .inr (.inl h)) (fun h => .inr (.inr h.2)), .inr HSOME.out, HFEW.out⟩⟩⟩
                case measure => simp [intOf]; omega
    · have hltz : ¬ (k : Int) < (ys.length : Int) := by omega
      have HF := Lib.hid (show Sq.line n ys = (Sq.st n (ys.take k)).keep by
        have e : ys.take k = ys := List.take_of_length_le (by omega)
        have h := HI.out.some
        rw [e] at h ⊢
        unfold Sq.line
        rcases h with h | h
        · rw [h]; rfl
        · rw [if_pos h])
      go_wp2
      go_ret
      exact ⟨_, rfl, by rw [HF.out]; exact HI.out.row, HI.out.bel⟩
end Go.Proofs.YtamhpnenpoamhaaGreat

/- The reference's Split of a text answers as words.Split does. -/
namespace Go.Proofs.YtamhpnenpoamhaaGreat
open Go.RowKit Go.Proofs.YtamhpnenpoamhaaGreatW.PrintWords Go.Proofs.YtamhpnenpoamhaaGreatW.PrintLast

namespace Sq
def withOut (o : List (List Wd)) (q : Sq) : Sq := { q with out := o }
def addLine (o : List (List Wd)) (l : List Wd) : List (List Wd) := if l = [] then o else o ++ [l]
theorem laid_with (o : List (List Wd)) (n : Nat) (ys : List Int) : (withOut o (st n ys)).laid = addLine o (line n ys) := by
  unfold laid addLine line
  rw [show (withOut o (st n ys)).keep = (st n ys).keep from rfl, show (withOut o (st n ys)).out = o from rfl]
  cases hs : Sp.some? (st n ys).keep with
  | true =>
    rw [if_pos rfl, if_pos rfl, if_neg]
    intro e; rw [e] at hs; simp [Sp.some?] at hs
  | false => simp
theorem put_with {o : List (List Wd)} {q : Sq} {b : Int} (hb : Sp.kind b ≤ 1) : (withOut o q).put b = withOut o (q.put b) := by
  by_cases k0 : Sp.kind b = 0
  · simp [put, withOut, k0]
  · have k2 : ¬ Sp.kind b = 2 := by omega
    simp [put, withOut, k0, k2, keep]
    rfl
/-- Where the reference's Split stands. -/
structure At (xs : List Int) (k fr n : Nat) (o : List (List Wd)) : Prop where
  hk : k ≤ xs.length
  hfr : fr ≤ k
  hn : n ≤ k + 1
  few : o.length ≤ k
  ok : ∀ b ∈ (xs.take k).drop fr, Sp.kind b ≤ 1
  run : Sq.run xs first = Sq.run (xs.drop k) (withOut o (st n ((xs.take k).drop fr)))
theorem At.first (xs : List Int) : At xs 0 0 1 [] := ⟨Nat.zero_le _, Nat.le_refl _, by omega, Nat.le_refl _, fun b hb => by simp at hb, rfl⟩
theorem At.col {xs : List Int} {k fr n : Nat} {o : List (List Wd)} (h : At xs k fr n o) : (st n ((xs.take k).drop fr)).l = n ∧ (st n ((xs.take k).drop fr)).c = k - fr + 1 := by
  obtain ⟨_, h2, h3⟩ := st_fields n _ h.ok
  refine ⟨h2, ?_⟩
  have := h.hk; have := h.hfr
  rw [h3, List.length_drop, List.length_take]; omega
theorem drop_cons {xs : List Int} {k : Nat} (hk : k < xs.length) : xs.drop k = xs.getD k 0 :: xs.drop (k + 1) := by
  rw [List.drop_eq_getElem_cons hk, List.getD_eq_getElem?_getD, List.getElem?_eq_getElem hk]; rfl
theorem At.bad {xs : List Int} {k fr n : Nat} {o : List (List Wd)} (h : At xs k fr n o) (hk : k < xs.length) (hb : Sp.kind (xs.getD k 0) = 3) : Sq.run xs Sq.first = .inr (n, k - fr + 1) := by
  rw [h.run, drop_cons hk, Sq.run, if_pos hb]
  obtain ⟨h1, h2⟩ := h.col
  show Sum.inr ((st n ((xs.take k).drop fr)).l, (st n ((xs.take k).drop fr)).c) = _
  rw [h1, h2]
theorem At.next {xs : List Int} {k fr n : Nat} {o : List (List Wd)} (h : At xs k fr n o) (hk : k < xs.length) (hb : Sp.kind (xs.getD k 0) ≤ 1) : At xs (k + 1) fr n o := by
  have hfr := h.hfr
  have e : (xs.take (k + 1)).drop fr = (xs.take k).drop fr ++ [xs.getD k 0] := by
    rw [take_next hk, List.drop_append_of_le_length (by rw [List.length_take]; omega)]
  refine ⟨hk, by omega, by have := h.hn; omega, by have := h.few; omega, ?_, ?_⟩
  · intro b hx
    rw [e] at hx
    rcases List.mem_append.1 hx with hx | hx
    · exact h.ok b hx
    · rw [List.mem_singleton.1 hx]; exact hb
  · rw [h.run, drop_cons hk, Sq.run, if_neg (by omega), e, st_snoc]
    rw [put_with hb]
theorem At.newline {xs : List Int} {k fr n : Nat} {o : List (List Wd)} (h : At xs k fr n o) (hk : k < xs.length) (hb : Sp.kind (xs.getD k 0) = 2) : At xs (k + 1) (k + 1) (n + 1) (addLine o (line n ((xs.take k).drop fr))) := by
  have e : (xs.take (k + 1)).drop (k + 1) = [] := List.drop_of_length_le (by rw [List.length_take]; omega)
  refine ⟨hk, Nat.le_refl _, by have := h.hn; omega, ?_, fun b hx => by rw [e] at hx; simp at hx, ?_⟩
  · have := h.few
    unfold addLine; split
    · omega
    · rw [List.length_append, List.length_singleton]; omega
  · rw [h.run, drop_cons hk, Sq.run, if_neg (by omega), e, ← laid_with]
    congr 1
    show put _ _ = _
    unfold put
    rw [if_neg (by omega), if_pos hb]
    have := h.col.1
    unfold withOut st
    simp only [List.foldl_nil]
    rw [show (List.foldl put { out := [], row := [], cur := [], l := n, c := 1 } (List.drop fr (List.take k xs))).l = n from this]
theorem At.last {xs : List Int} {k fr n : Nat} {o : List (List Wd)} (h : At xs k fr n o) (hk : k = xs.length) : Sq.run xs Sq.first = .inl (addLine o (line n ((xs.take k).drop fr))) := by
  rw [h.run, hk, List.drop_of_length_le (Nat.le_refl _), Sq.run, laid_with]
end Sq
def RSplitPost (xs : List Int) (w0 : World) (x : Ending) (w' : World) : Prop := Below w0.heap.size w0 w' ∧
  if 1048576 < xs.length then x = .returned (.tuple #[.slice none 0 0, .int .i64 21, .agg #[.int .i64 0, .int .i64 0]]) else
  match Sp.split xs with
  | .inr (l, c) => x = .returned (.tuple #[.slice none 0 0, .int .i64 20, .agg #[.int .i64 l, .int .i64 c]])
  | .inl out => ∃ vo, (Kd.slice 76 kWd).R 74 w' w0.heap.size (fun _ => True) vo out ∧ x = .returned (.tuple #[vo, .int .i64 0, .agg #[.int .i64 0, .int .i64 0]])

/-- The reference's Split at byte k. -/
structure RSpAt (w W : World) (xs : List Int) (k fr n : Nat) (o : List (List Wd)) (v : Value) (wr : World) : Prop where
  bel : Below W.heap.size W wr
  out : (Kd.slice 76 kWd).R 74 wr W.heap.size (fun _ => True) v o
  at_ : Sq.At xs k fr n o
/-- The state at a round's head. -/
def RSpHead (w W : World) (xs : List Int) (k fr n : Nat) (v : Value) (wr : World) : Prop :=
  (∃ o, RSpAt w W xs k fr n o v wr) ∨ (k = xs.length + 1 ∧ ∃ o, Sq.run xs Sq.first = .inl o ∧ Below W.heap.size W wr ∧ (Kd.slice 76 kWd).R 74 wr W.heap.size (fun _ => True) v o)

set_option maxHeartbeats 8000000 in
set_option maxRecDepth 100000 in
theorem ref_split (A : Option Addr) (c : Nat) (xs : List Int) (w : World) (hc : (Kd.int .u8).C w A xs.length xs) (hle : xs.length ≤ c) :
    Calls Tryz.prog 41 #[.slice A xs.length c] w (RSplitPost xs w) := by
  have hmax := Kd.C_max hc
  have HC := Lib.hid hc
  obtain ⟨W, hW⟩ : ∃ W, W = w.alloc (.cells #[.int .i64 0, .int .i64 0] 44) := ⟨_, rfl⟩
  have hbW : Below w.heap.size w W := by rw [hW]; exact (Below.refl _ _).alloc (Nat.le_refl _) _
  have hsW : W.heap.size = w.heap.size + 1 := by rw [hW]; simp
  have hB4 : Blk W w.heap.size #[.int .i64 0, .int .i64 0] 44 := by rw [hW]; exact Blk.new _ _ _
  have HBW := Lib.hid hbW; have HSW := Lib.hid hsW; have HB4 := Lib.hid hB4
  have f40 := hB4.free 0
  have f41 := hB4.free 1
  have q40 := hB4.cell_at 0 (.int .i64 0) rfl
  have q41 := hB4.cell_at 1 (.int .i64 0) rfl
  clear hc hbW hsW hB4
  subst hW
  obtain ⟨iu, hiu, hsu⟩ := Option.map_eq_some_iff.1 (show (Tryz.prog.info? 5).map (fun i => i.size) = some 1 by kernel_rfl)
  have CUT := Lib.hid (cut_C (P := Tryz.prog) (Kd.int .u8) 22 5 (by kernel_rfl) hiu hsu A c xs)
  clear hiu hsu
  by_cases hbig : 1048576 < xs.length
  · have HP : Hid (∀ x w', Below w.heap.size w w' → x = .returned (.tuple #[.slice none 0 0, .int .i64 21, .agg #[.int .i64 0, .int .i64 0]]) → RSplitPost xs w x w') := fun x w' h1 h2 => ⟨h1, by rw [if_pos hbig]; exact h2⟩
    have hbz : (1048576 : Int) < (xs.length : Int) := by omega
    clear hbig CUT
    go_enter Tryz.func41, Tryz.ntmps41
    go_wp2
    exact bodyPost_ret (v := .tuple #[.slice none 0 0, .int .i64 21, .agg #[.int .i64 0, .int .i64 0]]) (by simp [results, Tryz.results41, go_sem, q40, q41]) rfl (HP.out _ _ HBW.out rfl)
  · have HP : Hid (∀ x w', Below w.heap.size w w' → (match Sq.run xs Sq.first with
        | .inr (l, c) => x = .returned (.tuple #[.slice none 0 0, .int .i64 20, .agg #[.int .i64 l, .int .i64 c]])
        | .inl out => ∃ vo, (Kd.slice 76 kWd).R 74 w' w.heap.size (fun _ => True) vo out ∧ x = .returned (.tuple #[vo, .int .i64 0, .agg #[.int .i64 0, .int .i64 0]])) → RSplitPost xs w x w') :=
      fun x w' h1 h2 => ⟨h1, by rw [if_neg hbig, Sq.split_eq]; exact h2⟩
    have hbz : (xs.length : Int) ≤ 1048576 := by omega
    clear hbig
    go_enter Tryz.func41, Tryz.ntmps41
    go_wp2
    obtain ⟨W, hW⟩ : ∃ W, W = w.alloc (.cells #[.int .i64 0, .int .i64 0] 44) := ⟨_, rfl⟩
    rw [← hW] at HBW HSW HB4 f40 f41 q40 q41 ⊢
    clear hW
    go_loopw [5, 6, 7, 8] (fun v nv fv kv wr => ∃ (k fr n : Nat), kv = .int .i64 k ∧ fv = .int .i64 fr ∧ nv = .int .i64 n ∧ k ≤ xs.length + 1 ∧ Aside1 (RSpHead w W xs k fr n v wr)) (fun _ _ _ kv _ => xs.length + 1 - (intOf kv).toNat)
    case atStart => exact ⟨0, 0, 1, rfl, rfl, rfl, by omega, ⟨.inl ⟨[], Below.refl _ _, Kd.R_nil _ _ _ _ _, Sq.At.first xs⟩⟩⟩
    case round =>
      obtain ⟨k, fr, n, rfl, rfl, rfl, hk, HH⟩ := hrel
      by_cases hfin : k = xs.length + 1
      · have hkz : ¬ (k : Int) ≤ (xs.length : Int) := by omega
        have hx : ∃ o, Sq.run xs Sq.first = .inl o ∧ Below W.heap.size W wr ∧ (Kd.slice 76 kWd).R 74 wr W.heap.size (fun _ => True) u5 o := by
          rcases HH.out with ⟨o, h⟩ | ⟨_, h⟩
          · have := h.at_.hk; omega
          · exact h
        obtain ⟨o, ho, hbel, hR⟩ := hx
        obtain ⟨A1, c1, hv1⟩ := Kd.R_slice hR
        subst hv1
        have B4 := HB4.out.below hbel HB4.out.lt
        have g40 := B4.free 0
        have g41 := B4.free 1
        have z40 := B4.cell_at 0 (.int .i64 0) rfl
        have z41 := B4.cell_at 1 (.int .i64 0) rfl
        have HD4 := Lib.hid B4; have HO := Lib.hid ho; have HBL := Lib.hid hbel; have HR := Lib.hid hR
        clear B4 ho hbel hR HH
        go_wp2
        have L4 := (HD4.out.set 0 (.int .i64 0)).set 1 (.int .i64 0)
        have m0 := L4.cell_at 0 (.int .i64 0) (by simp)
        have m1 := L4.cell_at 1 (.int .i64 0) (by simp)
        have bl := below_set2 (b := w.heap.size) (HBW.out.trans (HBL.out.mono HBW.out.size)) (Nat.le_refl _) (.int .i64 0) (.int .i64 0)
        have hR := Kd.R_lower (R_low (R_low HR.out (b := w.heap.size) (by have := HSW.out; omega) 0 (.int .i64 0)) (b := w.heap.size) (by have := HSW.out; omega) 1 (.int .i64 0)) HBW.out.size
        exact bodyPost_ret (v := .tuple #[.slice A1 o.length c1, .int .i64 0, .agg #[.int .i64 0, .int .i64 0]]) (by simp [results, Tryz.results41, go_sem, m0, m1]) rfl (HP.out _ _ bl (by rw [HO.out]; exact ⟨_, hR, rfl⟩))
      · have hx : ∃ o, RSpAt w W xs k fr n o u5 wr := by
          rcases HH.out with h | ⟨h, _⟩
          · exact h
          · exact absurd h hfin
        obtain ⟨o, hX⟩ := hx
        have hkl := hX.at_.hk; have hfk := hX.at_.hfr; have hnk := hX.at_.hn; have hfew := hX.at_.few
        obtain ⟨A1, c1, hv1⟩ := Kd.R_slice hX.out
        subst hv1
        have HX := Lib.hid hX
        have hkz : (k : Int) ≤ (xs.length : Int) := by omega
        have hnz : (n : Int) ≤ 1048577 := by omega
        clear hX HH hfin hk
        by_cases hlt : k < xs.length
        · have hltz : (k : Int) < (xs.length : Int) := by omega
          obtain ⟨ad, hA, p0⟩ := Kd.at_int (Kd.C_below (Kd.C_below HC.out HBW.out) HX.out.bel) k (by omega) (by omega)
          subst hA
          rw [Int.toNat_natCast, show rd xs (k : Int) = xs.getD k 0 by simp [rd]] at p0
          obtain ⟨b, hb⟩ : ∃ b, b = xs.getD k 0 := ⟨_, rfl⟩
          rw [← hb] at p0
          have HBB := Lib.hid hb; clear hb
          by_cases h10 : b = 10
          · have h10b : (b != 10) = false := by rw [h10]; rfl
            have HK2 := Lib.hid (show Sp.kind b = 2 by rw [h10]; rfl)
            clear h10
            obtain ⟨A', hsl, hC'⟩ := CUT.out fr k hfk hkl hle
            have hyl : ((xs.take k).drop fr).length = k - fr := by rw [List.length_drop, List.length_take]; omega
            have LN := ref_line A' (c - fr) ((xs.take k).drop fr) n wr (by rw [hyl]; exact hC' wr (Kd.C_below (Kd.C_below HC.out HBW.out) HX.out.bel)) (by rw [hyl]; omega) HX.out.at_.ok (by rw [hyl]; omega)
            rw [hyl] at LN
            obtain ⟨L, hL⟩ : ∃ L, L = Sq.line n ((xs.take k).drop fr) := ⟨_, rfl⟩
            rw [← hL] at LN
            have HL := Lib.hid hL; have LN := Lib.hid LN
            have hfkz : (fr : Int) ≤ (k : Int) := by omega
            clear hL hyl hC'
            go_wp2_with fail
            refine LN.out.mono ?_
            rintro x w1 ⟨v1, rfl, hR1, hB1⟩
            obtain ⟨A2, c2, hv1⟩ := Kd.R_slice hR1
            subst hv1
            have HB1 := Lib.hid (HX.out.bel.trans (hB1.mono HX.out.bel.size))
            have HRO := Lib.hid (Kd.R_below HX.out.out hB1)
            obtain ⟨inner, hown⟩ := Kd.R_own HX.out.out
            have HRL := Lib.hid (Kd.R_lower (Kd.R_new hR1 hown) HX.out.bel.size)
            clear hR1 hB1 hown
            by_cases hL0 : L = []
            · have hd : (L.length : Int) ≤ 0 := by rw [hL0]; simp
              have HADD := Lib.hid (show Sq.addLine o (Sq.line n ((xs.take k).drop fr)) = o by rw [← HL.out, hL0]; rfl)
              clear hL0
              go_wp2
              have hat := HX.out.at_.newline hlt (by rw [← HBB.out]; exact HK2.out)
              rw [HADD.out] at hat
              go_roundw
              case rel => exact ⟨k + 1, k + 1, n + 1, by go_num, by go_num, by go_num, by omega, ⟨.inl ⟨_, HB1.out, HRO.out, hat⟩⟩⟩
              case measure => simp [intOf]; omega
            · have hd : (0 : Int) < (L.length : Int) := by have := List.length_pos_iff.2 hL0; omega
              have HADD := Lib.hid (show Sq.addLine o (Sq.line n ((xs.take k).drop fr)) = o ++ [L] by rw [← HL.out]; exact if_neg hL0)
              clear hL0
              go_wp2_with (at_builtin; refine Kd.R_append (Kd.slice 76 kWd) (w0 := W) (W := w1) W.heap.size rfl (.tmp 66) (.tmp 68) 64 74 _ 24 rfl (by kernel_rfl) rows_info rfl (by decide) (by decide) (.slice A1 o.length c1) o L [.slice A2 L.length c2] (fun _ => True) (fun q => True ∧ some q ≠ (Value.slice A1 o.length c1).ownBlock) rfl rfl ⟨_, rfl, HRL.out⟩ (fun _ h => h) (fun _ _ => trivial) HRO.out HB1.out HB1.out.size (by omega) ?_; intro v2 w2 hR2 hB2 hg2 hat2)
              have hat := HX.out.at_.newline hlt (by rw [← HBB.out]; exact HK2.out)
              rw [HADD.out] at hat
              go_roundw
              case rel => exact ⟨k + 1, k + 1, n + 1, by go_num, by go_num, by go_num, by omega, ⟨.inl ⟨_, hB2, hR2, hat⟩⟩⟩
              case measure => simp [intOf]; omega
          · have h10b : (b != 10) = true := by simpa using h10
            by_cases hbl : b = 32 ∨ b = 9
            · have hbt : isBlank b = true := by rcases hbl with rfl | rfl <;> rfl
              have HK2 := Lib.hid (show Sp.kind b = 1 by rcases hbl with rfl | rfl <;> rfl)
              clear hbl h10
              have HN := Lib.hid (HX.out.at_.next hlt (by rw [← HBB.out, HK2.out]; decide))
              go_wp2_with fail
              refine (ref_blank b _).mono ?_
              rw [hbt]
              rintro x w2 ⟨rfl, rfl⟩
              go_wp2
              go_roundw
              case rel => exact ⟨k + 1, fr, n, by go_num, rfl, rfl, by omega, ⟨.inl ⟨o, HX.out.bel, HX.out.out, HN.out⟩⟩⟩
              case measure => simp [intOf]; omega
            · have hbt : isBlank b = false := by
                unfold isBlank; rw [beq_eq_false_iff_ne.2 (fun h => hbl (.inl h)), beq_eq_false_iff_ne.2 (fun h => hbl (.inr h))]; rfl
              by_cases h33 : b < 33
              · have HK2 := Lib.hid (show Sp.kind b = 3 by unfold Sp.kind; rw [if_neg h10, if_neg hbl, if_neg (by omega)])
                clear hbl h10
                have HE := Lib.hid (HX.out.at_.bad hlt (by rw [← HBB.out]; exact HK2.out))
                have B4 := HB4.out.below HX.out.bel HB4.out.lt
                have g40 := B4.free 0
                have g41 := B4.free 1
                have z40 := B4.cell_at 0 (.int .i64 0) rfl
                have z41 := B4.cell_at 1 (.int .i64 0) rfl
                have HD4 := Lib.hid B4
                clear B4
                have hfkz : (fr : Int) ≤ (k : Int) := by omega
                go_wp2_with fail
                refine (ref_blank b _).mono ?_
                rw [hbt]
                rintro x w2 ⟨rfl, rfl⟩
                go_wp2
                have L4 := (HD4.out.set 0 (.int .i64 n)).set 1 (.int .i64 ((k : Int) - (fr : Int) + 1))
                have m0 := L4.cell_at 0 (.int .i64 n) (by simp)
                have m1 := L4.cell_at 1 (.int .i64 ((k : Int) - (fr : Int) + 1)) (by simp)
                have bl := below_set2 (b := w.heap.size) (HBW.out.trans (HX.out.bel.mono HBW.out.size)) (Nat.le_refl _) (.int .i64 n) (.int .i64 ((k : Int) - (fr : Int) + 1))
                exact bodyPost_ret (v := .tuple #[.slice none 0 0, .int .i64 20, .agg #[.int .i64 n, .int .i64 ((k : Int) - (fr : Int) + 1)]]) (by simp [results, Tryz.results41, go_sem, m0, m1]) rfl (HP.out _ _ bl (by rw [HE.out, show ((k : Int) - (fr : Int) + 1) = ((k - fr + 1 : Nat) : Int) by omega]))
              · by_cases h126 : 126 < b
                · have HK2 := Lib.hid (show Sp.kind b = 3 by unfold Sp.kind; rw [if_neg h10, if_neg hbl, if_neg (by omega)])
                  clear hbl h10
                  have HE := Lib.hid (HX.out.at_.bad hlt (by rw [← HBB.out]; exact HK2.out))
                  have B4 := HB4.out.below HX.out.bel HB4.out.lt
                  have g40 := B4.free 0
                  have g41 := B4.free 1
                  have z40 := B4.cell_at 0 (.int .i64 0) rfl
                  have z41 := B4.cell_at 1 (.int .i64 0) rfl
                  have HD4 := Lib.hid B4
                  clear B4
                  have hfkz : (fr : Int) ≤ (k : Int) := by omega
                  go_wp2_with fail
                  refine (ref_blank b _).mono ?_
                  rw [hbt]
                  rintro x w2 ⟨rfl, rfl⟩
                  go_wp2
                  have L4 := (HD4.out.set 0 (.int .i64 n)).set 1 (.int .i64 ((k : Int) - (fr : Int) + 1))
                  have m0 := L4.cell_at 0 (.int .i64 n) (by simp)
                  have m1 := L4.cell_at 1 (.int .i64 ((k : Int) - (fr : Int) + 1)) (by simp)
                  have bl := below_set2 (b := w.heap.size) (HBW.out.trans (HX.out.bel.mono HBW.out.size)) (Nat.le_refl _) (.int .i64 n) (.int .i64 ((k : Int) - (fr : Int) + 1))
                  exact bodyPost_ret (v := .tuple #[.slice none 0 0, .int .i64 20, .agg #[.int .i64 n, .int .i64 ((k : Int) - (fr : Int) + 1)]]) (by simp [results, Tryz.results41, go_sem, m0, m1]) rfl (HP.out _ _ bl (by rw [HE.out, show ((k : Int) - (fr : Int) + 1) = ((k - fr + 1 : Nat) : Int) by omega]))
                · have HK2 := Lib.hid (show Sp.kind b = 0 by unfold Sp.kind; rw [if_neg h10, if_neg hbl, if_pos (by omega)])
                  clear hbl h10
                  have HN := Lib.hid (HX.out.at_.next hlt (by rw [← HBB.out, HK2.out]; decide))
                  go_wp2_with fail
                  refine (ref_blank b _).mono ?_
                  rw [hbt]
                  rintro x w2 ⟨rfl, rfl⟩
                  go_wp2
                  go_roundw
                  case rel => exact ⟨k + 1, fr, n, by go_num, rfl, rfl, by omega, ⟨.inl ⟨o, HX.out.bel, HX.out.out, HN.out⟩⟩⟩
                  case measure => simp [intOf]; omega
        · have hltz : ¬ (k : Int) < (xs.length : Int) := by omega
          have hlast : k = xs.length := by omega
          have HLAST := Lib.hid hlast; clear hlast
          obtain ⟨A', hsl, hC'⟩ := CUT.out fr k hfk hkl hle
          have hyl : ((xs.take k).drop fr).length = k - fr := by rw [List.length_drop, List.length_take]; omega
          have LN := ref_line A' (c - fr) ((xs.take k).drop fr) n wr (by rw [hyl]; exact hC' wr (Kd.C_below (Kd.C_below HC.out HBW.out) HX.out.bel)) (by rw [hyl]; omega) HX.out.at_.ok (by rw [hyl]; omega)
          rw [hyl] at LN
          obtain ⟨L, hL⟩ : ∃ L, L = Sq.line n ((xs.take k).drop fr) := ⟨_, rfl⟩
          rw [← hL] at LN
          have HL := Lib.hid hL; have LN := Lib.hid LN
          have hfkz : (fr : Int) ≤ (k : Int) := by omega
          clear hL hyl hC'
          go_wp2_with fail
          refine LN.out.mono ?_
          rintro x w1 ⟨v1, rfl, hR1, hB1⟩
          obtain ⟨A2, c2, hv1⟩ := Kd.R_slice hR1
          subst hv1
          have HB1 := Lib.hid (HX.out.bel.trans (hB1.mono HX.out.bel.size))
          have HRO := Lib.hid (Kd.R_below HX.out.out hB1)
          obtain ⟨inner, hown⟩ := Kd.R_own HX.out.out
          have HRL := Lib.hid (Kd.R_lower (Kd.R_new hR1 hown) HX.out.bel.size)
          clear hR1 hB1 hown
          by_cases hL0 : L = []
          · have hd : (L.length : Int) ≤ 0 := by rw [hL0]; simp
            have HADD := Lib.hid (show Sq.addLine o (Sq.line n ((xs.take k).drop fr)) = o by rw [← HL.out, hL0]; rfl)
            clear hL0
            go_wp2
            have hat := HX.out.at_.last HLAST.out
            rw [HADD.out] at hat
            go_roundw
            case rel => exact ⟨k + 1, k + 1, n + 1, by go_num, by go_num, by go_num, by omega, ⟨.inr ⟨by omega, _, hat, HB1.out, HRO.out⟩⟩⟩
            case measure => simp [intOf]; omega
          · have hd : (0 : Int) < (L.length : Int) := by have := List.length_pos_iff.2 hL0; omega
            have HADD := Lib.hid (show Sq.addLine o (Sq.line n ((xs.take k).drop fr)) = o ++ [L] by rw [← HL.out]; exact if_neg hL0)
            clear hL0
            go_wp2_with (at_builtin; refine Kd.R_append (Kd.slice 76 kWd) (w0 := W) (W := w1) W.heap.size rfl (.tmp 66) (.tmp 68) 64 74 _ 24 rfl (by kernel_rfl) rows_info rfl (by decide) (by decide) (.slice A1 o.length c1) o L [.slice A2 L.length c2] (fun _ => True) (fun q => True ∧ some q ≠ (Value.slice A1 o.length c1).ownBlock) rfl rfl ⟨_, rfl, HRL.out⟩ (fun _ h => h) (fun _ _ => trivial) HRO.out HB1.out HB1.out.size (by omega) ?_; intro v2 w2 hR2 hB2 hg2 hat2)
            have hat := HX.out.at_.last HLAST.out
            rw [HADD.out] at hat
            go_roundw
            case rel => exact ⟨k + 1, k + 1, n + 1, by go_num, by go_num, by go_num, by omega, ⟨.inr ⟨by omega, _, hat, hB2, hR2⟩⟩⟩
            case measure => simp [intOf]; omega
end Go.Proofs.YtamhpnenpoamhaaGreat

/- config.Parse's deferred closure: it takes a fault, and tells it. -/
namespace Go.Proofs.YtamhpnenpoamhaaGreat
open Go.RowKit Go.Proofs.YtamhpnenpoamhaaGreatW.PrintWords Go.Proofs.YtamhpnenpoamhaaGreatW.PrintLast

theorem cell_far {W : World} {b q i k : Nat} {u v : Value} (hne : q ≠ b) (h : W.cell? ⟨b, k, none⟩ = some v) : (W.setCell ⟨q, i, none⟩ u).cell? ⟨b, k, none⟩ = some v := by
  have e := Below.heap_setCell W ⟨q, i, none⟩ u b (Ne.symm hne)
  unfold World.cell? at h ⊢
  simp only at h ⊢
  rw [e]
  exact h
theorem cell_drew {W : World} {a : Addr} {v : Value} (h : W.cell? a = some v) : W.drew.cell? a = some v := h
theorem cell_undrew {W : World} {a : Addr} {v : Value} (h : W.drew.cell? a = some v) : W.cell? a = some v := h
theorem parse_slots (a b c T : Value) : (#[a, b, c] ++ ((Array.replicate 19 undef).setIfInBounds 3 T).setIfInBounds 0 T) = #[a, b, c, T, undef, undef, T, undef, undef, undef, undef, undef, undef, undef, undef, undef, undef, undef, undef, undef, undef, undef] := by
  apply Array.ext'
  simp [List.replicate]

theorem parse_idle (p q r : Addr) (w : World) :
    CallsD Tryz.prog 27 #[.pointer (some p), .pointer (some q), .pointer (some r)] .returning w fun e u' w' => e = .returned (.tuple #[]) ∧ u' = .returning ∧ w' = w := by
  refine callsD_of_wpS Tryz.func27 rfl fun c₀ cs hu => ?_
  apply wpS_seq
  apply wpS_region
  simp [wpOpsS, go_sem, recoverD, hu, Tryz.ntmps27, Exit.thenS]
  rw [parse_slots]
  refine wpS_of_wp ?_
  have hn : ∀ w : World, (binOp .neq 20 .nilIface .nilIface).run Tryz.prog w = .ok (.bool false) w := fun _ => by kernel_rfl
  go_wp2
  exact ⟨rfl, .returning, by cases c₀; simp_all, _, results_none rfl _ _ _, rfl, rfl, rfl⟩

set_option maxHeartbeats 800000 in
set_option maxRecDepth 100000 in
theorem parse_caught (b : Nat) (e l c : Int) (w : World) (x0 x1 x2 x3 x4 : Value) (h0 : Blk w b #[x0, x1] 28) (h1 : Blk w (b + 1) #[x2] 40) (h2 : Blk w (b + 2) #[x3, x4] 44) :
    CallsD Tryz.prog 27 #[.pointer (some ⟨b, 0, none⟩), .pointer (some ⟨b + 1, 0, none⟩), .pointer (some ⟨b + 2, 0, none⟩)] (.panicking [{ v := faultV e l c, recovered := false }]) w fun x u' w' => x = .returned (.tuple #[]) ∧ u' = .panicking [{ v := faultV e l c, recovered := true }] ∧ Below b w w' ∧ Blk w' b #[.int .i64 0, .slice none 0 0] 28 ∧ Blk w' (b + 1) #[.int .u16 e] 40 ∧ Blk w' (b + 2) #[.int .i64 l, .int .i64 c] 44 := by
  refine callsD_of_wpS Tryz.func27 rfl fun c₀ cs hu => ?_
  apply wpS_seq
  apply wpS_region
  simp [wpOpsS, go_sem, recoverD, hu, Tryz.ntmps27, Exit.thenS]
  rw [parse_slots]
  refine wpS_of_wp ?_
  unfold faultV
  have c0 := h0.cell_at 0 _ rfl
  have c1 := h0.cell_at 1 _ rfl
  have c2 := h1.cell_at 0 _ rfl
  have c3 := h2.cell_at 0 _ rfl
  have c4 := h2.cell_at 1 _ rfl
  have f0 := h0.free 0
  have f1 := h0.free 1
  have f2 := h1.free 0
  have f3 := h2.free 0
  have f4 := h2.free 1
  have H0 := Lib.hid h0; have H1 := Lib.hid h1; have H2 := Lib.hid h2
  clear h0 h1 h2
  have hn : ∀ (v : Value) (w : World), (binOp .neq 20 (.iface 68 v) .nilIface).run Tryz.prog w = .ok (.bool true) w := fun v w => run_neq_held_nil w _ _ v (by kernel_rfl)
  have hta : ∀ (v : Value) (w : World), (Instr.typeAssert (.iface 68 v) 20 68 true).run Tryz.prog w = .ok (.tuple #[v, .bool true]) w := fun v w => by
    simp [Instr.typeAssert, run_underlying Tryz.underlying68, Result.andThen]
  go_wp2
  have F := Lib.hid (Blk.new w #[.int .u16 e, .int .i64 l, .int .i64 c] 68)
  have G0 := Lib.hid (H0.out.alloc (.cells #[.int .u16 e, .int .i64 l, .int .i64 c] 68))
  have G1 := Lib.hid (H1.out.alloc (.cells #[.int .u16 e, .int .i64 l, .int .i64 c] 68))
  have G2 := Lib.hid (H2.out.alloc (.cells #[.int .u16 e, .int .i64 l, .int .i64 c] 68))
  have hb2 := H2.out.lt
  have GB := Lib.hid ((Below.refl b w).alloc (by omega) (.cells #[.int .u16 e, .int .i64 l, .int .i64 c] 68))
  have hsz : b + 3 ≤ (w.alloc (.cells #[.int .u16 e, .int .i64 l, .int .i64 c] 68)).heap.size := by rw [World.size_alloc]; omega
  have hne := Lib.hid (show b + 2 < w.heap.size from hb2)
  clear c0 c1 c2 c3 c4 f0 f1 f2 f3 f4 H0 H1 H2
  generalize w.alloc (.cells #[.int .u16 e, .int .i64 l, .int .i64 c] 68) = W1 at F G0 G1 G2 GB hsz ⊢
  have a0 := G0.out.cell_at 0 _ rfl
  have a1 := G0.out.cell_at 1 _ rfl
  have a2 := G1.out.cell_at 0 _ rfl
  have a3 := G2.out.cell_at 0 _ rfl
  have a4 := G2.out.cell_at 1 _ rfl
  have f0 := G0.out.free 0
  have f1 := G0.out.free 1
  have f2 := G1.out.free 0
  have f3 := G2.out.free 0
  have f4 := G2.out.free 1
  have d0 := F.out.cell_at 0 _ rfl
  have d1 := F.out.cell_at 1 _ rfl
  have d2 := F.out.cell_at 2 _ rfl
  have n0 : b ≠ w.heap.size := by have := hne.out; omega
  have n1 : b + 1 ≠ w.heap.size := by have := hne.out; omega
  have n2 : b + 2 ≠ w.heap.size := by have := hne.out; omega
  refine startK 8 (fun w' => w'.cell? ⟨w.heap.size, 0, none⟩ = some (.int .u16 e) ∧ w'.cell? ⟨w.heap.size, 1, none⟩ = some (.int .i64 l) ∧ w'.cell? ⟨w.heap.size, 2, none⟩ = some (.int .i64 c)) [] (by kernel_rfl) rfl (by kernel_rfl) ⟨d0, d1, d2⟩ (fun hHeld => ?_)
  repeat (refine takeK (v := ?_) (a' := ?_) rfl rfl rfl (by kernel_rfl) (fun _ _ _ h => h) (Or.inl ⟨by rfl, ?_⟩) hHeld ?_ ?_; rotate_left; (rintro w' ⟨s0, s1, s2⟩; go_simp; with_reducible rfl); rotate_left; (simp only [Act.put, List.setIfInBounds_toArray, List.set_cons_zero, List.set_cons_succ]; rfl))
  refine oneK rfl rfl rfl (by kernel_rfl) rfl (fun K hK => ?_)
  go_simp
  refine hK.out _ _ ⟨cell_drew (cell_far n0 (cell_far n0 d0)), cell_drew (cell_far n0 (cell_far n0 d1)), cell_drew (cell_far n0 (cell_far n0 d2))⟩ (fun hHeld2 => ?_)
  refine oneK rfl rfl rfl (by kernel_rfl) rfl (fun K2 hK2 => ?_)
  go_simp
  refine hK2.out _ _ ⟨cell_drew (cell_far n1 (cell_undrew hHeld2.1)), cell_drew (cell_far n1 (cell_undrew hHeld2.2.1)), cell_drew (cell_far n1 (cell_undrew hHeld2.2.2))⟩ (fun hHeld3 => ?_)
  refine oneK rfl rfl rfl (by kernel_rfl) rfl (fun K3 hK3 => ?_)
  go_simp
  refine hK3.out _ _ ⟨cell_drew (cell_far n2 (cell_far n2 (cell_undrew hHeld3.1))), cell_drew (cell_far n2 (cell_far n2 (cell_undrew hHeld3.2.1))), cell_drew (cell_far n2 (cell_far n2 (cell_undrew hHeld3.2.2)))⟩ (fun hHeld4 => ?_)
  refine done_ (by kernel_rfl) ?_
  have k0 := ((((G0.out.set 0 (.int .i64 0)).set 1 (.slice none 0 0)).far (b' := b + 1) (by omega) 0 (.int .u16 e)).far (b' := b + 2) (by omega) 0 (.int .i64 l)).far (b' := b + 2) (by omega) 1 (.int .i64 c)
  have k1 := ((((G1.out.far (b' := b) (by omega) 0 (.int .i64 0)).far (b' := b) (by omega) 1 (.slice none 0 0)).set 0 (.int .u16 e)).far (b' := b + 2) (by omega) 0 (.int .i64 l)).far (b' := b + 2) (by omega) 1 (.int .i64 c)
  have k2 := ((((G2.out.far (b' := b) (by omega) 0 (.int .i64 0)).far (b' := b) (by omega) 1 (.slice none 0 0)).far (b' := b + 1) (by omega) 0 (.int .u16 e)).set 0 (.int .i64 l)).set 1 (.int .i64 c)
  have hq : ∀ (w : World) (a : Addr) (v : Value), (w.setCell a v).heap.size = w.heap.size := fun w a v => by simp [World.setCell]
  have kb := below_grown (below_grown (below_grown (below_grown (below_grown GB.out (by omega) (grown_set W1 b 0 (.int .i64 0)) (Nat.le_refl _)) (by rw [hq]; omega) (grown_set _ b 1 (.slice none 0 0)) (Nat.le_refl _)) (by rw [hq, hq]; omega) (grown_set _ (b + 1) 0 (.int .u16 e)) (by omega)) (by rw [hq, hq, hq]; omega) (grown_set _ (b + 2) 0 (.int .i64 l)) (by omega)) (by rw [hq, hq, hq, hq]; omega) (grown_set _ (b + 2) 1 (.int .i64 c)) (by omega)
  refine ⟨rfl, _, rfl, _, results_none rfl _ _ _, rfl, rfl, Below.drew kb, Blk.drew k0, Blk.drew k1, Blk.drew k2⟩
end Go.Proofs.YtamhpnenpoamhaaGreat

/- What words.Split's lines are: none empty; no word empty; all within the text's length. -/
namespace Go.Proofs.YtamhpnenpoamhaaGreat
open Go.RowKit Go.Proofs.YtamhpnenpoamhaaGreatW.PrintWords
namespace Sp
/-- A line of words of a text of n bytes. -/
def Okay (n : Nat) (row : List Wd) : Prop := row.length ≤ n ∧ ∀ x ∈ row, 0 < x.t.size ∧ x.t.size ≤ n
structure Good2 (xs : List Int) (s : Sp) : Prop where
  g : Good xs s
  row : Okay xs.length s.row
  out : ∀ r ∈ s.out, Okay xs.length r ∧ 0 < r.length
theorem good2_keep {xs : List Int} {s : Sp} (h : Good2 xs s) (hk : s.k < xs.length) : Okay xs.length (s.keep xs).row := by
  obtain ⟨g, ⟨hl, hr⟩, _⟩ := h
  unfold keep
  split
  · rename_i h0
    have := g.row
    refine ⟨by simp; omega, fun x hx => ?_⟩
    rcases List.mem_append.1 hx with hx | hx
    · exact hr x hx
    · rw [List.mem_singleton.1 hx]
      have := g.fr h0
      have hs : (word xs s).t.size = s.k - s.fr := cut_size xs s.fr s.k g.k
      rw [hs]; omega
  · exact ⟨hl, hr⟩
theorem good2_put {xs : List Int} {s : Sp} (h : Good2 xs s) (hk : s.k < xs.length) (q : Nat) (hq : q ≤ 2) : Good2 xs (s.put xs q) := by
  have hg := good_put h.g hk q hq
  have hr := good2_keep h hk
  obtain ⟨e1, _⟩ := keep_fields xs s
  refine ⟨hg, ?_, ?_⟩
  · unfold put
    split
    · unfold begin; split <;> exact h.row
    · split
      · exact ⟨Nat.zero_le _, fun x hx => by simp [ends, line, lay, col] at hx⟩
      · exact hr
  · unfold put
    split
    · unfold begin; split <;> exact h.out
    · split
      · intro r hx
        simp only [ends, col, line, lay, e1] at hx
        split at hx
        · rename_i hs
          rcases List.mem_append.1 hx with hx | hx
          · exact h.out r hx
          · rw [List.mem_singleton.1 hx]
            refine ⟨hr, ?_⟩
            cases hrow : (s.keep xs).row with
            | nil => rw [hrow] at hs; simp [some?] at hs
            | cons a b => simp
        · exact h.out r hx
      · intro r hx
        simp only [ends, col, e1] at hx
        exact h.out r hx
theorem run_okay {xs : List Int} {rows : List (List Wd)} : ∀ (rest : List Int) (s : Sp), s.k + rest.length = xs.length → Good2 xs s → run xs rest s = .inl rows →
    (∀ r ∈ rows, r.length ≤ xs.length + 1 ∧ (∀ x ∈ r, 0 < x.t.size ∧ x.t.size ≤ xs.length) ∧ 0 < r.length) ∧ rows.length ≤ xs.length + 1
  | [], s, hk, h, hr => by
    have hr : (s.keep xs).lay.out = rows := by simpa [run] using hr
    subst hr
    obtain ⟨g, ⟨hl, hrw⟩, ho⟩ := h
    obtain ⟨e1, _⟩ := keep_fields xs s
    have hk' : s.k = xs.length := by simpa using hk
    have hkeep : (s.keep xs).row.length ≤ xs.length + 1 ∧ ∀ x ∈ (s.keep xs).row, 0 < x.t.size ∧ x.t.size ≤ xs.length := by
      unfold keep
      split
      · rename_i h0
        refine ⟨by simp; omega, fun x hx => ?_⟩
        rcases List.mem_append.1 hx with hx | hx
        · exact hrw x hx
        · rw [List.mem_singleton.1 hx]
          have := g.fr h0
          have hs : (word xs s).t.size = s.k - s.fr := cut_size xs s.fr s.k g.k
          rw [hs]; omega
      · exact ⟨by omega, hrw⟩
    have hgo := g.out
    have old : ∀ r ∈ s.out, r.length ≤ xs.length + 1 ∧ (∀ x ∈ r, 0 < x.t.size ∧ x.t.size ≤ xs.length) ∧ 0 < r.length := fun r hx => ⟨by have := (ho r hx).1.1; omega, (ho r hx).1.2, (ho r hx).2⟩
    simp only [lay, e1]
    split
    · rename_i hs
      refine ⟨fun r hx => ?_, by simp; omega⟩
      rcases List.mem_append.1 hx with hx | hx
      · exact old r hx
      · rw [List.mem_singleton.1 hx]
        refine ⟨hkeep.1, hkeep.2, ?_⟩
        cases hrow : (s.keep xs).row with
        | nil => rw [hrow] at hs; simp [some?] at hs
        | cons a b => simp
    · exact ⟨old, by omega⟩
  | b :: rest, s, hk, h, hr => by
    rw [run] at hr
    simp only [List.length_cons] at hk
    split at hr
    · cases hr
    · rename_i h3
      have hq := kind_le b
      refine run_okay rest _ ?_ (good2_put h (by omega) (kind b) (by omega)) hr
      obtain ⟨_, _, e3, _⟩ := keep_fields xs s
      have : (s.put xs (kind b)).k = s.k + 1 := by
        unfold put
        split
        · unfold begin; split <;> rfl
        · split <;> simp [ends, col, line, lay, e3]
      omega
theorem split_okay {xs : List Int} {rows : List (List Wd)} (h : split xs = .inl rows) : (∀ r ∈ rows, r.length ≤ xs.length + 1 ∧ (∀ x ∈ r, 0 < x.t.size ∧ x.t.size ≤ xs.length) ∧ 0 < r.length) ∧ rows.length ≤ xs.length + 1 :=
  run_okay xs first (by simp [first]) ⟨good_first xs, ⟨Nat.zero_le _, fun x hx => by simp [first] at hx⟩, fun r hx => by simp [first] at hx⟩ h
end Sp
end Go.Proofs.YtamhpnenpoamhaaGreat
