/- Part 7 of 9 of the proof of LRowParses: lemmas and walks, gathered. -/
import Derived.Test.YtamhpnenpoamhaaGreatCp6
import Derived.Test.YtamhpnenpoamhaaGreatCp5
import Derived.Test.YtamhpnenpoamhaaGreatCp2
import Derived.Test.YtamhpnenpoamhaaGreatProg
import Derived.Test.YtamhpnenpoamhaaGreatCp1
import Derived.Laws.BytesArg
import Derived.Test.YtamhpnenpoamhaaGreatCp4
set_option linter.unusedSimpArgs false
set_option linter.unusedVariables false
/- config.Parse of any bytes. -/
namespace Go.Proofs.YtamhpnenpoamhaaGreat
open Go.RowKit Go.Proofs.YtamhpnenpoamhaaGreatW.PrintWords Go.Proofs.YtamhpnenpoamhaaGreatW.PrintLast

theorem Cf.line_len {m : Int} {l : List Ru} {row : List Wd} {s : Int × List Ru} (hl : l.length ≤ 1000) (h : Cf.line m l row = .inl s) : s.2.length ≤ 1000 := by
  unfold Cf.line at h
  split at h
  · unfold Cf.sizeL at h
    split at h
    · injection h with h; rw [← h]; exact hl
    · cases h
  · unfold Cf.ruleL at h
    split at h
    · rename_i k hk
      injection h with h
      rw [← h]
      unfold Cf.rule at hk
      split at hk
      · cases hk
      · split at hk
        · cases hk
        · split at hk
          · cases hk
          · injection hk with hk
            rw [← hk]
            simp
            omega
    · cases h
theorem kSl_sz : (Kd.slice 76 kWd).sz = 1 := rfl
def parsed (m : Int) (v : Value) (e l c : Int) : Ending := .returned (.tuple #[.agg #[.int .i64 m, v], .int .u16 e, .agg #[.int .i64 l, .int .i64 c]])
def ParsePost (xs : List Int) (w0 : World) (x : Ending) (w' : World) : Prop := Below w0.heap.size w0 w' ∧
  if 1048576 < xs.length then x = parsed 0 (.slice none 0 0) 21 0 0 else
  match Sp.split xs with
  | .inr (l, c) => x = parsed 0 (.slice none 0 0) 20 l c
  | .inl rows => match Cf.lines 0 [] rows with
    | .inr (e, wd) => x = parsed 0 (.slice none 0 0) e wd.l wd.c
    | .inl (m, l) => match Cf.ends m l with
      | some e => x = parsed 0 (.slice none 0 0) e 0 0
      | none => ∃ v l', SortedR l' l ∧ kRu.R 37 w' w0.heap.size (fun _ => True) v l' ∧ x = parsed m v 0 0 0

set_option maxHeartbeats 4000000 in
set_option maxRecDepth 100000 in
theorem config_parse (w0 : World) (A : Option Addr) (c : Nat) (xs : List Int) (hc : (Kd.int .u8).C w0 A xs.length xs) (hle : xs.length ≤ c) :
    Calls Tryz.prog 13 #[.slice A xs.length c] w0 (ParsePost xs w0) := by
  have hmf : ∀ (fn : Fn) (first cap : Array Value) (w : World), (Instr.makeFunc fn first cap).run Tryz.prog w = .ok (.func fn first cap) w := fun _ _ _ _ => rfl
  have hmm := @run_makeMap Tryz.prog
  have HSP := Lib.hid (fun o1 o2 o3 => words_split (((w0.alloc o1).alloc o2).alloc o3) A c xs (Kd.C_alloc (Kd.C_alloc (Kd.C_alloc hc o1) o2) o3) hle)
  clear hc
  go_enter_defers Tryz.func13, Tryz.ntmps13
  go_wp2_with fail
  refine (HSP.out _ _ _).mono ?_
  rintro x w1 ⟨hb, hx⟩
  have hb1 := hb.size
  simp only [World.size_alloc] at hb1
  have hb0 : Below w0.heap.size w0 w1 := (((Below.refl _ _).alloc (Nat.le_refl _) _).alloc (by rw [World.size_alloc]; omega) _ |>.alloc (by rw [World.size_alloc, World.size_alloc]; omega) _).trans (hb.mono (by simp only [World.size_alloc]; omega))
  have B2 := Lib.hid ((((Blk.new_at (w := w0) (n := w0.heap.size) (cs := #[.int .i64 0, .slice none 0 0]) (t := 28) rfl).alloc (.cells #[.int .u16 0] 40)).alloc (.cells #[.int .i64 0, .int .i64 0] 44)).below hb (by simp only [World.size_alloc]; omega))
  have B3 := Lib.hid (((Blk.new_at (w := w0.alloc (.cells #[.int .i64 0, .slice none 0 0] 28)) (n := w0.heap.size + 1) (cs := #[.int .u16 0]) (t := 40) (World.size_alloc _ _)).alloc (.cells #[.int .i64 0, .int .i64 0] 44)).below hb (by simp only [World.size_alloc]; omega))
  have B4 := Lib.hid ((Blk.new_at (w := (w0.alloc (.cells #[.int .i64 0, .slice none 0 0] 28)).alloc (.cells #[.int .u16 0] 40)) (n := w0.heap.size + 2) (cs := #[.int .i64 0, .int .i64 0]) (t := 44) (by simp only [World.size_alloc])).below hb (by simp only [World.size_alloc]; omega))
  have c3 := B3.out.cell_at 0 _ rfl
  have f3 := B3.out.free 0
  have c40 := B4.out.cell_at 0 _ rfl
  have c41 := B4.out.cell_at 1 _ rfl
  have f40 := B4.out.free 0
  have f41 := B4.out.free 1
  have HB := Lib.hid hb; have HB0 := Lib.hid hb0
  clear hb hb0
  by_cases hbig : 1048576 < xs.length
  · rw [if_pos hbig] at hx
    subst hx
    have HBIG := Lib.hid hbig
    clear hbig HSP
    go_wp2_with fail
    have P2 := Lib.hid ((B2.out.far (b' := w0.heap.size + 1) (by omega) 0 (.int .u16 21)).far (b' := w0.heap.size + 1 + 1) (by omega) 0 (.int .i64 0) |>.far (b' := w0.heap.size + 1 + 1) (by omega) 1 (.int .i64 0))
    have P3 := Lib.hid ((B3.out.set 0 (.int .u16 21)).far (b' := w0.heap.size + 1 + 1) (by omega) 0 (.int .i64 0) |>.far (b' := w0.heap.size + 1 + 1) (by omega) 1 (.int .i64 0))
    have P4 := Lib.hid ((B4.out.far (b' := w0.heap.size + 1) (by omega) 0 (.int .u16 21)).set 0 (.int .i64 0) |>.set 1 (.int .i64 0))
    have hq : ∀ (w : World) (a : Addr) (v : Value), (w.setCell a v).heap.size = w.heap.size := fun w a v => by simp [World.setCell]
    have PB := Lib.hid (below_grown (below_grown (below_grown HB0.out (by omega) (grown_set w1 (w0.heap.size + 1) 0 (.int .u16 21)) (by omega)) (by rw [hq]; omega) (grown_set _ (w0.heap.size + 1 + 1) 0 (.int .i64 0)) (by omega)) (by rw [hq, hq]; omega) (grown_set _ (w0.heap.size + 1 + 1) 1 (.int .i64 0)) (by omega))
    have PS : w0.heap.size + 3 ≤ (((w1.setCell ⟨w0.heap.size + 1, 0, none⟩ (.int .u16 21)).setCell ⟨w0.heap.size + 1 + 1, 0, none⟩ (.int .i64 0)).setCell ⟨w0.heap.size + 1 + 1, 1, none⟩ (.int .i64 0)).heap.size := by rw [hq, hq, hq]; omega
    clear c3 f3 c40 c41 f40 f41 B2 B3 B4 HB HB0
    generalize ((w1.setCell ⟨w0.heap.size + 1, 0, none⟩ (.int .u16 21)).setCell ⟨w0.heap.size + 1 + 1, 0, none⟩ (.int .i64 0)).setCell ⟨w0.heap.size + 1 + 1, 1, none⟩ (.int .i64 0) = W2 at P2 P3 P4 PB PS ⊢
    have e0 : W2.cell? ⟨w0.heap.size + 1, 0, none⟩ = some (.int .u16 21) := P3.out.cell_at 0 _ (by simp)
    have e1 : W2.cell? ⟨w0.heap.size + 1 + 1, 0, none⟩ = some (.int .i64 0) := P4.out.cell_at 0 _ (by simp)
    have e2 : W2.cell? ⟨w0.heap.size + 1 + 1, 1, none⟩ = some (.int .i64 0) := P4.out.cell_at 1 _ (by simp)
    have e3 : W2.cell? ⟨w0.heap.size, 0, none⟩ = some (.int .i64 0) := P2.out.cell_at 0 _ rfl
    have e4 : W2.cell? ⟨w0.heap.size, 1, none⟩ = some (.slice none 0 0) := P2.out.cell_at 1 _ rfl
    have f0 := P2.out.free 0
    have f1 := P2.out.free 1
    have f2 := P3.out.free 0
    have f3 := P4.out.free 0
    have f4 := P4.out.free 1
    refine wp_region_noPanic ?_
    refine startK 6 (fun w' => w'.cell? ⟨w0.heap.size + 1, 0, none⟩ = some (.int .u16 21) ∧ w'.cell? ⟨w0.heap.size + 1 + 1, 0, none⟩ = some (.int .i64 0) ∧ w'.cell? ⟨w0.heap.size + 1 + 1, 1, none⟩ = some (.int .i64 0)) [] (by kernel_rfl) rfl (by kernel_rfl) ⟨e0, e1, e2⟩ (fun hHeld => ?_)
    repeat (refine takeK (v := ?_) (a' := ?_) rfl rfl rfl (by kernel_rfl) (fun _ _ _ h => h) (Or.inl ⟨by rfl, ?_⟩) hHeld ?_ ?_; rotate_left; (rintro w' ⟨s0, s1, s2⟩; go_simp; with_reducible rfl); rotate_left; (simp only [Act.put, List.setIfInBounds_toArray, List.set_cons_zero, List.set_cons_succ]; rfl))
    have q2 := ((P2.out.set 0 (.int .i64 0)).set 1 (.slice none 0 0))
    have q3 := ((P3.out.far (b' := w0.heap.size) (by omega) 0 (.int .i64 0)).far (b' := w0.heap.size) (by omega) 1 (.slice none 0 0))
    have q4 := ((P4.out.far (b' := w0.heap.size) (by omega) 0 (.int .i64 0)).far (b' := w0.heap.size) (by omega) 1 (.slice none 0 0))
    have t2 := (q2.far (b' := w0.heap.size + 1) (by omega) 0 (.int .u16 21))
    have t3 := (q3.set 0 (.int .u16 21))
    have t4 := (q4.far (b' := w0.heap.size + 1) (by omega) 0 (.int .u16 21))
    have u2 := ((t2.far (b' := w0.heap.size + 1 + 1) (by omega) 0 (.int .i64 0)).far (b' := w0.heap.size + 1 + 1) (by omega) 1 (.int .i64 0))
    have u3 := ((t3.far (b' := w0.heap.size + 1 + 1) (by omega) 0 (.int .i64 0)).far (b' := w0.heap.size + 1 + 1) (by omega) 1 (.int .i64 0))
    have u4 := ((t4.set 0 (.int .i64 0)).set 1 (.int .i64 0))
    refine oneK rfl rfl rfl (by kernel_rfl) rfl (fun K hK => ?_)
    go_simp
    refine hK.out _ _ ⟨cell_drew (q3.cell_at 0 _ (by simp)), cell_drew (q4.cell_at 0 _ (by simp)), cell_drew (q4.cell_at 1 _ (by simp))⟩ (fun hHeld2 => ?_)
    refine oneK rfl rfl rfl (by kernel_rfl) rfl (fun K2 hK2 => ?_)
    go_simp
    refine hK2.out _ _ ⟨cell_drew (t3.cell_at 0 _ (by simp)), cell_drew (t4.cell_at 0 _ (by simp)), cell_drew (t4.cell_at 1 _ (by simp))⟩ (fun hHeld3 => ?_)
    refine oneK rfl rfl rfl (by kernel_rfl) rfl (fun K3 hK3 => ?_)
    go_simp
    refine hK3.out _ _ ⟨cell_drew (u3.cell_at 0 _ (by simp)), cell_drew (u4.cell_at 0 _ (by simp)), cell_drew (u4.cell_at 1 _ (by simp))⟩ (fun hHeld4 => ?_)
    refine done_ (by kernel_rfl) ?_
    refine NoPanic.normal ?_
    go_wp2
    have LB := (below_grown (below_grown (below_grown (below_grown (below_grown PB.out (by omega) (grown_set W2 w0.heap.size 0 (.int .i64 0)) (Nat.le_refl _)) (by rw [hq]; omega) (grown_set _ w0.heap.size 1 (.slice none 0 0)) (Nat.le_refl _)) (by rw [hq, hq]; omega) (grown_set _ (w0.heap.size + 1) 0 (.int .u16 21)) (by omega)) (by rw [hq, hq, hq]; omega) (grown_set _ (w0.heap.size + 1 + 1) 0 (.int .i64 0)) (by omega)) (by rw [hq, hq, hq, hq]; omega) (grown_set _ (w0.heap.size + 1 + 1) 1 (.int .i64 0)) (by omega)).drew
    have L2 := u2.drew; have L3 := u3.drew; have L4 := u4.drew
    clear hHeld hHeld2 hHeld3 hHeld4 hK hK2 hK3 q2 q3 q4 t2 t3 t4 u2 u3 u4 e0 e1 e2 e3 e4 f0 f1 f2 f3 f4
    generalize (((((W2.setCell ⟨w0.heap.size, 0, none⟩ (.int .i64 0)).setCell ⟨w0.heap.size, 1, none⟩ (.slice none 0 0)).setCell ⟨w0.heap.size + 1, 0, none⟩ (.int .u16 21)).setCell ⟨w0.heap.size + 1 + 1, 0, none⟩ (.int .i64 0)).setCell ⟨w0.heap.size + 1 + 1, 1, none⟩ (.int .i64 0)).drew = W9 at LB L2 L3 L4 ⊢
    have m0 : W9.cell? ⟨w0.heap.size, 0, none⟩ = some (.int .i64 0) := L2.cell_at 0 _ (by simp)
    have m1 : W9.cell? ⟨w0.heap.size, 1, none⟩ = some (.slice none 0 0) := L2.cell_at 1 _ (by simp)
    have m2 : W9.cell? ⟨w0.heap.size + 1, 0, none⟩ = some (.int .u16 21) := L3.cell_at 0 _ (by simp)
    have m3 : W9.cell? ⟨w0.heap.size + 1 + 1, 0, none⟩ = some (.int .i64 0) := L4.cell_at 0 _ (by simp)
    have m4 : W9.cell? ⟨w0.heap.size + 1 + 1, 1, none⟩ = some (.int .i64 0) := L4.cell_at 1 _ (by simp)
    refine ⟨.tuple #[.agg #[.int .i64 0, .slice none 0 0], .int .u16 21, .agg #[.int .i64 0, .int .i64 0]], by simp [results, Tryz.results13, go_sem, m0, m1, m2, m3, m4], LB, ?_⟩
    rw [if_pos HBIG.out]
    rfl
  · rw [if_neg hbig] at hx
    have HBIG := Lib.hid hbig
    clear hbig HSP
    cases hsp : Sp.split xs with
    | inr p =>
      obtain ⟨l, c'⟩ := p
      rw [hsp] at hx
      simp only at hx
      subst hx
      have HSPL := Lib.hid hsp
      clear hsp
      go_wp2_with fail
      have P2 := Lib.hid ((B2.out.far (b' := w0.heap.size + 1) (by omega) 0 (.int .u16 20)).far (b' := w0.heap.size + 1 + 1) (by omega) 0 (.int .i64 l) |>.far (b' := w0.heap.size + 1 + 1) (by omega) 1 (.int .i64 c'))
      have P3 := Lib.hid ((B3.out.set 0 (.int .u16 20)).far (b' := w0.heap.size + 1 + 1) (by omega) 0 (.int .i64 l) |>.far (b' := w0.heap.size + 1 + 1) (by omega) 1 (.int .i64 c'))
      have P4 := Lib.hid ((B4.out.far (b' := w0.heap.size + 1) (by omega) 0 (.int .u16 20)).set 0 (.int .i64 l) |>.set 1 (.int .i64 c'))
      have hq : ∀ (w : World) (a : Addr) (v : Value), (w.setCell a v).heap.size = w.heap.size := fun w a v => by simp [World.setCell]
      have PB := Lib.hid (below_grown (below_grown (below_grown HB0.out (by omega) (grown_set w1 (w0.heap.size + 1) 0 (.int .u16 20)) (by omega)) (by rw [hq]; omega) (grown_set _ (w0.heap.size + 1 + 1) 0 (.int .i64 l)) (by omega)) (by rw [hq, hq]; omega) (grown_set _ (w0.heap.size + 1 + 1) 1 (.int .i64 c')) (by omega))
      have PS : w0.heap.size + 3 ≤ (((w1.setCell ⟨w0.heap.size + 1, 0, none⟩ (.int .u16 20)).setCell ⟨w0.heap.size + 1 + 1, 0, none⟩ (.int .i64 l)).setCell ⟨w0.heap.size + 1 + 1, 1, none⟩ (.int .i64 c')).heap.size := by rw [hq, hq, hq]; omega
      clear c3 f3 c40 c41 f40 f41 B2 B3 B4 HB HB0
      generalize ((w1.setCell ⟨w0.heap.size + 1, 0, none⟩ (.int .u16 20)).setCell ⟨w0.heap.size + 1 + 1, 0, none⟩ (.int .i64 l)).setCell ⟨w0.heap.size + 1 + 1, 1, none⟩ (.int .i64 c') = W2 at P2 P3 P4 PB PS ⊢
      have e0 : W2.cell? ⟨w0.heap.size + 1, 0, none⟩ = some (.int .u16 20) := P3.out.cell_at 0 _ (by simp)
      have e1 : W2.cell? ⟨w0.heap.size + 1 + 1, 0, none⟩ = some (.int .i64 l) := P4.out.cell_at 0 _ (by simp)
      have e2 : W2.cell? ⟨w0.heap.size + 1 + 1, 1, none⟩ = some (.int .i64 c') := P4.out.cell_at 1 _ (by simp)
      have e3 : W2.cell? ⟨w0.heap.size, 0, none⟩ = some (.int .i64 0) := P2.out.cell_at 0 _ rfl
      have e4 : W2.cell? ⟨w0.heap.size, 1, none⟩ = some (.slice none 0 0) := P2.out.cell_at 1 _ rfl
      have f0 := P2.out.free 0
      have f1 := P2.out.free 1
      have f2 := P3.out.free 0
      have f3 := P4.out.free 0
      have f4 := P4.out.free 1
      refine wp_region_noPanic ?_
      refine startK 6 (fun w' => w'.cell? ⟨w0.heap.size + 1, 0, none⟩ = some (.int .u16 20) ∧ w'.cell? ⟨w0.heap.size + 1 + 1, 0, none⟩ = some (.int .i64 l) ∧ w'.cell? ⟨w0.heap.size + 1 + 1, 1, none⟩ = some (.int .i64 c')) [] (by kernel_rfl) rfl (by kernel_rfl) ⟨e0, e1, e2⟩ (fun hHeld => ?_)
      repeat (refine takeK (v := ?_) (a' := ?_) rfl rfl rfl (by kernel_rfl) (fun _ _ _ h => h) (Or.inl ⟨by rfl, ?_⟩) hHeld ?_ ?_; rotate_left; (rintro w' ⟨s0, s1, s2⟩; go_simp; with_reducible rfl); rotate_left; (simp only [Act.put, List.setIfInBounds_toArray, List.set_cons_zero, List.set_cons_succ]; rfl))
      have q2 := ((P2.out.set 0 (.int .i64 0)).set 1 (.slice none 0 0))
      have q3 := ((P3.out.far (b' := w0.heap.size) (by omega) 0 (.int .i64 0)).far (b' := w0.heap.size) (by omega) 1 (.slice none 0 0))
      have q4 := ((P4.out.far (b' := w0.heap.size) (by omega) 0 (.int .i64 0)).far (b' := w0.heap.size) (by omega) 1 (.slice none 0 0))
      have t2 := (q2.far (b' := w0.heap.size + 1) (by omega) 0 (.int .u16 20))
      have t3 := (q3.set 0 (.int .u16 20))
      have t4 := (q4.far (b' := w0.heap.size + 1) (by omega) 0 (.int .u16 20))
      have u2 := ((t2.far (b' := w0.heap.size + 1 + 1) (by omega) 0 (.int .i64 l)).far (b' := w0.heap.size + 1 + 1) (by omega) 1 (.int .i64 c'))
      have u3 := ((t3.far (b' := w0.heap.size + 1 + 1) (by omega) 0 (.int .i64 l)).far (b' := w0.heap.size + 1 + 1) (by omega) 1 (.int .i64 c'))
      have u4 := ((t4.set 0 (.int .i64 l)).set 1 (.int .i64 c'))
      refine oneK rfl rfl rfl (by kernel_rfl) rfl (fun K hK => ?_)
      go_simp
      refine hK.out _ _ ⟨cell_drew (q3.cell_at 0 _ (by simp)), cell_drew (q4.cell_at 0 _ (by simp)), cell_drew (q4.cell_at 1 _ (by simp))⟩ (fun hHeld2 => ?_)
      refine oneK rfl rfl rfl (by kernel_rfl) rfl (fun K2 hK2 => ?_)
      go_simp
      refine hK2.out _ _ ⟨cell_drew (t3.cell_at 0 _ (by simp)), cell_drew (t4.cell_at 0 _ (by simp)), cell_drew (t4.cell_at 1 _ (by simp))⟩ (fun hHeld3 => ?_)
      refine oneK rfl rfl rfl (by kernel_rfl) rfl (fun K3 hK3 => ?_)
      go_simp
      refine hK3.out _ _ ⟨cell_drew (u3.cell_at 0 _ (by simp)), cell_drew (u4.cell_at 0 _ (by simp)), cell_drew (u4.cell_at 1 _ (by simp))⟩ (fun hHeld4 => ?_)
      refine done_ (by kernel_rfl) ?_
      refine NoPanic.normal ?_
      go_wp2
      have LB := (below_grown (below_grown (below_grown (below_grown (below_grown PB.out (by omega) (grown_set W2 w0.heap.size 0 (.int .i64 0)) (Nat.le_refl _)) (by rw [hq]; omega) (grown_set _ w0.heap.size 1 (.slice none 0 0)) (Nat.le_refl _)) (by rw [hq, hq]; omega) (grown_set _ (w0.heap.size + 1) 0 (.int .u16 20)) (by omega)) (by rw [hq, hq, hq]; omega) (grown_set _ (w0.heap.size + 1 + 1) 0 (.int .i64 l)) (by omega)) (by rw [hq, hq, hq, hq]; omega) (grown_set _ (w0.heap.size + 1 + 1) 1 (.int .i64 c')) (by omega)).drew
      have L2 := u2.drew; have L3 := u3.drew; have L4 := u4.drew
      clear hHeld hHeld2 hHeld3 hHeld4 hK hK2 hK3 q2 q3 q4 t2 t3 t4 u2 u3 u4 e0 e1 e2 e3 e4 f0 f1 f2 f3 f4
      generalize (((((W2.setCell ⟨w0.heap.size, 0, none⟩ (.int .i64 0)).setCell ⟨w0.heap.size, 1, none⟩ (.slice none 0 0)).setCell ⟨w0.heap.size + 1, 0, none⟩ (.int .u16 20)).setCell ⟨w0.heap.size + 1 + 1, 0, none⟩ (.int .i64 l)).setCell ⟨w0.heap.size + 1 + 1, 1, none⟩ (.int .i64 c')).drew = W9 at LB L2 L3 L4 ⊢
      have m0 : W9.cell? ⟨w0.heap.size, 0, none⟩ = some (.int .i64 0) := L2.cell_at 0 _ (by simp)
      have m1 : W9.cell? ⟨w0.heap.size, 1, none⟩ = some (.slice none 0 0) := L2.cell_at 1 _ (by simp)
      have m2 : W9.cell? ⟨w0.heap.size + 1, 0, none⟩ = some (.int .u16 20) := L3.cell_at 0 _ (by simp)
      have m3 : W9.cell? ⟨w0.heap.size + 1 + 1, 0, none⟩ = some (.int .i64 l) := L4.cell_at 0 _ (by simp)
      have m4 : W9.cell? ⟨w0.heap.size + 1 + 1, 1, none⟩ = some (.int .i64 c') := L4.cell_at 1 _ (by simp)
      refine ⟨.tuple #[.agg #[.int .i64 0, .slice none 0 0], .int .u16 20, .agg #[.int .i64 l, .int .i64 c']], by simp [results, Tryz.results13, go_sem, m0, m1, m2, m3, m4], LB, ?_⟩
      rw [if_neg HBIG.out, HSPL.out]
      rfl
    | inl rows =>
      rw [hsp] at hx
      simp only at hx
      obtain ⟨vo, hrows, rfl⟩ := hx
      have HSPL := Lib.hid hsp
      clear hsp
      have hok := Sp.split_okay HSPL.out
      have hq : ∀ (w : World) (a : Addr) (v : Value), (w.setCell a v).heap.size = w.heap.size := fun w a v => by simp [World.setCell]
      have hrows2 := R_low (R_low (R_low hrows (b := w0.heap.size + 1) (by simp only [World.size_alloc]; omega) 0 (.int .u16 0)) (b := w0.heap.size + 1 + 1) (by simp only [World.size_alloc]; omega) 0 (.int .i64 0)) (b := w0.heap.size + 1 + 1) (by simp only [World.size_alloc]; omega) 1 (.int .i64 0)
      obtain ⟨AL, cL, hvL, hlL, hrC⟩ := Kd.R_reads hrows2
      subst hvL
      have P2 := Lib.hid ((B2.out.far (b' := w0.heap.size + 1) (by omega) 0 (.int .u16 0)).far (b' := w0.heap.size + 1 + 1) (by omega) 0 (.int .i64 0) |>.far (b' := w0.heap.size + 1 + 1) (by omega) 1 (.int .i64 0))
      have P3 := Lib.hid ((B3.out.set 0 (.int .u16 0)).far (b' := w0.heap.size + 1 + 1) (by omega) 0 (.int .i64 0) |>.far (b' := w0.heap.size + 1 + 1) (by omega) 1 (.int .i64 0))
      have P4 := Lib.hid ((B4.out.far (b' := w0.heap.size + 1) (by omega) 0 (.int .u16 0)).set 0 (.int .i64 0) |>.set 1 (.int .i64 0))
      have PB := Lib.hid (below_grown (below_grown (below_grown HB0.out (by omega) (grown_set w1 (w0.heap.size + 1) 0 (.int .u16 0)) (by omega)) (by rw [hq]; omega) (grown_set _ (w0.heap.size + 1 + 1) 0 (.int .i64 0)) (by omega)) (by rw [hq, hq]; omega) (grown_set _ (w0.heap.size + 1 + 1) 1 (.int .i64 0)) (by omega))
      have PS : (((w1.setCell ⟨w0.heap.size + 1, 0, none⟩ (.int .u16 0)).setCell ⟨w0.heap.size + 1 + 1, 0, none⟩ (.int .i64 0)).setCell ⟨w0.heap.size + 1 + 1, 1, none⟩ (.int .i64 0)).heap.size = w1.heap.size := by rw [hq, hq, hq]
      have HRC := Lib.hid hrC; have HOK := Lib.hid hok
      go_wp2_with fail
      clear c3 f3 c40 c41 f40 f41 B2 B3 B4 HB HB0 hrows hrows2 hrC hok
      generalize ((w1.setCell ⟨w0.heap.size + 1, 0, none⟩ (.int .u16 0)).setCell ⟨w0.heap.size + 1 + 1, 0, none⟩ (.int .i64 0)).setCell ⟨w0.heap.size + 1 + 1, 1, none⟩ (.int .i64 0) = W2 at P2 P3 P4 PB PS HRC ⊢
      have R0 : RdAt W2 w1.heap.size 0 [] ((W2.alloc (.map #[] 0)).alloc (.cells #[.int .i64 0, .slice none 0 0, .map (some w1.heap.size)] 73)) := by
        refine ⟨((Below.refl _ _).alloc (Nat.le_refl _) _).alloc (by rw [World.size_alloc]; omega) _, by omega, by simp only [World.size_alloc]; omega, ⟨#[], 0, ?_, rfl, fun e he => by simp at he⟩, .slice none 0 0, Blk.new_at (by rw [World.size_alloc]; omega), Kd.R_nil _ _ _ _ _⟩
        have h1 := alloc_at_new W2 (.map #[] 0)
        rw [PS] at h1
        exact (alloc_at_old _ _ _ (by rw [World.size_alloc]; omega)).trans h1
      have R0 := (show Aside _ from R0)
      have hrl : rows.length ≤ 1048577 := by have := HOK.out.2; have := HBIG.out; omega
      go_loopw [26] (fun iv wr => ∃ (i : Nat) (m : Int) (l : List Ru), iv = .int .i64 i ∧ i ≤ rows.length ∧ Aside (RdAt W2 w1.heap.size m l wr ∧ Cf.lines m l (rows.drop i) = Cf.lines 0 [] rows ∧ l.length ≤ 1000)) (fun iv _ => rows.length - (intOf iv).toNat)
      case atStart => exact ⟨0, 0, [], rfl, Nat.zero_le _, R0.out, rfl, by simp⟩
      case round =>
        clear R0
        obtain ⟨i, m, l, rfl, hi, HI⟩ := hrel
        by_cases hlt : i < rows.length
        · have hltz : (i : Int) < (rows.length : Int) := by omega
          obtain ⟨ad, cs, hA, _, ⟨AR, cR, hcs, hlR, hRC⟩, hcell⟩ := Kd.C_get HRC.out [] i (by omega) (by omega)
          subst hA hcs
          rw [Int.toNat_natCast] at hlR hRC hcell
          have hrowE : rows.getD i [] = rows[i] := by rw [List.getD_eq_getElem?_getD, List.getElem?_eq_getElem hlt]; rfl
          obtain ⟨row, hrow⟩ : ∃ row, row = rows.getD i [] := ⟨_, rfl⟩
          rw [← hrow] at hlR hRC hcell hrowE
          have hdrop : rows.drop i = row :: rows.drop (i + 1) := by rw [hrowE]; exact List.drop_eq_getElem_cons hlt
          have hmem : row ∈ rows := by rw [hrowE]; exact List.getElem_mem hlt
          obtain ⟨k1, k2, k3⟩ := HOK.out.1 row hmem
          have hcc := hcell 0 _ rfl
          have hbig := HBIG.out
          obtain ⟨ad2, hA2, p0, _, _⟩ := word_cells (Kd.C_below hRC HI.out.1.bel) 0 k3
          subst hA2
          simp only [Nat.zero_mul, addr_zero] at p0
          have hc1 := (HI.out.1.bel.cell (World.block_lt_of_cell? W2 _ hcc)).trans hcc
          simp only [kSl_sz, Nat.mul_one, Nat.add_zero] at hc1
          have CS := Lib.hid (fun (c : Nat) => conf_size W2 w1.heap.size m l wr (some ad2) c row HI.out.1 hRC k3 (fun x hx => by have := (k2 x hx).2; omega))
          have CR := Lib.hid (fun (c : Nat) => conf_rule W2 w1.heap.size m l wr (some ad2) c row HI.out.1 hRC k3 (by omega) HI.out.2.2 (fun x hx => by have := (k2 x hx).2; omega))
          have k3z : (0 : Int) < (row.length : Int) := by omega
          have HD := Lib.hid hdrop
          clear hcell hrowE hrow hdrop hmem k1 k2 k3 hRC hcc hlR hbig
          by_cases hsz : (Cf.at_ row 0).t = sSize
          · have hb : ((Cf.at_ row 0).t.toList == [115, 105, 122, 101]) = true := by rw [hsz, Lib.toList_data]; rfl
            have HL := Lib.hid (show Cf.line m l row = Cf.sizeL m l row from if_pos hsz)
            clear hsz
            go_wp2_with fail
            refine (CS.out _).mono ?_
            rintro x w3 hpost
            unfold RdPost at hpost
            obtain ⟨o, ho⟩ : ∃ o, o = Cf.line m l row := ⟨_, rfl⟩
            rw [← HL.out, ← ho] at hpost
            have HLO := Lib.hid ho
            clear ho
            cases o with
            | inl s' =>
              obtain ⟨rfl, hR⟩ := hpost
              have HR := (show Aside _ from hR)
              clear hR
              go_wp2
              go_roundw
              case rel =>
                refine ⟨i + 1, s'.1, s'.2, by go_num, by omega, HR.out, ?_, ?_⟩
                · have := HI.out.2.1
                  rw [HD.out, Cf.lines, ← HLO.out] at this
                  exact this
                · exact Cf.line_len HI.out.2.2 HLO.out.symm
              case measure => simp [intOf]; omega
            | inr e' =>
              obtain ⟨rfl, hB⟩ := hpost
              have HLN := Lib.hid (show Cf.lines 0 [] rows = .inr e' by
                rw [← HI.out.2.1, HD.out, Cf.lines, ← HLO.out])
              clear HI CS CR
              go_wp2
              have m2 := P2.out.below hB (by omega)
              have m3 := P3.out.below hB (by omega)
              have m4 := P4.out.below hB (by omega)
              refine leaves_cons (f := 27) (args := #[.pointer (some ⟨w0.heap.size, 0, none⟩), .pointer (some ⟨w0.heap.size + 1, 0, none⟩), .pointer (some ⟨w0.heap.size + 1 + 1, 0, none⟩)]) (by simp) (by simp [go_sem]) ?_
              refine (parse_caught w0.heap.size e'.1 e'.2.l e'.2.c w3 _ _ _ _ _ m2 m3 m4).mono ?_
              rintro x u' w4 ⟨rfl, rfl, hbb, q0, q1, q2⟩
              have y0 := q0.cell_at 0 _ rfl
              have y1 := q0.cell_at 1 _ rfl
              have y2 := q1.cell_at 0 _ rfl
              have y3 : w4.cell? ⟨w0.heap.size + 1 + 1, 0, none⟩ = _ := q2.cell_at 0 _ rfl
              have y4 : w4.cell? ⟨w0.heap.size + 1 + 1, 1, none⟩ = _ := q2.cell_at 1 _ rfl
              refine ⟨.tuple #[.agg #[.int .i64 0, .slice none 0 0], .int .u16 e'.1, .agg #[.int .i64 e'.2.l, .int .i64 e'.2.c]], by simp [results, Tryz.results13, go_sem, y0, y1, y2, y3, y4], ?_, ?_⟩
              · exact (PB.out.trans (hB.mono (by omega))).trans hbb
              · rw [if_neg HBIG.out, HSPL.out]
                simp only [HLN.out]
                rfl
          · have hb : ((Cf.at_ row 0).t.toList == [115, 105, 122, 101]) = false := by
              rw [beq_eq_false_iff_ne]
              intro h
              rw [Lib.toList_data] at h
              exact hsz (by cases hq3 : (Cf.at_ row 0).t with | mk d => rw [hq3] at h; cases d; simp only at h; rw [h]; rfl)
            have HL := Lib.hid (show Cf.line m l row = Cf.ruleL m l row from if_neg hsz)
            clear hsz
            go_wp2_with fail
            refine (CR.out _).mono ?_
            rintro x w3 hpost
            unfold RdPost at hpost
            obtain ⟨o, ho⟩ : ∃ o, o = Cf.line m l row := ⟨_, rfl⟩
            rw [← HL.out, ← ho] at hpost
            have HLO := Lib.hid ho
            clear ho
            cases o with
            | inl s' =>
              obtain ⟨rfl, hR⟩ := hpost
              have HR := (show Aside _ from hR)
              clear hR
              go_wp2
              go_roundw
              case rel =>
                refine ⟨i + 1, s'.1, s'.2, by go_num, by omega, HR.out, ?_, ?_⟩
                · have := HI.out.2.1
                  rw [HD.out, Cf.lines, ← HLO.out] at this
                  exact this
                · exact Cf.line_len HI.out.2.2 HLO.out.symm
              case measure => simp [intOf]; omega
            | inr e' =>
              obtain ⟨rfl, hB⟩ := hpost
              have HLN := Lib.hid (show Cf.lines 0 [] rows = .inr e' by
                rw [← HI.out.2.1, HD.out, Cf.lines, ← HLO.out])
              clear HI CS CR
              go_wp2
              have m2 := P2.out.below hB (by omega)
              have m3 := P3.out.below hB (by omega)
              have m4 := P4.out.below hB (by omega)
              refine leaves_cons (f := 27) (args := #[.pointer (some ⟨w0.heap.size, 0, none⟩), .pointer (some ⟨w0.heap.size + 1, 0, none⟩), .pointer (some ⟨w0.heap.size + 1 + 1, 0, none⟩)]) (by simp) (by simp [go_sem]) ?_
              refine (parse_caught w0.heap.size e'.1 e'.2.l e'.2.c w3 _ _ _ _ _ m2 m3 m4).mono ?_
              rintro x u' w4 ⟨rfl, rfl, hbb, q0, q1, q2⟩
              have y0 := q0.cell_at 0 _ rfl
              have y1 := q0.cell_at 1 _ rfl
              have y2 := q1.cell_at 0 _ rfl
              have y3 : w4.cell? ⟨w0.heap.size + 1 + 1, 0, none⟩ = _ := q2.cell_at 0 _ rfl
              have y4 : w4.cell? ⟨w0.heap.size + 1 + 1, 1, none⟩ = _ := q2.cell_at 1 _ rfl
              refine ⟨.tuple #[.agg #[.int .i64 0, .slice none 0 0], .int .u16 e'.1, .agg #[.int .i64 e'.2.l, .int .i64 e'.2.c]], by simp [results, Tryz.results13, go_sem, y0, y1, y2, y3, y4], ?_, ?_⟩
              · exact (PB.out.trans (hB.mono (by omega))).trans hbb
              · rw [if_neg HBIG.out, HSPL.out]
                simp only [HLN.out]
                rfl
        · have hltz : ¬ (i : Int) < (rows.length : Int) := by omega
          have HLN := Lib.hid (show Cf.lines 0 [] rows = .inl (m, l) by rw [← HI.out.2.1, List.drop_eq_nil_of_le (by omega)]; rfl)
          have hl1000 := HI.out.2.2
          have CE := Lib.hid (conf_end W2 w1.heap.size m l wr HI.out.1)
          clear HI
          go_wp2_with fail
          refine CE.out.mono ?_
          rintro x w3 hpost
          unfold EndPost at hpost
          cases hE : Cf.ends m l with
          | some e =>
            rw [hE] at hpost
            obtain ⟨rfl, hB⟩ := hpost
            have HEN := Lib.hid hE
            clear hE CE
            go_wp2
            have m2 := P2.out.below hB (by omega)
            have m3 := P3.out.below hB (by omega)
            have m4 := P4.out.below hB (by omega)
            refine leaves_cons (f := 27) (args := #[.pointer (some ⟨w0.heap.size, 0, none⟩), .pointer (some ⟨w0.heap.size + 1, 0, none⟩), .pointer (some ⟨w0.heap.size + 1 + 1, 0, none⟩)]) (by simp) (by simp [go_sem]) ?_
            refine (parse_caught w0.heap.size e 0 0 w3 _ _ _ _ _ m2 m3 m4).mono ?_
            rintro x u' w4 ⟨rfl, rfl, hbb, q0, q1, q2⟩
            have y0 := q0.cell_at 0 _ rfl
            have y1 := q0.cell_at 1 _ rfl
            have y2 := q1.cell_at 0 _ rfl
            have y3 : w4.cell? ⟨w0.heap.size + 1 + 1, 0, none⟩ = _ := q2.cell_at 0 _ rfl
            have y4 : w4.cell? ⟨w0.heap.size + 1 + 1, 1, none⟩ = _ := q2.cell_at 1 _ rfl
            refine ⟨.tuple #[.agg #[.int .i64 0, .slice none 0 0], .int .u16 e, .agg #[.int .i64 0, .int .i64 0]], by simp [results, Tryz.results13, go_sem, y0, y1, y2, y3, y4], ?_, ?_⟩
            · exact (PB.out.trans (hB.mono (by omega))).trans hbb
            · rw [if_neg HBIG.out, HSPL.out]
              simp only [HLN.out, HEN.out]
              rfl
          | none =>
            rw [hE] at hpost
            obtain ⟨rfl, hR⟩ := hpost
            have HEN := Lib.hid hE
            obtain ⟨v3, k3, kR⟩ := hR.rows
            obtain ⟨A3, c3, hv3, hlc3, hC3⟩ := Kd.R_reads kR
            subst hv3
            have y0 := k3.cell_at 0 _ rfl
            have y1 := k3.cell_at 1 _ rfl
            have CO := Lib.hid (config_order m A3 c3 l w3 hC3 (by omega))
            have HR := Lib.hid hR
            clear hE CE kR k3 hC3 hR
            go_wp2_with fail
            refine CO.out.mono ?_
            rintro x w4 ⟨v4, l', rfl, hs4, hR4, hB4⟩
            have hlt3 := HR.out.size
            have hw3 : Below W2.heap.size W2 w4 := HR.out.bel.trans (hB4.mono (by have := HR.out.hn; omega))
            have m2 := P2.out.below hw3 (by omega)
            have m3 := P3.out.below hw3 (by omega)
            have m4 := P4.out.below hw3 (by omega)
            have g0 := m2.cell_at 0 _ rfl
            have g1 := m2.cell_at 1 _ rfl
            have g2 : w4.cell? ⟨w0.heap.size + 1, 0, none⟩ = some (.int .u16 0) := m3.cell_at 0 _ (by simp)
            have g3 : w4.cell? ⟨w0.heap.size + 1 + 1, 0, none⟩ = some (.int .i64 0) := m4.cell_at 0 _ (by simp)
            have g4 : w4.cell? ⟨w0.heap.size + 1 + 1, 1, none⟩ = some (.int .i64 0) := m4.cell_at 1 _ (by simp)
            have f0 := m2.free 0
            have f1 := m2.free 1
            have f2 := m3.free 0
            have f3 := m4.free 0
            have f4 := m4.free 1
            obtain ⟨A4, c4, hv4⟩ := Kd.R_slice hR4
            subst hv4
            have HS4 := Lib.hid (And.intro hs4 (And.intro hR4 hB4)); have HM := Lib.hid (And.intro m2 (And.intro m3 m4)); have HW3 := Lib.hid hw3
            clear hs4 hR4 hB4 m2 m3 m4 hw3
            go_wp2
            obtain ⟨m2, m3, m4⟩ := HM.out
            obtain ⟨hs4, hR4, hB4⟩ := HS4.out
            have hsz4 := hB4.size
            have hn3 := HR.out.hn
            have u2 := ((((m2.set 0 (.int .i64 m)).set 1 (.slice A4 l'.length c4)).far (b' := w0.heap.size + 1) (by omega) 0 (.int .u16 0)).far (b' := w0.heap.size + 1 + 1) (by omega) 0 (.int .i64 0)).far (b' := w0.heap.size + 1 + 1) (by omega) 1 (.int .i64 0)
            have u3 := ((((m3.far (b' := w0.heap.size) (by omega) 0 (.int .i64 m)).far (b' := w0.heap.size) (by omega) 1 (.slice A4 l'.length c4)).set 0 (.int .u16 0)).far (b' := w0.heap.size + 1 + 1) (by omega) 0 (.int .i64 0)).far (b' := w0.heap.size + 1 + 1) (by omega) 1 (.int .i64 0)
            have u4 := ((((m4.far (b' := w0.heap.size) (by omega) 0 (.int .i64 m)).far (b' := w0.heap.size) (by omega) 1 (.slice A4 l'.length c4)).far (b' := w0.heap.size + 1) (by omega) 0 (.int .u16 0)).set 0 (.int .i64 0)).set 1 (.int .i64 0)
            have LB := below_grown (below_grown (below_grown (below_grown (below_grown (PB.out.trans (HW3.out.mono (by omega))) (by omega) (grown_set w4 w0.heap.size 0 (.int .i64 m)) (Nat.le_refl _)) (by rw [hq]; omega) (grown_set _ w0.heap.size 1 (.slice A4 l'.length c4)) (Nat.le_refl _)) (by rw [hq, hq]; omega) (grown_set _ (w0.heap.size + 1) 0 (.int .u16 0)) (by omega)) (by rw [hq, hq, hq]; omega) (grown_set _ (w0.heap.size + 1 + 1) 0 (.int .i64 0)) (by omega)) (by rw [hq, hq, hq, hq]; omega) (grown_set _ (w0.heap.size + 1 + 1) 1 (.int .i64 0)) (by omega)
            have LR := Kd.R_lower (base' := w0.heap.size) (R_low (R_low (R_low (R_low (R_low hR4 (b := w0.heap.size) (by omega) 0 (.int .i64 m)) (b := w0.heap.size) (by omega) 1 (.slice A4 l'.length c4)) (b := w0.heap.size + 1) (by omega) 0 (.int .u16 0)) (b := w0.heap.size + 1 + 1) (by omega) 0 (.int .i64 0)) (b := w0.heap.size + 1 + 1) (by omega) 1 (.int .i64 0)) (by omega)
            clear g0 g1 g2 g3 g4 f0 f1 f2 f3 f4 hR4 m2 m3 m4
            generalize ((((w4.setCell ⟨w0.heap.size, 0, none⟩ (.int .i64 m)).setCell ⟨w0.heap.size, 1, none⟩ (.slice A4 l'.length c4)).setCell ⟨w0.heap.size + 1, 0, none⟩ (.int .u16 0)).setCell ⟨w0.heap.size + 1 + 1, 0, none⟩ (.int .i64 0)).setCell ⟨w0.heap.size + 1 + 1, 1, none⟩ (.int .i64 0) = W9 at u2 u3 u4 LB LR ⊢
            have y0 : W9.cell? ⟨w0.heap.size, 0, none⟩ = some (.int .i64 m) := u2.cell_at 0 _ (by simp)
            have y1 : W9.cell? ⟨w0.heap.size, 1, none⟩ = some (.slice A4 l'.length c4) := u2.cell_at 1 _ (by simp)
            have y2 : W9.cell? ⟨w0.heap.size + 1, 0, none⟩ = some (.int .u16 0) := u3.cell_at 0 _ (by simp)
            have y3 : W9.cell? ⟨w0.heap.size + 1 + 1, 0, none⟩ = some (.int .i64 0) := u4.cell_at 0 _ (by simp)
            have y4 : W9.cell? ⟨w0.heap.size + 1 + 1, 1, none⟩ = some (.int .i64 0) := u4.cell_at 1 _ (by simp)
            refine leaves_cons (f := 27) (args := #[.pointer (some ⟨w0.heap.size, 0, none⟩), .pointer (some ⟨w0.heap.size + 1, 0, none⟩), .pointer (some ⟨w0.heap.size + 1 + 1, 0, none⟩)]) (by simp) (by simp [go_sem]) ?_
            refine (parse_idle ⟨w0.heap.size, 0, none⟩ ⟨w0.heap.size + 1, 0, none⟩ ⟨w0.heap.size + 1 + 1, 0, none⟩ W9).mono ?_
            rintro x u' w5 ⟨rfl, rfl, rfl⟩
            refine ⟨.tuple #[.agg #[.int .i64 m, .slice A4 l'.length c4], .int .u16 0, .agg #[.int .i64 0, .int .i64 0]], by simp [results, Tryz.results13, go_sem, y0, y1, y2, y3, y4], LB, ?_⟩
            rw [if_neg HBIG.out, HSPL.out]
            simp only [HLN.out, HEN.out]
            exact ⟨_, l', hs4, LR, rfl⟩
end Go.Proofs.YtamhpnenpoamhaaGreat

/- The reference's Parse of a text of rules: its lines are those of the program. -/
namespace Go.Proofs.YtamhpnenpoamhaaGreat
open Go.RowKit Go.Proofs.YtamhpnenpoamhaaGreatW.PrintWords Go.Proofs.YtamhpnenpoamhaaGreatW.PrintLast

theorem texts_length (row : List Wd) : (Cf.texts row).length = row.length := by simp [Cf.texts]
theorem texts_at (row : List Wd) (j : Nat) (hj : j < row.length) : bsw (Cf.texts row) j = (Cf.at_ row j).t := by
  unfold bsw Cf.texts Cf.at_
  rw [List.getD_eq_getElem?_getD, List.getD_eq_getElem?_getD, List.getElem?_map, List.getElem?_eq_getElem hj]; rfl
/-- What a line does, by the reference's words. -/
def LineOne (o : (Int × List Ru) × Int × Int) (row : List Wd) (c : (Int × List Ru) ⊕ (Int × Wd)) : Prop :=
  (o.2.1 = 0 ∧ c = .inl o.1) ∨ (o.2.1 ≠ 0 ∧ ∃ i : Nat, o.2.2 = i ∧ i < row.length ∧ c = .inr (o.2.1, Cf.at_ row i))
theorem Dg.err_ne {l : List UInt8} : (Dg.parse l).2 = 0 ∨ (Dg.parse l).2 ≠ 0 := by omega
theorem line_one (m : Int) (l : List Ru) (row : List Wd) (hm : 0 ≤ m) (hr : 0 < row.length) : LineOne (Cf.oneR m l (Cf.texts row)) row (Cf.line m l row) := by
  unfold Cf.oneR Cf.line
  rw [texts_at row 0 hr]
  by_cases hs : (Cf.at_ row 0).t = sSize
  · rw [if_pos hs, if_pos hs]
    unfold Cf.sizeL Cf.size Cf.sizeR
    rw [texts_length]
    by_cases h2 : row.length = 2
    · rw [if_neg (not_not_intro h2), if_neg (not_not_intro h2)]
      by_cases hm0 : 0 < m
      · rw [if_pos hm0, if_pos (show m ≠ 0 by omega)]
        exact .inr ⟨by simp, 0, rfl, hr, rfl⟩
      · rw [if_neg hm0, if_neg (show ¬ m ≠ 0 by omega), texts_at row 1 (by omega)]
        by_cases he : (Dg.parse (Cf.at_ row 1).t.data.toList).2 = 0
        · rw [if_neg (not_not_intro he), if_neg (not_not_intro he)]
          by_cases hr1 : 1 ≤ (Dg.parse (Cf.at_ row 1).t.data.toList).1 ∧ (Dg.parse (Cf.at_ row 1).t.data.toList).1 ≤ 1000000
          · rw [if_neg (not_not_intro hr1), if_neg (not_not_intro hr1)]
            exact .inl ⟨rfl, rfl⟩
          · rw [if_pos hr1, if_pos hr1]
            exact .inr ⟨by simp, 1, rfl, by omega, rfl⟩
        · rw [if_pos he, if_pos he]
          exact .inr ⟨he, 1, rfl, by omega, rfl⟩
    · rw [if_pos h2, if_pos h2]
      exact .inr ⟨by simp, 0, rfl, hr, rfl⟩
  · rw [if_neg hs, if_neg hs]
    unfold Cf.ruleL Cf.rule
    have hpa := Cf.parse_at (Cf.texts row) (by rw [texts_length]; exact hr)
    have hp2 := Cf.parse_two (Cf.texts row)
    rw [texts_length] at hpa hp2
    generalize Rl.parse (Cf.texts row) = r at hpa hp2
    obtain ⟨r, e, a⟩ := r
    simp only at hpa hp2
    by_cases he : e = 0
    · rw [if_neg (not_not_intro he), if_neg (not_not_intro he), ← Cf.find_has]
      by_cases hf : 0 ≤ Cf.find l r.p
      · rw [if_pos hf, if_pos (decide_eq_true hf)]
        refine .inr ⟨by simp, if r.p = ⟨#[]⟩ then 0 else 1, ?_, ?_, rfl⟩
        · show (if r.p = ⟨#[]⟩ then (0 : Int) else 1) = _
          split <;> rfl
        · have := hp2 he
          split <;> omega
      · rw [if_neg hf, if_neg (show ¬ decide (0 ≤ Cf.find l r.p) = true by simpa using hf)]
        by_cases hn : l.length < 1000
        · rw [if_neg (not_not_intro hn), if_neg (not_not_intro hn)]
          exact .inl ⟨rfl, rfl⟩
        · rw [if_pos hn, if_pos hn]
          exact .inr ⟨by simp, 0, rfl, hr, rfl⟩
    · rw [if_pos he, if_pos he]
      obtain ⟨h1, h2⟩ := hpa he
      refine .inr ⟨he, a.toNat, by show a = _; omega, by omega, rfl⟩
def rparsed (m : Int) (v : Value) (e l c : Int) : Ending := .returned (.tuple #[.agg #[.int .i64 m, v], .int .i64 e, .agg #[.int .i64 l, .int .i64 c]])
def RParsePost (xs : List Int) (w0 : World) (x : Ending) (w' : World) : Prop := Below w0.heap.size w0 w' ∧
  if 1048576 < xs.length then x = rparsed 0 (.slice none 0 0) 21 0 0 else
  match Sp.split xs with
  | .inr (l, c) => x = rparsed 0 (.slice none 0 0) 20 l c
  | .inl rows => match Cf.lines 0 [] rows with
    | .inr (e, wd) => x = rparsed 0 (.slice none 0 0) e wd.l wd.c
    | .inl (m, l) => match Cf.ends m l with
      | some e => x = rparsed 0 (.slice none 0 0) e 0 0
      | none => ∃ V vc l', SortedR l' l ∧ kRu.C w' V l'.length l' ∧ l'.length ≤ vc ∧ x = rparsed m (.slice V l'.length vc) 0 0 0
/-- How the reference's Split ends, for its Parse. -/
theorem rsplit_cases {xs : List Int} {w0 W0 : World} {x : Ending} {w' : World} (h : RSplitPost xs W0 x w') :
    (∃ e l c : Int, e ≠ 0 ∧ x = .returned (.tuple #[.slice none 0 0, .int .i64 e, .agg #[.int .i64 l, .int .i64 c]]) ∧ ∀ x2 w2, Below w0.heap.size w0 w2 → x2 = rparsed 0 (.slice none 0 0) e l c → RParsePost xs w0 x2 w2) ∨
    (∃ rows vo, xs.length ≤ 1048576 ∧ Sp.split xs = .inl rows ∧ (Kd.slice 76 kWd).R 74 w' W0.heap.size (fun _ => True) vo rows ∧ x = .returned (.tuple #[vo, .int .i64 0, .agg #[.int .i64 0, .int .i64 0]])) := by
  obtain ⟨_, hx⟩ := h
  by_cases hbig : 1048576 < xs.length
  · rw [if_pos hbig] at hx
    exact .inl ⟨21, 0, 0, by decide, hx, fun x2 w2 h1 h2 => ⟨h1, by rw [if_pos hbig]; exact h2⟩⟩
  · rw [if_neg hbig] at hx
    cases hsp : Sp.split xs with
    | inr p =>
      obtain ⟨l, c⟩ := p
      rw [hsp] at hx
      exact .inl ⟨20, l, c, by decide, hx, fun x2 w2 h1 h2 => ⟨h1, by rw [if_neg hbig, hsp]; exact h2⟩⟩
    | inl rows =>
      rw [hsp] at hx
      obtain ⟨vo, hR, hx⟩ := hx
      exact .inr ⟨rows, vo, by omega, rfl, hR, hx⟩
theorem Blk.has {w : World} {b t : Nat} {cs : Array Value} {a : Addr} {v : Value} (h : Blk w b cs t) (hc : w.cell? a = some v) (e : a.block = b) : v ∈ cs := by
  unfold World.cell? at hc
  rw [e, show w.heap[b]? = _ from h] at hc
  simp only at hc
  split at hc
  · cases hc
  · exact Array.mem_of_getElem? hc
theorem set2_far {W : World} {a : Addr} {v : Value} {b : Nat} (h : W.cell? a = some v) (hne : a.block ≠ b) (u1 u2 : Value) : ((W.setCell ⟨b, 0, none⟩ u1).setCell ⟨b, 1, none⟩ u2).cell? a = some v := by
  rw [World.cell?_setCell_far _ _ _ _ (Ne.symm hne), World.cell?_setCell_far _ _ _ _ (Ne.symm hne)]; exact h
/-- A row of rules is not in the block of a policy. -/
theorem rules_far {w : World} {V : Option Addr} {l : List Ru} {b t : Nat} {m : Int} {v : Value} (h : kRu.C w V l.length l) (hB : Blk w b #[.int .i64 m, v] t) (hv : ∀ n, v ≠ .int .u64 n) (i : Nat) (u : Value) : kRu.C (w.setCell ⟨b, i, none⟩ u) V l.length l := by
  obtain ⟨h1, h2, h3⟩ := h
  refine ⟨h1, h2, fun hp => ?_⟩
  obtain ⟨ad, hV, hc⟩ := h3 hp
  have hne : ad.block ≠ b := by
    intro e
    obtain ⟨cs, _, hK, hcell⟩ := hc 0 l[0] (by rw [List.getElem?_eq_getElem hp])
    obtain rfl := kRu_K hK
    have := hcell 1 (.int .u64 l[0].e) rfl
    rw [show 0 * kRu.sz + 1 = 0 + 1 by omega, addr_succ, e, hB.cell] at this
    rcases hq : ad.off + (0 + 1) with _ | _ | k
    · omega
    · rw [hq] at this
      simp at this
      exact hv _ this
    · rw [hq] at this
      simp at this
  refine ⟨ad, hV, fun j p hj => ?_⟩
  obtain ⟨cs, hl, hK, hcell⟩ := hc j p hj
  have hK' : kRu.K (w.setCell ⟨b, i, none⟩ u) p cs := by
    obtain rfl := kRu_K hK
    exact ⟨[.string p.p], _, rfl, rfl, [.int .u64 p.e], _, rfl, rfl, [.int .u64 p.u], [.int .u8 p.k], rfl, rfl, rfl⟩
  refine ⟨cs, hl, hK', fun q z hz => ?_⟩
  have e := hcell q z hz
  rw [← e]
  have hb : (ad.add (j * kRu.sz + q)).block = ad.block := by unfold Addr.add; split <;> rfl
  generalize ad.add (j * kRu.sz + q) = a at hb
  exact World.cell?_setCell_far w ⟨b, i, none⟩ a u (by show b ≠ a.block; rw [hb]; exact Ne.symm hne)
theorem has_false {l : List Ru} {p : ByteArray} (h : ¬ 0 ≤ Cf.find l p) : Cf.has l p = false := by rw [← Cf.find_has]; exact decide_eq_false h
theorem has_true {l : List Ru} {p : ByteArray} (h : 0 ≤ Cf.find l p) : Cf.has l p = true := by rw [← Cf.find_has]; exact decide_eq_true h
theorem Rl.run_p (B : Nat) : ∀ (ks : List Nat) (ss : List ByteArray) (r : Ru) (n : Int), r.p.size ≤ B → (∀ s ∈ ss, s.size ≤ B) → (Rl.run ks ss r n).1.p.size ≤ B
  | [], _, r, _, h, _ => by rw [Rl.run]; exact h; rintro _ _ _ _ e; cases e
  | _ :: _, [], r, _, h, _ => by rw [Rl.run]; exact h; rintro _ _ _ _ _ e; cases e
  | kd :: ks, s :: ss, r, n, h, hs => by
    rw [Rl.run]
    split
    · refine Rl.run_p B ks ss _ _ ?_ (fun x hx => hs x (by simp [hx]))
      unfold Rl.step
      split
      · exact hs s (by simp)
      · split
        · exact h
        · split <;> exact h
    · exact Nat.zero_le _
theorem Rl.parse_p (B : Nat) (ws : List ByteArray) (hs : ∀ s ∈ ws, s.size ≤ B) : (Rl.parse ws).1.p.size ≤ B := by
  unfold Rl.parse
  split
  · exact Rl.run_p B _ _ _ _ (Nat.zero_le _) (fun s h => hs s (List.mem_of_mem_tail h))
  · split
    · exact Rl.run_p B _ _ _ _ (Nat.zero_le _) (fun s h => hs s (List.mem_of_mem_tail h))
    · exact Nat.zero_le _
/-- What a line leaves is typed. -/
theorem line_typed {m : Int} {l : List Ru} {row : List Wd} {s : Int × List Ru} {B : Nat} (hm : 0 ≤ m) (hl : ∀ r ∈ l, r.p.size ≤ B) (hw : ∀ x ∈ row, x.t.size ≤ B) (h : Cf.line m l row = .inl s) : 0 ≤ s.1 ∧ ∀ r ∈ s.2, r.p.size ≤ B := by
  unfold Cf.line at h
  split at h
  · unfold Cf.sizeL at h
    split at h
    · rename_i n hn
      injection h with h
      subst h
      refine ⟨?_, hl⟩
      unfold Cf.size at hn
      split at hn
      · cases hn
      · split at hn
        · cases hn
        · split at hn
          · cases hn
          · split at hn
            · cases hn
            · injection hn with hn
              subst hn
              exact (Dg.parse_range _).1
    · cases h
  · unfold Cf.ruleL at h
    split at h
    · rename_i k hk
      injection h with h
      subst h
      refine ⟨hm, ?_⟩
      unfold Cf.rule at hk
      split at hk
      · cases hk
      · split at hk
        · cases hk
        · split at hk
          · cases hk
          · injection hk with hk
            subst hk
            intro r hr
            rcases List.mem_append.1 hr with hr | hr
            · exact hl r hr
            · rw [List.mem_singleton.1 hr]
              exact Rl.parse_p B _ (fun x hx => by obtain ⟨y, hy, rfl⟩ := List.mem_map.1 hx; exact hw y hy)
    · cases h

/-- The reference's Parse at line k, its policy in block b. -/
structure RPaAt (w2 : World) (b : Nat) (rows : List (List Wd)) (k : Nat) (m : Int) (V : Option Addr) (vc : Nat) (l : List Ru) (wr : World) : Prop where
  bel : Below b w2 wr
  size : b < wr.heap.size
  blk : Blk wr b #[.int .i64 m, .slice V l.length vc] 28
  rules : kRu.C wr V l.length l
  cap : l.length ≤ vc
  few : l.length ≤ 1000
  m0 : 0 ≤ m
  typed : ∀ r ∈ l, r.p.size ≤ 9223372036854775807
  lines : Cf.lines m l (rows.drop k) = Cf.lines 0 [] rows

set_option maxHeartbeats 16000000 in
set_option maxRecDepth 100000 in
theorem ref_parse (A : Option Addr) (c : Nat) (xs : List Int) (w : World) (hc : (Kd.int .u8).C w A xs.length xs) (hle : xs.length ≤ c) :
    Calls Tryz.prog 20 #[.slice A xs.length c] w (RParsePost xs w) := by
  obtain ⟨W, hW⟩ : ∃ W, W = (w.alloc (.cells #[.int .i64 0, .slice none 0 0] 28)).alloc (.cells #[.int .i64 0, .int .i64 0] 44) := ⟨_, rfl⟩
  have HBW := Lib.hid (show Below w.heap.size w W by rw [hW]; exact parse_below _ _ _)
  have HSW := Lib.hid (show W.heap.size = w.heap.size + 2 by rw [hW]; simp)
  have HT2 := Lib.hid (show Blk W w.heap.size #[.int .i64 0, .slice none 0 0] 28 by rw [hW]; exact (Blk.new _ _ _).alloc _)
  have HT4 := Lib.hid (show Blk W (w.heap.size + 1) #[.int .i64 0, .int .i64 0] 44 by rw [hW]; exact Blk.new_at (by simp))
  have SP := Lib.hid (ref_split A c xs W (Kd.C_below hc HBW.out) hle)
  clear hc
  go_enter Tryz.func20, Tryz.ntmps20
  go_wp2_with fail
  rw [← hW]
  clear hW
  refine SP.out.mono ?_
  rintro x w1 hx
  have HB1 := Lib.hid hx.1
  have hs1 := HB1.out.size
  have hs1' : w.heap.size + 2 ≤ w1.heap.size := by rw [← HSW.out]; exact hs1
  rcases rsplit_cases (w0 := w) hx with ⟨e, lq, cq, he, rfl, hfin⟩ | ⟨rows, vo, hxl, hsp, hR, rfl⟩
  · have hbe : (e != 0) = true := by simpa using he
    have HF := Lib.hid hfin
    have B2 := (HT2.out.below HB1.out HT2.out.lt).alloc (.cells #[.int .i64 lq, .int .i64 cq] 44)
    have B4 := (HT4.out.below HB1.out HT4.out.lt).alloc (.cells #[.int .i64 lq, .int .i64 cq] 44)
    have B7 := Blk.new w1 #[.int .i64 lq, .int .i64 cq] 44
    have HBL := Lib.hid ((HBW.out.trans (HB1.out.mono HBW.out.size)).alloc (by omega) (.cells #[.int .i64 lq, .int .i64 cq] 44))
    have hsz : w.heap.size + 2 ≤ (w1.alloc (.cells #[.int .i64 lq, .int .i64 cq] 44)).heap.size := by rw [World.size_alloc]; omega
    have HQ1 := Lib.hid (show w1.heap.size < (w1.alloc (.cells #[.int .i64 lq, .int .i64 cq] 44)).heap.size by rw [World.size_alloc]; omega)
    have HB2 := Lib.hid B2; have HB4 := Lib.hid B4; have HB7 := Lib.hid B7
    clear he hfin hx B2 B4 B7
    go_wp2_with fail
    generalize w1.alloc (.cells #[.int .i64 lq, .int .i64 cq] 44) = W2 at HB2 HB4 HB7 HBL hsz HQ1 ⊢
    have r70 := HB7.out.cell_at 0 (.int .i64 lq) rfl
    have r71 := HB7.out.cell_at 1 (.int .i64 cq) rfl
    have f20 := HB2.out.free 0
    have f21 := HB2.out.free 1
    have f40 := HB4.out.free 0
    have f41 := HB4.out.free 1
    have z20 := HB2.out.cell_at 0 (.int .i64 0) rfl
    have z21 := HB2.out.cell_at 1 (.slice none 0 0) rfl
    have z40 := HB4.out.cell_at 0 (.int .i64 0) rfl
    have z41 := HB4.out.cell_at 1 (.int .i64 0) rfl
    refine startK 6 (fun w' => w'.cell? ⟨w1.heap.size, 0, none⟩ = some (.int .i64 lq) ∧ w'.cell? ⟨w1.heap.size, 1, none⟩ = some (.int .i64 cq)) [] (by kernel_rfl) rfl (by kernel_rfl) ⟨r70, r71⟩ (fun hHeld => ?_)
    repeat (refine takeK (v := ?_) (a' := ?_) rfl rfl rfl (by kernel_rfl) (fun _ _ _ h => h) (Or.inl ⟨by rfl, ?_⟩) hHeld ?_ ?_; rotate_left; (rintro w' ⟨s0, s1⟩; go_simp; with_reducible rfl); rotate_left; (simp only [Act.put, List.setIfInBounds_toArray, List.set_cons_zero, List.set_cons_succ]; rfl))
    have q2 := (HB2.out.set 0 (.int .i64 0)).set 1 (.slice none 0 0)
    have q4 := (HB4.out.far (b' := w.heap.size) (by omega) 0 (.int .i64 0)).far (b' := w.heap.size) (by omega) 1 (.slice none 0 0)
    have q7 := (HB7.out.far (b' := w.heap.size) (by omega) 0 (.int .i64 0)).far (b' := w.heap.size) (by omega) 1 (.slice none 0 0)
    have t2 := (q2.far (b' := w.heap.size + 1) (by omega) 0 (.int .i64 lq)).far (b' := w.heap.size + 1) (by omega) 1 (.int .i64 cq)
    have t4 := (q4.set 0 (.int .i64 lq)).set 1 (.int .i64 cq)
    have t7 := (q7.far (b' := w.heap.size + 1) (by omega) 0 (.int .i64 lq)).far (b' := w.heap.size + 1) (by omega) 1 (.int .i64 cq)
    refine oneK rfl rfl rfl (by kernel_rfl) rfl (fun K hK => ?_)
    go_simp
    refine hK.out _ _ ⟨cell_drew (q7.cell_at 0 _ (by simp)), cell_drew (q7.cell_at 1 _ (by simp))⟩ (fun hHeld2 => ?_)
    refine oneK rfl rfl rfl (by kernel_rfl) rfl (fun K2 hK2 => ?_)
    go_simp
    refine hK2.out _ _ hHeld2 (fun hHeld3 => ?_)
    refine oneK rfl rfl rfl (by kernel_rfl) rfl (fun K3 hK3 => ?_)
    go_simp
    refine hK3.out _ _ ⟨cell_drew (t7.cell_at 0 _ (by simp)), cell_drew (t7.cell_at 1 _ (by simp))⟩ (fun hHeld4 => ?_)
    refine done_ (by kernel_rfl) ?_
    go_wp2
    have LB := below_set2 (b := w.heap.size + 1) (below_set2 (b := w.heap.size) HBL.out (Nat.le_refl _) (.int .i64 0) (.slice none 0 0)) (by omega) (.int .i64 lq) (.int .i64 cq)
    have m0 := cell_drew (t2.cell_at 0 (.int .i64 0) (by simp))
    have m1 := cell_drew (t2.cell_at 1 (.slice none 0 0) (by simp))
    have m2 := cell_drew (t4.cell_at 0 (.int .i64 lq) (by simp))
    have m3 := cell_drew (t4.cell_at 1 (.int .i64 cq) (by simp))
    exact bodyPost_ret (v := .tuple #[.agg #[.int .i64 0, .slice none 0 0], .int .i64 e, .agg #[.int .i64 lq, .int .i64 cq]]) (by simp [results, Tryz.results20, go_sem, m0, m1, m2, m3]) rfl (HF.out _ _ LB.drew rfl)
  · have hok := Sp.split_okay hsp
    have HOK := Lib.hid hok; have HSP := Lib.hid hsp
    have HF : Hid (∀ x2 w2, Below w.heap.size w w2 → (match Cf.lines 0 [] rows with
        | .inr (e, wd) => x2 = rparsed 0 (.slice none 0 0) e wd.l wd.c
        | .inl (m, l) => match Cf.ends m l with
          | some e => x2 = rparsed 0 (.slice none 0 0) e 0 0
          | none => ∃ V vc l', SortedR l' l ∧ kRu.C w2 V l'.length l' ∧ l'.length ≤ vc ∧ x2 = rparsed m (.slice V l'.length vc) 0 0 0) → RParsePost xs w x2 w2) :=
      fun x2 w2 h1 h2 => ⟨h1, by rw [if_neg (by omega), hsp]; exact h2⟩
    obtain ⟨AR, cR, hvo, hcR, hRC⟩ := Kd.R_reads hR
    subst hvo
    have hrl : rows.length ≤ 1048577 := by have := hok.2; omega
    obtain ⟨W2, hW2⟩ : ∃ W2, W2 = (w1.alloc (.cells #[.int .i64 0, .int .i64 0] 44)).alloc (.cells #[.int .i64 0, .slice none 0 0] 28) := ⟨_, rfl⟩
    have hb2 : Below w1.heap.size w1 W2 := by rw [hW2]; exact parse_below _ _ _
    have hs2 : W2.heap.size = w1.heap.size + 2 := by rw [hW2]; simp
    have HT8 := Lib.hid (show Blk W2 (w1.heap.size + 1) #[.int .i64 0, .slice none 0 0] 28 by rw [hW2]; exact Blk.new_at (by simp))
    have HB2 := Lib.hid hb2; have HS2 := Lib.hid hs2; have HRC := Lib.hid hRC
    have HT2' := Lib.hid ((HT2.out.below HB1.out HT2.out.lt).below hb2 (by omega))
    have HT4' := Lib.hid ((HT4.out.below HB1.out HT4.out.lt).below hb2 (by omega))
    have HBL := Lib.hid ((HBW.out.trans (HB1.out.mono HBW.out.size)).trans (hb2.mono (by omega)))
    clear hok hsp hR hRC hb2 hs2 hx HT2 HT4
    go_wp2
    rw [← hW2]
    clear hW2
    go_loopw [9] (fun kv wr => ∃ (k : Nat) (m : Int) (V : Option Addr) (vc : Nat) (l : List Ru), kv = .int .i64 k ∧ k ≤ rows.length ∧ Aside1 (RPaAt W2 (w1.heap.size + 1) rows k m V vc l wr)) (fun kv _ => rows.length - (intOf kv).toNat)
    case atStart => exact ⟨0, 0, none, 0, [], rfl, Nat.zero_le _, ⟨⟨Below.refl _ _, by have := HS2.out; omega, HT8.out, ⟨rfl, Nat.zero_le _, fun h => by simp at h⟩, Nat.le_refl _, Nat.zero_le _, Int.le_refl _, (fun r hr => by simp at hr), rfl⟩⟩⟩
    case round =>
      obtain ⟨k, m, V, vc, l, rfl, hk, HH⟩ := hrel
      have HH := Lib.hid HH.out
      have y0 := HH.out.blk.cell_at 0 (.int .i64 m) rfl
      have y1 := HH.out.blk.cell_at 1 (.slice V l.length vc) rfl
      by_cases hlt : k < rows.length
      · have hltz : (k : Int) < (rows.length : Int) := by omega
        obtain ⟨ad, cs, hA, _, ⟨AL, cL, hcs, hcL, hLC⟩, hcell⟩ := Kd.C_get HRC.out [] k (by omega) (by omega)
        subst hA hcs
        rw [Int.toNat_natCast] at hcL hLC hcell
        obtain ⟨row, hrow⟩ : ∃ row, row = rows.getD k [] := ⟨_, rfl⟩
        rw [← hrow] at hcL hLC hcell
        have hrowE : rows.getD k [] = rows[k] := by rw [List.getD_eq_getElem?_getD, List.getElem?_eq_getElem hlt]; rfl
        have hdrop : rows.drop k = row :: rows.drop (k + 1) := by rw [hrow, hrowE]; exact List.drop_eq_getElem_cons hlt
        obtain ⟨k1, k2, k3⟩ := HOK.out.1 row (by rw [hrow, hrowE]; exact List.getElem_mem hlt)
        have hrl2 : row.length ≤ 1048577 := by omega
        have hcc := hcell 0 _ rfl
        simp only [kSl_sz, Nat.mul_one, Nat.add_zero] at hcc
        have hw1 : w1.heap.size + 1 ≤ W2.heap.size := by have := HS2.out; omega
        have HBR := Lib.hid (show Below w1.heap.size w1 wr from HB2.out.trans (HH.out.bel.mono (by omega)))
        have hcw := pw_cell_below HBR.out hcc
        have hxl' : xs.length ≤ 1048576 := hxl
        have hk2 : ∀ x ∈ row, x.t.size ≤ 9223372036854775807 := fun x hx => by have := (k2 x hx).2; omega
        have HK2 := Lib.hid hk2
        have HLC := Lib.hid hLC; have HDR := Lib.hid hdrop
        have hrz : (row.length : Int) ≤ 1048577 := by omega
        clear hk2 k2 hLC hdrop hrowE hrow hcell hcc k1
        go_wp2
        obtain ⟨wo, hwo⟩ : ∃ wo : World, wo = wr := ⟨_, rfl⟩
        subst hwo
        go_loopw [10, 11] (fun v iv w3 => ∃ (i : Nat), iv = .int .i64 i ∧ i ≤ row.length ∧ Aside1 (Below wo.heap.size wo w3 ∧ Kd.string.R 9 w3 wo.heap.size (fun _ => True) v ((Cf.texts row).take i))) (fun _ iv _ => row.length - (intOf iv).toNat)
        case atStart => exact ⟨0, rfl, Nat.zero_le _, ⟨Below.refl _ _, Kd.R_nil _ _ _ _ _⟩⟩
        case round =>
          obtain ⟨i, rfl, hi, HI⟩ := hrel
          have HI := Lib.hid HI.out
          have c1 := pw_cell_below HI.out.1 hcw
          have bw := HBR.out.size
          have HBI := Lib.hid (HBR.out.trans (HI.out.1.mono bw))
          by_cases hil : i < row.length
          · have hilz : (i : Int) < (row.length : Int) := by omega
            obtain ⟨ad2, hA2, p0, _⟩ := word_cells' (Kd.C_below HLC.out HBI.out) i hil
            subst hA2
            have hti : (Cf.texts row).take (i + 1) = (Cf.texts row).take i ++ [(Cf.at_ row i).t] := by
              have hli : i < (Cf.texts row).length := by rw [texts_length]; exact hil
              rw [List.take_succ_eq_append_getElem hli]
              simp [Cf.texts, Cf.at_, List.getD_eq_getElem?_getD, List.getElem?_eq_getElem hil]
            have HTI := Lib.hid hti
            have HTL := Lib.hid (show ((Cf.texts row).take i).length ≤ 1048577 by rw [List.length_take]; omega)
            clear hti
            go_wp2_with (at_builtin; refine Kd.R_append Kd.string (w0 := wo) (W := wr) wo.heap.size rfl (.tmp 42) (.tmp 51) 32 9 _ 16 rfl (by kernel_rfl) strs_info rfl (by decide) (by decide) u10 ((Cf.texts row).take i) (Cf.at_ row i).t [.string (Cf.at_ row i).t] (fun _ => True) (fun _ => False) rfl rfl rfl (fun _ h => h.elim) (fun _ _ => trivial) HI.out.2 HI.out.1 HI.out.1.size (by have := HTL.out; omega) ?_; intro v1 w4 hR1 hB1 hg1 hat)
            go_roundw
            case rel => exact ⟨i + 1, by go_num, by omega, ⟨hB1, by rw [HTI.out]; exact hR1⟩⟩
            case measure => simp [intOf]; omega
          · have hilz : ¬ (i : Int) < (row.length : Int) := by omega
            have hfull : (Cf.texts row).take i = Cf.texts row := List.take_of_length_le (by rw [texts_length]; omega)
            have hT := HI.out.2
            rw [hfull] at hT
            obtain ⟨A2, c2, hv2, hc2, hC2⟩ := Kd.R_reads hT
            subst hv2
            have ON := Lib.hid (ref_one m V vc l A2 c2 (Cf.texts row) wr (Kd.C_below HH.out.rules HI.out.1) HH.out.cap HH.out.few hC2 (by rw [texts_length]; exact k3) (fun s hs => by obtain ⟨x, hx, rfl⟩ := List.mem_map.1 hs; exact HK2.out x hx))
            have LO := Lib.hid (line_one m l row HH.out.m0 k3)
            have B8 := HH.out.blk.below HI.out.1 HH.out.blk.lt
            have z80 := B8.cell_at 0 (.int .i64 m) rfl
            have z81 := B8.cell_at 1 (.slice V l.length vc) rfl
            have HB8 := Lib.hid B8
            have hbo := HH.out.size
            have hbi := HI.out.1.size
            clear B8 hfull hT hC2
            generalize Cf.oneR m l (Cf.texts row) = o at ON LO
            obtain ⟨⟨m', l'⟩, e, a⟩ := o
            go_wp2_with fail
            refine ON.out.mono ?_
            rintro x w5 ⟨V', vc', rfl, hC', hcap', hB'⟩
            have HC' := Lib.hid hC'; have HB' := Lib.hid hB'
            have hs5 := hB'.size
            obtain ⟨w6, hw6⟩ : ∃ w6, w6 = w5.alloc (.cells #[.int .i64 m', .slice V' l'.length vc'] 28) := ⟨_, rfl⟩
            have h56 : Below w5.heap.size w5 w6 := by rw [hw6]; exact (Below.refl _ _).alloc (Nat.le_refl _) _
            have B12 : Blk w6 w5.heap.size #[.int .i64 m', .slice V' l'.length vc'] 28 := by rw [hw6]; exact Blk.new _ _ _
            have x0 := B12.cell_at 0 (.int .i64 m') rfl
            have x1 := B12.cell_at 1 (.slice V' l'.length vc') rfl
            have hs6 := h56.size
            have HB6 := Lib.hid (show Below wo.heap.size wo w6 from (HI.out.1.trans (hB'.mono hbi)).trans (h56.mono (by omega)))
            have B8 := HH.out.blk.below HB6.out HH.out.blk.lt
            have g80 := B8.cell_at 0 (.int .i64 m) rfl
            have g81 := B8.cell_at 1 (.slice V l.length vc) rfl
            have f80 := B8.free 0
            have f81 := B8.free 1
            have HB8 := Lib.hid B8
            have HC6 := Lib.hid (Kd.C_below hC' h56)
            have HCAP := Lib.hid hcap'
            clear hC' hcap' hB' h56 B12 B8
            subst hw6
            rcases LO.out with ⟨he, hli⟩ | ⟨he, ia, hia, hial, hli⟩
            · simp only at he hli
              subst he
              have HLI := Lib.hid hli; clear hli
              go_wp2
              have hW2s := HS2.out
              have L8 := (HB8.out.set 0 (.int .i64 m')).set 1 (.slice V' l'.length vc')
              have R1 := rules_far HC6.out HB8.out (fun _ h => by cases h) 0 (.int .i64 m')
              have R2 := rules_far R1 (by simpa using HB8.out.set 0 (.int .i64 m')) (fun _ h => by cases h) 1 (.slice V' l'.length vc')
              have bl0 := HH.out.bel.trans (HB6.out.mono (by omega))
              have bl1 := below_grown bl0 (by have := bl0.size; omega) (grown_set _ (w1.heap.size + 1) 0 (.int .i64 m')) (Nat.le_refl _)
              have bl2 := below_grown bl1 (by have := bl1.size; omega) (grown_set _ (w1.heap.size + 1) 1 (.slice V' l'.length vc')) (Nat.le_refl _)
              have hln := HH.out.lines
              rw [HDR.out, Cf.lines, HLI.out] at hln
              have hty := line_typed HH.out.m0 HH.out.typed HK2.out HLI.out
              go_roundw
              case rel => exact ⟨k + 1, m', V', vc', l', by go_num, by omega, ⟨⟨bl2, by rw [size_set, size_set]; omega, by simpa using L8, R2, HCAP.out, Cf.line_len HH.out.few HLI.out, hty.1, hty.2, hln⟩⟩⟩
              case measure => simp [intOf]; omega
            · simp only at he hli
              have HE := Lib.hid (show e ≠ 0 from he)
              have hbe : (e != 0) = true := by simpa using he
              have HLI := Lib.hid hli
              obtain rfl : a = (ia : Int) := hia
              obtain ⟨ad2, hA2, p0, p1, p2⟩ := word_cells' (Kd.C_below HLC.out (HBR.out.trans (HB6.out.mono bw))) ia hial
              subst hA2
              have hcx := pw_cell_below HB6.out hcw
              have hialz : (ia : Int) < (row.length : Int) := by omega
              have q2 := HT2'.out.below (HH.out.bel.trans (HB6.out.mono (by omega))) (by omega)
              have q4 := HT4'.out.below (HH.out.bel.trans (HB6.out.mono (by omega))) (by omega)
              have HBZ := Lib.hid (HBL.out.trans ((HH.out.bel.trans (HB6.out.mono (by omega))).mono (by omega)))
              have f20 := q2.free 0
              have f21 := q2.free 1
              have f40 := q4.free 0
              have f41 := q4.free 1
              have z20 := q2.cell_at 0 (.int .i64 0) rfl
              have z21 := q2.cell_at 1 (.slice none 0 0) rfl
              have z40 := q4.cell_at 0 (.int .i64 0) rfl
              have z41 := q4.cell_at 1 (.int .i64 0) rfl
              have HQ2 := Lib.hid q2; have HQ4 := Lib.hid q4
              have hn1 : (ad.add k).block ≠ w.heap.size := fun e => by have := HQ2.out.has hcx e; simp at this
              have hn2 : (ad.add k).block ≠ w.heap.size + 1 := fun e => by have := HQ4.out.has hcx e; simp at this
              have hm1 : (ad2.add (ia * 3)).block ≠ w.heap.size := fun e => by have := HQ2.out.has p0 e; simp at this
              have hm2 : (ad2.add (ia * 3)).block ≠ w.heap.size + 1 := fun e => by have := HQ4.out.has p0 e; simp at this
              have HNE := Lib.hid (And.intro hn1 (And.intro hn2 (And.intro hm1 hm2)))
              clear hn1 hn2 hm1 hm2
              clear he hli q2 q4 hcw c1 g80 g81 z80 z81
              go_wp2_with fail
              generalize w5.alloc (.cells #[.int .i64 m', .slice V' l'.length vc'] 28) = w6 at p0 p1 p2 hcx HQ2 HQ4 HBZ f20 f21 f40 f41 z20 z21 z40 z41 ⊢
              refine startK 22 (fun w' => w'.cell? (ad.add k) = some (.slice (some ad2) row.length cL) ∧ w'.cell? ⟨(ad2.add (ia * 3)).block, (ad2.add (ia * 3)).off + 1, none⟩ = some (.int .i64 (Cf.at_ row ia).l) ∧ w'.cell? ⟨(ad2.add (ia * 3)).block, (ad2.add (ia * 3)).off + 2, none⟩ = some (.int .i64 (Cf.at_ row ia).c)) [] (by kernel_rfl) rfl (by kernel_rfl) ⟨hcx, p1, p2⟩ (fun hHeld => ?_)
              repeat (refine takeK (v := ?_) (a' := ?_) rfl rfl rfl (by kernel_rfl) (fun _ _ _ h => h) (Or.inl ⟨by rfl, ?_⟩) hHeld ?_ ?_; rotate_left; (rintro w' ⟨s0, s1, s2⟩; go_simp; with_reducible rfl); rotate_left; (simp only [Act.put, List.setIfInBounds_toArray, List.set_cons_zero, List.set_cons_succ]; rfl))
              have e1 := set2_far hcx HNE.out.1 (.int .i64 0) (.slice none 0 0)
              have e2 := set2_far p1 HNE.out.2.2.1 (.int .i64 0) (.slice none 0 0)
              have e3 := set2_far p2 HNE.out.2.2.1 (.int .i64 0) (.slice none 0 0)
              have d1 := set2_far e1 HNE.out.2.1 (.int .i64 (Cf.at_ row ia).l) (.int .i64 (Cf.at_ row ia).c)
              have d2 := set2_far e2 HNE.out.2.2.2 (.int .i64 (Cf.at_ row ia).l) (.int .i64 (Cf.at_ row ia).c)
              have d3 := set2_far e3 HNE.out.2.2.2 (.int .i64 (Cf.at_ row ia).l) (.int .i64 (Cf.at_ row ia).c)
              have q2 := (HQ2.out.set 0 (.int .i64 0)).set 1 (.slice none 0 0)
              have q4 := (HQ4.out.far (b' := w.heap.size) (by omega) 0 (.int .i64 0)).far (b' := w.heap.size) (by omega) 1 (.slice none 0 0)
              have t2 := (q2.far (b' := w.heap.size + 1) (by omega) 0 (.int .i64 (Cf.at_ row ia).l)).far (b' := w.heap.size + 1) (by omega) 1 (.int .i64 (Cf.at_ row ia).c)
              have t4 := (q4.set 0 (.int .i64 (Cf.at_ row ia).l)).set 1 (.int .i64 (Cf.at_ row ia).c)
              refine oneK rfl rfl rfl (by kernel_rfl) rfl (fun K hK => ?_)
              go_simp
              refine hK.out _ _ ⟨cell_drew e1, cell_drew e2, cell_drew e3⟩ (fun hHeld2 => ?_)
              refine oneK rfl rfl rfl (by kernel_rfl) rfl (fun K2 hK2 => ?_)
              go_simp
              refine hK2.out _ _ hHeld2 (fun hHeld3 => ?_)
              refine oneK rfl rfl rfl (by kernel_rfl) rfl (fun K3 hK3 => ?_)
              go_simp
              refine hK3.out _ _ ⟨cell_drew d1, cell_drew d2, cell_drew d3⟩ (fun hHeld4 => ?_)
              refine done_ (by kernel_rfl) ?_
              go_wp2
              have LB := below_set2 (b := w.heap.size + 1) (below_set2 (b := w.heap.size) HBZ.out (Nat.le_refl _) (.int .i64 0) (.slice none 0 0)) (by omega) (.int .i64 (Cf.at_ row ia).l) (.int .i64 (Cf.at_ row ia).c)
              have m0 := cell_drew (t2.cell_at 0 (.int .i64 0) (by simp))
              have m1 := cell_drew (t2.cell_at 1 (.slice none 0 0) (by simp))
              have m2 := cell_drew (t4.cell_at 0 (.int .i64 (Cf.at_ row ia).l) (by simp))
              have m3 := cell_drew (t4.cell_at 1 (.int .i64 (Cf.at_ row ia).c) (by simp))
              have hln := HH.out.lines
              rw [HDR.out, Cf.lines, HLI.out] at hln
              exact bodyPost_ret (v := .tuple #[.agg #[.int .i64 0, .slice none 0 0], .int .i64 e, .agg #[.int .i64 (Cf.at_ row ia).l, .int .i64 (Cf.at_ row ia).c]]) (by simp [results, Tryz.results20, go_sem, m0, m1, m2, m3]) rfl (HF.out _ _ LB.drew (by rw [← hln]; rfl))
      · have hltz : ¬ (k : Int) < (rows.length : Int) := by omega
        have hln := HH.out.lines
        rw [List.drop_of_length_le (by omega), Cf.lines] at hln
        have HLN := Lib.hid hln.symm
        have hbel := HH.out.bel
        have hbo := HH.out.size
        have q2 := HT2'.out.below hbel (by omega)
        have q4 := HT4'.out.below hbel (by omega)
        have HBZ := Lib.hid (HBL.out.trans (hbel.mono (by omega)))
        have f20 := q2.free 0
        have f21 := q2.free 1
        have f40 := q4.free 0
        have f41 := q4.free 1
        have z20 := q2.cell_at 0 (.int .i64 0) rfl
        have z21 := q2.cell_at 1 (.slice none 0 0) rfl
        have z40 := q4.cell_at 0 (.int .i64 0) rfl
        have z41 := q4.cell_at 1 (.int .i64 0) rfl
        have HQ2 := Lib.hid q2; have HQ4 := Lib.hid q4
        clear hln q2 q4 hbel
        have hm0 := HH.out.m0
        by_cases hm : m = 0
        · have hmb : (m == 0) = true := by rw [hm]; rfl
          have HE := Lib.hid (show Cf.ends m l = some 30 by unfold Cf.ends; rw [if_pos (by omega)])
          clear hm
          go_wp2
          have t2 := ((HQ2.out.set 0 (.int .i64 0)).set 1 (.slice none 0 0)).far (b' := w.heap.size + 1) (by omega) 0 (.int .i64 0) |>.far (b' := w.heap.size + 1) (by omega) 1 (.int .i64 0)
          have t4 := (((HQ4.out.far (b' := w.heap.size) (by omega) 0 (.int .i64 0)).far (b' := w.heap.size) (by omega) 1 (.slice none 0 0)).set 0 (.int .i64 0)).set 1 (.int .i64 0)
          have LB := below_set2 (b := w.heap.size + 1) (below_set2 (b := w.heap.size) HBZ.out (Nat.le_refl _) (.int .i64 0) (.slice none 0 0)) (by omega) (.int .i64 0) (.int .i64 0)
          have m0 := t2.cell_at 0 (.int .i64 0) (by simp)
          have m1 := t2.cell_at 1 (.slice none 0 0) (by simp)
          have m2 := t4.cell_at 0 (.int .i64 0) (by simp)
          have m3 := t4.cell_at 1 (.int .i64 0) (by simp)
          exact bodyPost_ret (v := .tuple #[.agg #[.int .i64 0, .slice none 0 0], .int .i64 30, .agg #[.int .i64 0, .int .i64 0]]) (by simp [results, Tryz.results20, go_sem, m0, m1, m2, m3]) rfl (HF.out _ _ LB (by rw [HLN.out]; simp only [HE.out]; rfl))
        · have hmb : (m == 0) = false := beq_eq_false_iff_ne.2 hm
          have FI := Lib.hid (ref_find V vc l ⟨#[]⟩ wr HH.out.rules)
          obtain ⟨fi, hfi⟩ : ∃ f, f = Cf.find l ⟨#[]⟩ := ⟨_, rfl⟩
          rw [← hfi] at FI
          have HFI := Lib.hid hfi; clear hfi
          by_cases hf : fi < 0
          · have HE := Lib.hid (show Cf.ends m l = some 31 by unfold Cf.ends; rw [if_neg (by omega), if_pos (has_false (by rw [← HFI.out]; omega))])
            go_wp2_with fail
            refine FI.out.mono ?_
            rintro x w2 ⟨rfl, rfl⟩
            go_wp2
            have t2 := ((HQ2.out.set 0 (.int .i64 0)).set 1 (.slice none 0 0)).far (b' := w.heap.size + 1) (by omega) 0 (.int .i64 0) |>.far (b' := w.heap.size + 1) (by omega) 1 (.int .i64 0)
            have t4 := (((HQ4.out.far (b' := w.heap.size) (by omega) 0 (.int .i64 0)).far (b' := w.heap.size) (by omega) 1 (.slice none 0 0)).set 0 (.int .i64 0)).set 1 (.int .i64 0)
            have LB := below_set2 (b := w.heap.size + 1) (below_set2 (b := w.heap.size) HBZ.out (Nat.le_refl _) (.int .i64 0) (.slice none 0 0)) (by omega) (.int .i64 0) (.int .i64 0)
            have m0 := t2.cell_at 0 (.int .i64 0) (by simp)
            have m1 := t2.cell_at 1 (.slice none 0 0) (by simp)
            have m2 := t4.cell_at 0 (.int .i64 0) (by simp)
            have m3 := t4.cell_at 1 (.int .i64 0) (by simp)
            exact bodyPost_ret (v := .tuple #[.agg #[.int .i64 0, .slice none 0 0], .int .i64 31, .agg #[.int .i64 0, .int .i64 0]]) (by simp [results, Tryz.results20, go_sem, m0, m1, m2, m3]) rfl (HF.out _ _ LB (by rw [HLN.out]; simp only [HE.out]; rfl))
          · have HE := Lib.hid (show Cf.ends m l = none by unfold Cf.ends; rw [if_neg (by omega), if_neg (by rw [has_true (by rw [← HFI.out]; omega)]; decide)])
            have OR := Lib.hid (ref_order m V vc l wr HH.out.rules HH.out.cap (by have := HH.out.few; omega) HH.out.typed)
            go_wp2_with fail
            refine FI.out.mono ?_
            rintro x w2 ⟨rfl, rfl⟩
            go_wp2_with fail
            refine OR.out.mono ?_
            rintro x w5 ⟨l', V', vc', hso, rfl, hR', hB'⟩
            obtain ⟨V'', vc'', hv', hcap', hC'⟩ := Kd.R_reads hR'
            injection hv' with ev1 ev2 ev3
            subst ev1 ev3
            clear hR'
            have HSO := Lib.hid hso; have HC' := Lib.hid hC'; have HCAP := Lib.hid hcap'; have HB' := Lib.hid hB'
            have q2 := HQ2.out.below HB'.out (by omega)
            have q4 := HQ4.out.below HB'.out (by omega)
            have g20 := q2.free 0
            have g21 := q2.free 1
            have g40 := q4.free 0
            have g41 := q4.free 1
            have y20 := q2.cell_at 0 (.int .i64 0) rfl
            have y21 := q2.cell_at 1 (.slice none 0 0) rfl
            have y40 := q4.cell_at 0 (.int .i64 0) rfl
            have y41 := q4.cell_at 1 (.int .i64 0) rfl
            have HR2 := Lib.hid q2; have HR4 := Lib.hid q4
            have hs5 := HB'.out.size
            clear q2 q4 hso hC' hcap' hB'
            go_wp2
            have t2 := ((HR2.out.set 0 (.int .i64 m)).set 1 (.slice V' l'.length vc')).far (b' := w.heap.size + 1) (by omega) 0 (.int .i64 0) |>.far (b' := w.heap.size + 1) (by omega) 1 (.int .i64 0)
            have t4 := (((HR4.out.far (b' := w.heap.size) (by omega) 0 (.int .i64 m)).far (b' := w.heap.size) (by omega) 1 (.slice V' l'.length vc')).set 0 (.int .i64 0)).set 1 (.int .i64 0)
            have LB := below_set2 (b := w.heap.size + 1) (below_set2 (b := w.heap.size) (HBZ.out.trans (HB'.out.mono (by omega))) (Nat.le_refl _) (.int .i64 m) (.slice V' l'.length vc')) (by omega) (.int .i64 0) (.int .i64 0)
            have R1 := rules_far HC'.out HR2.out (fun _ h => by cases h) 0 (.int .i64 m)
            have R2 := rules_far R1 (by simpa using HR2.out.set 0 (.int .i64 m)) (fun _ h => by cases h) 1 (.slice V' l'.length vc')
            have hz4 := ((HR4.out.far (b' := w.heap.size) (by omega) 0 (.int .i64 m)).far (b' := w.heap.size) (by omega) 1 (.slice V' l'.length vc'))
            have R3 := rules_far R2 hz4 (fun _ h => by cases h) 0 (.int .i64 0)
            have R4 := rules_far R3 (by simpa using hz4.set 0 (.int .i64 0)) (fun _ h => by cases h) 1 (.int .i64 0)
            have m0 := t2.cell_at 0 (.int .i64 m) (by simp)
            have m1 := t2.cell_at 1 (.slice V' l'.length vc') (by simp)
            have m2 := t4.cell_at 0 (.int .i64 0) (by simp)
            have m3 := t4.cell_at 1 (.int .i64 0) (by simp)
            exact bodyPost_ret (v := .tuple #[.agg #[.int .i64 m, .slice V' l'.length vc'], .int .i64 0, .agg #[.int .i64 0, .int .i64 0]]) (by simp [results, Tryz.results20, go_sem, m0, m1, m2, m3]) rfl (HF.out _ _ LB (by rw [HLN.out]; simp only [HE.out]; exact ⟨V', vc', l', HSO.out, R4, HCAP.out, rfl⟩))
end Go.Proofs.YtamhpnenpoamhaaGreat

/- A region that draws its order, whose operations are taken in an order of one's own: loads first, whatever stands between them. -/
namespace Go.Proofs.YtamhpnenpoamhaaGreat
open Go.RowKit Go.Proofs.YtamhpnenpoamhaaGreatW.PrintLast

/-- Those of l have come up. -/
def mrk (n : Nat) (l : List Nat) : Array Bool := ((List.range n).map fun j => l.contains j).toArray
section
variable {P : Program} {ops : Array Oper} {Q : Exit → Act → World → Prop} {md : Region.Mode} {S : World → Prop} {ds : List Nat}
theorem startM {id : Nat} {a : Act} {w : World} (n : Nat) (S : World → Prop) (ds : List Nat) (hm : P.follows .mixedOrders = true) (hn : ops.size = n) (hl : Array.replicate n false = mrk n []) (hS : S w.drew)
    (h : S w.drew → wpAnyLast P .any ops Q S ds n (mrk n []) a w.drew) : (Code.region id ops true).wp P Q a w := start_ (mrk n []) hm hn hl hS h
theorem takeM (i : Nat) {n : Nat} {l : List Nat} {N : Option Tmp} {oi : Oper} {os : List Oper} {v : Value} {fuel : Nat} {a : Act} {w : World} (hi : ops.toList.drop i = oi :: os) (hN : oi.dst = N) (hc : takeB md ops ds (mrk n l) (mrk n (i :: l)) i = true)
    (hQ : ∀ c a w, Q (.panic c) (a.put oi.dst v) w → Q (.panic c) a w) (hy : YieldsIf P ops S oi v a) (hS : S w) {a' : Act} (ha : a.put N v = a')
    (h : wpAnyLast P md ops Q S ds fuel (mrk n (i :: l)) a' w) : wpAnyLast P md ops Q S ds (fuel + 1) (mrk n l) a w := take_ (mrk n (i :: l)) (at_drop hi) hN hc hQ hy hS ha h
theorem oneM (i : Nat) {n : Nat} {l : List Nat} {N : Option Tmp} {oi : Oper} {os : List Oper} {fuel : Nat} {a : Act} {w : World} (hi : ops.toList.drop i = oi :: os) (hN : oi.dst = N) (hc : readyB md ops (mrk n l) (mrk n (i :: l)) i = true) (hd : (ds.contains i) = false)
    (h : ∀ K : Act → World → Prop, Shut (∀ a' w', S w' → (S w' → wpAnyLast P md ops Q S ds fuel (mrk n (i :: l)) a' w') → K a' w') → if Region.wanted oi (yielded ops a.tmps) = true then Oper.wp P oi a w K Q else K (a.put N undef) w) :
    wpAnyLast P md ops Q S ds (fuel + 1) (mrk n l) a w := one_ (mrk n (i :: l)) (at_drop hi) hN hc (by simpa using hd) h
theorem lastM (i : Nat) {n : Nat} {l : List Nat} {N : Option Tmp} {oi : Oper} {os : List Oper} {fuel : Nat} {a : Act} {w : World} (hi : ops.toList.drop i = oi :: os) (hN : oi.dst = N) (hc : readyB md ops (mrk n l) (mrk n (i :: l)) i = true) (hd : ds.contains i = true)
    (h : ∀ K : Act → World → Prop, Shut (∀ a' w', wpAnyLast P md ops Q S ds fuel (mrk n (i :: l)) a' w' → K a' w') → if Region.wanted oi (yielded ops a.tmps) = true then Oper.wp P oi a w K Q else K (a.put N undef) w) :
    wpAnyLast P md ops Q S ds (fuel + 1) (mrk n l) a w := last_ (mrk n (i :: l)) (at_drop hi) hN hc (by simpa using hd) h
end
end Go.Proofs.YtamhpnenpoamhaaGreat

/- The reference's Right of a policy. -/
namespace Go.Proofs.YtamhpnenpoamhaaGreat
open Go.RowKit Go.Proofs.YtamhpnenpoamhaaGreatW.PrintWords Go.Proofs.YtamhpnenpoamhaaGreatW.PrintLast

namespace Cr
/-- Does a rule's prefix stand ahead of it? -/
def dup (l : List Ru) (k : Nat) : Bool := decide (Cf.find l (l.getD k Ru.zero).p < k)
def dups (l : List Ru) : Bool := (List.range l.length).any (dup l)
def orderR (l : List Ru) : Int := if Cf.find l ⟨#[]⟩ < 0 then 31 else if dups l = true then 28 else 0
def rightR (m : Int) (l : List Ru) : Int := if m < 1 ∨ 1000000 < m then 29 else if 1000 < l.length then 32 else if rules l ≠ 0 then rules l else orderR l
end Cr
set_option maxHeartbeats 8000000 in
set_option maxRecDepth 100000 in
theorem ref_right (m : Int) (A : Option Addr) (c : Nat) (l : List Ru) (w : World) (hc : kRu.C w A l.length l) (ht : ∀ r ∈ l, Cr.Typed r) :
    Calls Tryz.prog 21 #[.agg #[.int .i64 m, .slice A l.length c]] w fun x w' => x = .returned (.int .i64 (Cr.rightR m l)) ∧ Below w.heap.size w w' := by
  have hmax := Kd.C_max hc
  obtain ⟨W, hW⟩ : ∃ W, W = w.alloc (.cells #[.int .i64 m, .slice A l.length c] 28) := ⟨_, rfl⟩
  have HBW := Lib.hid (show Below w.heap.size w W by rw [hW]; exact (Below.refl _ _).alloc (Nat.le_refl _) _)
  have HB := Lib.hid (show Blk W w.heap.size #[.int .i64 m, .slice A l.length c] 28 by rw [hW]; exact Blk.new _ _ _)
  have HC := Lib.hid (Kd.C_below hc HBW.out)
  have HTY := Lib.hid ht
  have HW := Lib.hid hW
  have HR := Lib.hid (show Cr.rightR m l = if m < 1 ∨ 1000000 < m then 29 else if 1000 < l.length then 32 else if Cr.rules l ≠ 0 then Cr.rules l else Cr.orderR l from rfl)
  clear hc ht hW
  by_cases hm1 : m < 1
  · have HE := Lib.hid (HR.out.trans (if_pos (.inl hm1)))
    go_enter Tryz.func21, Tryz.ntmps21
    go_wp2
    go_ret
    exact ⟨retI HE.out, by have := HBW.out; rw [HW.out] at this; exact this⟩
  · by_cases hm2 : 1000000 < m
    · have HE := Lib.hid (HR.out.trans (if_pos (.inr hm2)))
      go_enter Tryz.func21, Tryz.ntmps21
      go_wp2
      go_ret
      exact ⟨retI HE.out, by have := HBW.out; rw [HW.out] at this; exact this⟩
    · have HR1 := Lib.hid (HR.out.trans (if_neg (by omega)))
      by_cases hl : 1000 < l.length
      · have HE := Lib.hid (HR1.out.trans (if_pos hl))
        have hlz : (1000 : Int) < (l.length : Int) := by omega
        go_enter Tryz.func21, Tryz.ntmps21
        go_wp2
        go_ret
        exact ⟨retI HE.out, by have := HBW.out; rw [HW.out] at this; exact this⟩
      · have HR2 := Lib.hid (HR1.out.trans (if_neg hl))
        have hlz : ¬ (1000 : Int) < (l.length : Int) := by omega
        have hlz2 : (l.length : Int) ≤ 1000 := by omega
        go_enter Tryz.func21, Tryz.ntmps21
        go_wp2
        rw [← HW.out]
        go_loopw [3] (fun iv wr => ∃ (i : Nat), iv = .int .i64 i ∧ i ≤ l.length ∧ Aside1 (Below W.heap.size W wr ∧ Cr.rules (l.drop i) = Cr.rules l)) (fun iv _ => l.length - (intOf iv).toNat)
        case atStart => exact ⟨0, rfl, Nat.zero_le _, ⟨Below.refl _ _, rfl⟩⟩
        case round =>
          obtain ⟨i, rfl, hi, HI⟩ := hrel
          have HI := Lib.hid HI.out
          have B1 := HB.out.below HI.out.1 HB.out.lt
          have x0 := B1.cell_at 0 (.int .i64 m) rfl
          have x1 := B1.cell_at 1 (.slice A l.length c) rfl
          by_cases hlt : i < l.length
          · have hltz : (i : Int) < (l.length : Int) := by omega
            obtain ⟨ad, hA, p0, p1, p2, p3⟩ := rule_cells (Kd.C_below HC.out HI.out.1) i hlt
            subst hA
            have HRA := Lib.hid (Cr.rules_at hlt)
            obtain ⟨r, hr⟩ : ∃ r, r = l.getD i Ru.zero := ⟨_, rfl⟩
            have hty : Cr.Typed r := HTY.out r (by rw [hr, List.getD_eq_getElem?_getD, List.getElem?_eq_getElem hlt]; exact List.getElem_mem hlt)
            rw [← hr] at p0 p1 p2 p3 HRA
            have RR := Lib.hid (fun w => ref_rule_right r.p r.e r.u r.k w hty.1 hty.2.1 hty.2.2)
            obtain ⟨q, hq⟩ : ∃ q, q = Rl.right r.p r.e r.u r.k := ⟨_, rfl⟩
            rw [← hq] at RR HRA
            have HBK := Lib.hid B1
            clear hr hty hq B1
            by_cases hq0 : q = 0
            · have hqb : (q != 0) = false := by rw [hq0]; rfl
              have HNX := Lib.hid (show Cr.rules (l.drop (i + 1)) = Cr.rules l by rw [← HI.out.2, HRA.out, if_neg (not_not_intro hq0)])
              clear hq0
              go_wp2_with fail
              refine (RR.out _).mono ?_
              rintro x w2 ⟨rfl, hb2⟩
              have HB2 := Lib.hid (HI.out.1.trans (hb2.mono HI.out.1.size)); clear hb2
              go_wp2
              go_roundw
              case rel => exact ⟨i + 1, by go_num, by omega, ⟨HB2.out, HNX.out⟩⟩
              case measure => simp [intOf]; omega
            · have hqb : (q != 0) = true := by simpa using hq0
              have HE := Lib.hid (show Cr.rightR m l = q by
                have e : Cr.rules l = q := by rw [← HI.out.2, HRA.out, if_pos hq0]
                rw [HR2.out, e, if_pos hq0])
              clear hq0
              go_wp2_with fail
              refine (RR.out _).mono ?_
              rintro x w2 ⟨rfl, hb2⟩
              have D1 := HBK.out.below hb2 HBK.out.lt
              have y0 := D1.cell_at 0 (.int .i64 m) rfl
              have y1 := D1.cell_at 1 (.slice (some ad) l.length c) rfl
              have o0 := pw_cell_below hb2 p0; have o1 := pw_cell_below hb2 p1; have o2 := pw_cell_below hb2 p2; have o3 := pw_cell_below hb2 p3
              have HB2 := Lib.hid (HI.out.1.trans (hb2.mono HI.out.1.size)); clear hb2 D1
              go_wp2_with fail
              refine (RR.out _).mono ?_
              rintro x w3 ⟨rfl, hb3⟩
              have HB3 := Lib.hid (HBW.out.trans ((HB2.out.trans (hb3.mono HB2.out.size)).mono HBW.out.size)); clear hb3
              go_wp2
              go_ret
              exact ⟨retI HE.out, HB3.out⟩
          · have hltz : ¬ (i : Int) < (l.length : Int) := by omega
            have HRZ := Lib.hid (show Cr.rules l = 0 by rw [← HI.out.2, List.drop_of_length_le (by omega)]; rfl)
            have HR3 := Lib.hid (show Cr.rightR m l = Cr.orderR l by rw [HR2.out, if_neg (not_not_intro HRZ.out)])
            have FI := Lib.hid (ref_find A c l ⟨#[]⟩ wr (Kd.C_below HC.out HI.out.1))
            obtain ⟨fi, hfi⟩ : ∃ f, f = Cf.find l ⟨#[]⟩ := ⟨_, rfl⟩
            have HO := Lib.hid (show Cr.orderR l = if fi < 0 then 31 else if Cr.dups l = true then 28 else 0 by rw [hfi]; rfl)
            rw [← hfi] at FI
            clear hfi
            have HB1 := Lib.hid B1; clear B1
            by_cases hf : fi < 0
            · have HE := Lib.hid (HR3.out.trans (HO.out.trans (if_pos hf)))
              go_wp2_with fail
              refine FI.out.mono ?_
              rintro x w2 ⟨rfl, rfl⟩
              go_wp2
              go_ret
              exact ⟨retI HE.out, HBW.out.trans (HI.out.1.mono HBW.out.size)⟩
            · have HE := Lib.hid (HR3.out.trans (HO.out.trans (if_neg hf)))
              go_wp2_with fail
              refine FI.out.mono ?_
              rintro x w2 ⟨rfl, rfl⟩
              go_wp2
              obtain ⟨wo, hwo⟩ : ∃ wo : World, wo = wr := ⟨_, rfl⟩
              subst hwo
              go_loopw [4] (fun iv w3 => ∃ (j : Nat), iv = .int .i64 j ∧ j ≤ l.length ∧ Aside1 (Below wo.heap.size wo w3 ∧ ∀ k, k < j → Cr.dup l k = false)) (fun iv _ => l.length - (intOf iv).toNat)
              case atStart => exact ⟨0, rfl, Nat.zero_le _, ⟨Below.refl _ _, fun k hk => by omega⟩⟩
              case round =>
                obtain ⟨j, rfl, hj, HJ⟩ := hrel
                have HJ := Lib.hid HJ.out
                have B2 := HB1.out.below HJ.out.1 HB1.out.lt
                have z0 := B2.cell_at 0 (.int .i64 m) rfl
                have z1 := B2.cell_at 1 (.slice A l.length c) rfl
                have HBJ := Lib.hid (HI.out.1.trans (HJ.out.1.mono HI.out.1.size))
                clear B2
                by_cases hjl : j < l.length
                · have hjlz : (j : Int) < (l.length : Int) := by omega
                  obtain ⟨ad, hA, p0, _⟩ := rule_cells (Kd.C_below HC.out HBJ.out) j hjl
                  subst hA
                  obtain ⟨r, hr⟩ : ∃ r, r = l.getD j Ru.zero := ⟨_, rfl⟩
                  rw [← hr] at p0
                  have FJ := Lib.hid (fun W (hb : Below wr.heap.size wr W) => ref_find (some ad) c l r.p W (Kd.C_below (Kd.C_below HC.out HBJ.out) hb))
                  obtain ⟨fj, hfj⟩ : ∃ f, f = Cf.find l r.p := ⟨_, rfl⟩
                  rw [← hfj] at FJ
                  have HDU := Lib.hid (show Cr.dup l j = decide (fj < j) by unfold Cr.dup; rw [← hr, hfj])
                  clear hr hfj
                  have KEY := Lib.hid (show ∀ b, b = decide (fj < (j : Int)) → True from fun _ _ => trivial)
                  go_wp2
                  have QF := Lib.hid (fun n => FJ.out (wr.drewN n) (below_dN (Below.refl _ _) n))
                  go_quiet ((go_at_call 43; exact Calls.quiet_of_same ((QF.out _).mono fun _ _ h => ⟨h.1, h.2.symm⟩)))
                  by_cases hd : fj < (j : Int)
                  · have HE2 := Lib.hid (show Cr.rightR m l = 28 by
                      rw [HE.out, if_pos]
                      unfold Cr.dups
                      rw [List.any_eq_true]
                      exact ⟨j, List.mem_range.2 hjl, by rw [HDU.out]; exact decide_eq_true hd⟩)
                    go_wp2
                    go_ret
                    exact ⟨retI HE2.out, HBW.out.trans ((below_dN HBJ.out _).mono HBW.out.size)⟩
                  · have HN := Lib.hid (show Cr.dup l j = false by rw [HDU.out]; exact decide_eq_false hd)
                    go_wp2
                    go_roundw
                    case rel =>
                      refine ⟨j + 1, by go_num, by omega, ⟨below_dN HJ.out.1 _, fun k hk => ?_⟩⟩
                      by_cases hkj : k < j
                      · exact HJ.out.2 k hkj
                      · obtain rfl : k = j := by omega
                        exact HN.out
                    case measure => simp [intOf]; omega
                · have hjlz : ¬ (j : Int) < (l.length : Int) := by omega
                  have HE2 := Lib.hid (show Cr.rightR m l = 0 by
                    rw [HE.out, if_neg]
                    unfold Cr.dups
                    rw [Bool.not_eq_true, List.any_eq_false]
                    intro k hk
                    rw [List.mem_range] at hk
                    rw [HJ.out.2 k (by omega)]; decide)
                  go_wp2
                  go_ret
                  exact ⟨retI HE2.out, HBW.out.trans (HBJ.out.mono HBW.out.size)⟩
end Go.Proofs.YtamhpnenpoamhaaGreat

/- What digit.Print answers: the decimal digits of a number. -/
namespace Go.Proofs.YtamhpnenpoamhaaGreat
namespace Dp
/-- The digits of n ahead of those of acc; 'at' places are left. -/
def go : Nat → Nat → List UInt8 → List UInt8
  | 0, _, acc => acc
  | at_ + 1, n, acc => if 0 < n / 10 then go at_ (n / 10) (UInt8.ofNat (48 + n % 10) :: acc) else UInt8.ofNat (48 + n % 10) :: acc
def digits (n : Nat) : List UInt8 := go 20 n []
def print (n : Nat) : ByteArray := ⟨(digits n).toArray⟩
end Dp
end Go.Proofs.YtamhpnenpoamhaaGreat

/- digit.Print of any number. -/
namespace Go.Proofs.YtamhpnenpoamhaaGreat
open Go.RowKit
attribute [local go_sem] jumps_normal jumps_exit jumps_ret jumps_panic

/-- The array's cells: 'at' zeros, then what is printed. -/
def Dp.cells (at_ : Nat) (acc : List UInt8) : Array Value := ((List.replicate at_ (0 : Int) ++ acc.map (fun b => (b.toNat : Int))).map (Value.int .u8)).toArray
def Dp.At (n0 : Nat) (w0 : World) (l : Nat) (a : Act) (w : World) : Prop := l = 0 ∧ ∃ (at_ n : Nat) (acc : List UInt8) (u1 u2 u5 u6 u7 u8 u9 u10 u11 u12 u13 u14 u15 u16 u17 u18 u19 : Value), a = { tmps := #[.int .u64 n, u1, u2, .pointer (some ⟨w0.heap.size, 0, none⟩), .int .i64 at_, u5, u6, u7, u8, u9, u10, u11, u12, u13, u14, u15, u16, u17, u18, u19], defers := [] } ∧
  0 < at_ ∧ at_ + acc.length = 20 ∧ (n < 10 ^ at_ ∧ n ≤ 18446744073709551615) ∧ Dp.go at_ n acc = Dp.digits n0 ∧ Blk w w0.heap.size (Dp.cells at_ acc) 92 ∧ Below w0.heap.size w0 w

def Dp.left (a : Act) : Nat := match a.tmps.getD 4 undef with | .int _ k => k.toNat | _ => 0
theorem Dp.cells_start : Dp.cells 20 [] = #[.int .u8 0, .int .u8 0, .int .u8 0, .int .u8 0, .int .u8 0, .int .u8 0, .int .u8 0, .int .u8 0, .int .u8 0, .int .u8 0, .int .u8 0, .int .u8 0, .int .u8 0, .int .u8 0, .int .u8 0, .int .u8 0, .int .u8 0, .int .u8 0, .int .u8 0, .int .u8 0] := by rfl
theorem Dp.cells_tail (at_ : Nat) (acc : List UInt8) (i : Nat) (hi : i < acc.length) : (Dp.cells at_ acc)[at_ + i]? = some (.int .u8 ((acc.map (fun b => (b.toNat : Int))).getD i 0)) := by
  unfold Dp.cells
  rw [← Array.getElem?_toList, List.map_append, List.getElem?_append_right (by simp)]
  simp [List.getD_eq_getElem?_getD, List.getElem?_eq_getElem hi]
theorem Dp.str (l : List UInt8) : strOfNums (l.map (fun b => (b.toNat : Int))) = ⟨l.toArray⟩ := by
  unfold strOfNums
  congr 2
  rw [List.map_map]
  conv => rhs; rw [← List.map_id l]
  apply List.map_congr_left
  intro b _
  simp
theorem Dp.cells_set (at_ : Nat) (acc : List UInt8) (b : UInt8) : (Dp.cells (at_ + 1) acc).setIfInBounds at_ (.int .u8 b.toNat) = Dp.cells at_ (b :: acc) := by
  unfold Dp.cells
  rw [List.setIfInBounds_toArray]
  congr 1
  simp only [List.map_append, List.map_replicate, List.map_cons, List.replicate_succ', List.append_assoc]
  rw [List.set_append_right _ _ (by simp)]
  simp
theorem Dp.cells_at (at_ : Nat) (acc : List UInt8) : (Dp.cells (at_ + 1) acc)[at_]? = some (.int .u8 0) := by
  unfold Dp.cells
  simp [List.replicate_succ']
set_option maxHeartbeats 1000000 in
set_option maxRecDepth 100000 in
theorem digit_print (n : Nat) (w : World) (hn : n ≤ 18446744073709551615) :
    Calls Tryz.prog 23 #[.int .u64 n] w fun e w' => e = .returned (.string (Dp.print n)) ∧ Below w.heap.size w w' := by
  go_enter Tryz.func23, Tryz.ntmps23
  go_wp2
  refine wp_scope_labels' (Dp.At n w) (fun _ a _ => Dp.left a) ?_ ?_
  · rintro l a w' ⟨rfl, at_, m, acc, u1, u2, u5, u6, u7, u8, u9, u10, u11, u12, u13, u14, u15, u16, u17, u18, u19, rfl, ha, hlen, ⟨hm, hmb⟩, hgo, hB, hb⟩
    refine ⟨_, rfl, ?_⟩
    obtain ⟨at1, rfl⟩ : ∃ k, at_ = k + 1 := ⟨at_ - 1, by omega⟩
    have hc := hB.cell_at at1 _ (Dp.cells_at at1 acc)
    have hf := hB.free at1
    have h20 : (at1 : Int) < 20 := by omega
    have hmr : (m : Int) % 10 < 10 := by omega
    have hmr0 : 0 ≤ (m : Int) % 10 := by omega
    have hw8 : IntKind.u8.wrap ((m : Int) % 10) = (m : Int) % 10 := by rw [IntKind.wrap_u8]; omega
    have hw64 : IntKind.u64.wrap ((m : Int) / 10) = ((m / 10 : Nat) : Int) := by rw [IntKind.wrap_u64]; omega
    have HB := Lib.hid hB; have Hb := Lib.hid hb; have HG := Lib.hid hgo; have HM := Lib.hid hm
    clear hB hb hgo hm
    have hb8 : ((UInt8.ofNat (48 + m % 10)).toNat : Int) = 48 + (m : Int) % 10 := by
      have : (UInt8.ofNat (48 + m % 10)).toNat = 48 + m % 10 := by
        rw [UInt8.toNat_ofNat']; omega
      rw [this]; omega
    have HN := Lib.hid (show Blk (w'.setCell ⟨w.heap.size, at1, none⟩ (.int .u8 (48 + (m : Int) % 10))) w.heap.size (Dp.cells at1 (UInt8.ofNat (48 + m % 10) :: acc)) 92 by
      rw [← hb8, ← Dp.cells_set]; exact HB.out.set at1 _)
    have HBB := Lib.hid (below_grown Hb.out Hb.out.size (grown_set w' w.heap.size at1 (.int .u8 (48 + (m : Int) % 10))) (Nat.le_refl _))
    have HLE := Lib.hid hlen
    clear hb8
    by_cases hq : 0 < m / 10
    · have hqz : (0 : Int) < (m : Int) / 10 := by omega
      go_wp2
      go_step3
      rw [then_goto]
      refine goto_in ?_
      have hat : 0 < at1 := by
        rcases Nat.eq_zero_or_pos at1 with h | h
        · have := HM.out; rw [h] at this; omega
        · exact h
      refine ⟨⟨rfl, at1, m / 10, UInt8.ofNat (48 + m % 10) :: acc, _, _, _, _, _, _, _, _, _, _, _, _, _, _, _, _, _, rfl, hat, by have := HLE.out; simp; omega, ⟨?_, by omega⟩, ?_, HN.out, HBB.out⟩, by simp [Dp.left]⟩
      · have := HM.out
        rw [Nat.pow_succ] at this
        omega
      · have := HG.out
        rw [Dp.go, if_pos hq] at this
        exact this
    · have hqz : ¬ (0 : Int) < (m : Int) / 10 := by omega
      have hsl : ∀ w' : World, (Instr.sliceAt 92 (.pointer (some ⟨w.heap.size, 0, none⟩)) (some (.int .i64 at1)) none none).run Tryz.prog w' = .ok (.slice (some ⟨w.heap.size, at1, none⟩) (20 - at1) (20 - at1)) w' := fun w' => by
        have e1 : Tryz.prog.arrayLen 92 = 20 := by kernel_rfl
        have e2 : Tryz.prog.elem 92 = 5 := by kernel_rfl
        rw [run_sliceAt_array_l w' 92 ⟨w.heap.size, 0, none⟩ (by kernel_rfl) .i64 (at1 : Int) (by omega) (by rw [e1]; omega)]
        rw [e1, e2, Tryz.sizeOf5]
        have e3 : (if 20 = at1 then (⟨w.heap.size, 0, none⟩ : Addr) else (⟨w.heap.size, 0, none⟩ : Addr).add at1) = ⟨w.heap.size, at1, none⟩ := by
          rw [if_neg (by omega)]
          cases at1 with
          | zero => rfl
          | succ k => rw [addr_succ]; simp
        simp [Result.andThen, slicedAt, e3]
      have hlen2 : (UInt8.ofNat (48 + m % 10) :: acc).length = 20 - at1 := by have := HLE.out; simp; omega
      have hcv := run_convert_bytes_arg (P := Tryz.prog) (w'.setCell ⟨w.heap.size, at1, none⟩ (.int .u8 (48 + (m : Int) % 10))) 22 5 (by kernel_rfl) (by kernel_rfl) w.heap.size at1 (20 - at1) (20 - at1) ((UInt8.ofNat (48 + m % 10) :: acc).map (fun b => (b.toNat : Int))) (by rw [List.length_map]; exact hlen2)
        (fun i hi => HN.out.cell_at (at1 + i) _ (Dp.cells_tail at1 _ i (by rw [hlen2]; exact hi))) 9 (by kernel_rfl)
      rw [Dp.str] at hcv
      have HP := Lib.hid (show Dp.print n = ⟨(UInt8.ofNat (48 + m % 10) :: acc).toArray⟩ by
        unfold Dp.print
        rw [← HG.out, Dp.go, if_neg hq])
      clear hlen2
      generalize (⟨(UInt8.ofNat (48 + m % 10) :: acc).toArray⟩ : ByteArray) = S at hcv HP
      go_wp2
      go_ret
      exact ⟨by rw [HP.out]; rfl, HBB.out⟩
  · intro land
    have Land := Lib.hid land; clear land
    go_wp2
    go_step3
    refine jump_in ?_
    apply_assumption
    refine Land.out 0 _ _ _ (by rfl) ⟨rfl, 20, n, [], _, _, _, _, _, _, _, _, _, _, _, _, _, _, _, _, _, rfl, by decide, rfl, ⟨by omega, hn⟩, rfl, ?_, (Below.refl _ _).alloc (Nat.le_refl _) _⟩
    rw [Dp.cells_start]
    exact Blk.new _ _ _
end Go.Proofs.YtamhpnenpoamhaaGreat

/- The reference's Print of a number. -/
namespace Go.Proofs.YtamhpnenpoamhaaGreat
open Go.RowKit

def tenS : ByteArray := ⟨#[48, 49, 50, 51, 52, 53, 54, 55, 56, 57]⟩
def Dp.goW (at_ n : Nat) (acc : List UInt8) : List UInt8 := if 0 < n then Dp.go at_ n acc else acc
theorem Dp.goW_step (at_ n : Nat) (acc : List UInt8) (h : 0 < n) : Dp.goW (at_ + 1) n acc = Dp.goW at_ (n / 10) (UInt8.ofNat (48 + n % 10) :: acc) := by
  unfold Dp.goW
  rw [if_pos h, Dp.go]
theorem Dp.goW_first (n : Nat) : Dp.digits n = Dp.goW 19 (n / 10) [UInt8.ofNat (48 + n % 10)] := by
  unfold Dp.digits Dp.goW
  rw [Dp.go]
theorem Dp.ten (k : Nat) (h : k < 10) : tenS.extract k (k + 1) = ⟨#[UInt8.ofNat (48 + k)]⟩ := by
  have : k = 0 ∨ k = 1 ∨ k = 2 ∨ k = 3 ∨ k = 4 ∨ k = 5 ∨ k = 6 ∨ k = 7 ∨ k = 8 ∨ k = 9 := by omega
  rcases this with rfl | rfl | rfl | rfl | rfl | rfl | rfl | rfl | rfl | rfl <;> rfl
set_option maxHeartbeats 1000000 in
set_option maxRecDepth 100000 in
theorem ref_digit_print (n : Nat) (w : World) (hn : n ≤ 18446744073709551615) :
    Calls Tryz.prog 38 #[.int .u64 n] w fun e w' => e = .returned (.string (Dp.print n)) ∧ w = w' := by
  have hnz : (n : Int) ≤ 18446744073709551615 := by omega
  have hm0 : 0 ≤ (n : Int) % 10 := by omega
  have hm1 : (n : Int) % 10 < 10 := by omega
  go_enter Tryz.func38, Tryz.ntmps38
  go_wp2
  go_loop [0, 3] (fun nv sv => ∃ (k at_ : Nat) (acc : List UInt8), nv = .int .u64 k ∧ sv = .string ⟨acc.toArray⟩ ∧ k ≤ 18446744073709551615 ∧ acc.length + at_ = 20 ∧ Aside1 (k < 10 ^ at_ ∧ Dp.goW at_ k acc = Dp.digits n)) (fun nv _ => (intOf nv).toNat)
  case atStart => exact ⟨n / 10, 19, [UInt8.ofNat (48 + n % 10)], by congr 1, by rw [← Dp.ten _ (by omega)]; rfl, by omega, rfl, ⟨by omega, (Dp.goW_first n).symm⟩⟩
  case round =>
    obtain ⟨k, at_, acc, rfl, rfl, hk, hal, HH⟩ := hrel
    have hacc : acc.length ≤ 20 := by omega
    by_cases h0 : 0 < k
    · have hk0 : (0 : Int) < (k : Int) := by omega
      have hkz : (k : Int) ≤ 18446744073709551615 := by omega
      have hq0 : 0 ≤ (k : Int) % 10 := by omega
      have hq1 : (k : Int) % 10 < 10 := by omega
      have HN := Lib.hid (show (k : Int) / 10 = ((k / 10 : Nat) : Int) by omega)
      have HT := Lib.hid (Dp.ten (k % 10) (by omega))
      obtain ⟨a2, ha2⟩ : ∃ a2, at_ = a2 + 1 := by
        rcases at_ with _ | a2
        · have := HH.out.1; simp at this; omega
        · exact ⟨a2, rfl⟩
      have HG := Lib.hid (show k / 10 < 10 ^ a2 ∧ Dp.goW a2 (k / 10) (UInt8.ofNat (48 + k % 10) :: acc) = Dp.digits n by
        have h := HH.out
        rw [ha2, Nat.pow_succ] at h
        exact ⟨by omega, by rw [← Dp.goW_step _ _ _ h0]; exact h.2⟩)
      have hal2 : acc.length + 1 + a2 = 20 := by omega
      have HAL := Lib.hid hal2
      clear ha2 hal hal2
      go_wp2
      go_round
      case rel =>
        refine ⟨k / 10, a2, UInt8.ofNat (48 + k % 10) :: acc, by rw [HN.out], ?_, by omega, HAL.out, ⟨HG.out⟩⟩
        show Value.string (tenS.extract (k % 10) (k % 10 + 1) ++ (⟨acc.toArray⟩ : ByteArray)) = _
        rw [HT.out]
        congr 1
      case measure => simp [intOf]; omega
    · have HE := Lib.hid (show Dp.print n = ⟨acc.toArray⟩ by
        unfold Dp.print
        have h := HH.out.2
        unfold Dp.goW at h
        rw [if_neg h0] at h
        rw [← h])
      have hk0 : (k : Int) ≤ 0 := by omega
      go_wp2
      go_ret
      exact ⟨retS HE.out, rfl⟩
end Go.Proofs.YtamhpnenpoamhaaGreat
