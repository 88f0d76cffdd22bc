/- Part 4 of 9 of the proof of LRowParses: lemmas and walks, gathered. -/
import Derived.Test.YtamhpnenpoamhaaGreatCp3
import Derived.RangeFuncNested
import Derived.RangeFuncBound
import Derived.RangeFuncCalls
import Derived.RangeFuncLeaves
import Derived.RangeFuncBox
import Derived.RangeFuncWrites
import Derived.Shelf.Abstract
import Derived.Shelf.RegionOpen
import Derived.WalkKit
import Derived.OwnWalkIn
import Derived.TacticsInMore
import Derived.LoopNIn
import Derived.LoopIn
import Derived.Test.YtamhpnenpoamhaaGreatProg
import Derived.Test.YtamhpnenpoamhaaGreatCp1
import Derived.Test.YtamhpnenpoamhaaGreatCp2
import Derived.Deep.QuietTactic
import Derived.BigQuiet
set_option linter.unusedSimpArgs false
set_option linter.unusedVariables false
/- config.Parse's reader: the line of a rule. -/
namespace Go.Proofs.YtamhpnenpoamhaaGreat
open Go.RowKit Go.Proofs.YtamhpnenpoamhaaGreatW.PrintWords Go.Proofs.YtamhpnenpoamhaaGreatW.PrintLast

theorem blk_setObj {w : World} {b r : Nat} {cs : Array Value} {t : TypeId} {o : Obj} (h : Blk w b cs t) (hne : b ≠ r) : Blk (World.setObj' w r o) b cs t := by
  show (w.heap.setIfInBounds r o)[b]? = _
  rw [Array.getElem?_setIfInBounds_ne (Ne.symm hne)]; exact h
theorem heap_setObj (w : World) (r k : Nat) (o : Obj) (hne : k ≠ r) : (World.setObj' w r o).heap[k]? = w.heap[k]? := by
  show (w.heap.setIfInBounds r o)[k]? = _
  rw [Array.getElem?_setIfInBounds_ne (Ne.symm hne)]
/-- The reader where its map is already that of ks, its row still l. -/
structure RdG (ok : Nat → Prop) (Wl : World) (n : Nat) (m : Int) (ks l : List Ru) (v : Value) (w : World) : Prop where
  bel : Below Wl.heap.size Wl w
  hn : Wl.heap.size ≤ n
  size : n + 2 ≤ w.heap.size
  map : ∃ es clock, w.heap[n]? = some (.map es clock) ∧ Cf.Keys es ks
  blk : Blk w (n + 1) #[.int .i64 m, v, .map (some n)] 73
  rows : kRu.R 37 w (n + 2) ok v l
theorem rdg_update {ok : Nat → Prop} {Wl : World} {n : Nat} {m : Int} {l : List Ru} {v : Value} {w : World} {es : Array MapEntry} {clock : Nat} (h : RdO ok Wl n m l w) (hb : Blk w (n + 1) #[.int .i64 m, v, .map (some n)] 73) (hR : kRu.R 37 w (n + 2) ok v l)
    (hm : w.heap[n]? = some (.map es clock)) (hk : Cf.Keys es l) (one : Ru) (b c : Nat) :
    RdG ok Wl n m (l ++ [one]) l v (World.setObj' w n (.map (es.push { key := .string one.p, val := .agg #[], born := b }) c)) := by
  have hs := h.size
  have hn := h.hn
  have hss : (World.setObj' w n (.map (es.push { key := .string one.p, val := .agg #[], born := b }) c)).heap.size = w.heap.size := by simp [World.setObj']
  refine ⟨⟨h.bel.os, h.bel.tape, h.bel.output, by rw [hss]; exact h.bel.size, fun k hk => (heap_setObj w n k _ (by omega)).trans (h.bel.block k hk)⟩, hn, by omega, ⟨es.push { key := .string one.p, val := .agg #[], born := b }, c, ?_, Cf.keys_push hk one b⟩, blk_setObj hb (by omega), ?_⟩
  · show (w.heap.setIfInBounds n _)[n]? = _
    rw [Array.getElem?_setIfInBounds_self_of_lt (by omega)]
  · exact Kd.R_mono (Kd.R_step (Kd.R_bound hR) (fun k hk _ => heap_setObj w n k _ (by have := hk.2.1; omega))) (fun _ hk => hk.1)
theorem RdG.done {ok : Nat → Prop} {Wl : World} {n : Nat} {m : Int} {ks l : List Ru} {v v1 : Value} {w w' : World} (h : RdG ok Wl n m ks l v w) (hb : Below (n + 2) w w') (hR : kRu.R 37 w' (n + 2) (fun _ => True) v1 ks) :
    RdAt Wl n m ks (w'.setCell ⟨n + 1, 1, none⟩ v1) := by
  have hs := h.size
  have hn := h.hn
  have hs' := hb.size
  obtain ⟨es, ck, h1, h2⟩ := h.map
  have hss : (w'.setCell ⟨n + 1, 1, none⟩ v1).heap.size = w'.heap.size := by simp [World.setCell]
  refine ⟨below_grown (h.bel.trans (hb.mono (by omega))) (by omega) (grown_set w' (n + 1) 1 _) (by omega), hn, by omega, ⟨es, ck, (Below.heap_setCell w' ⟨n + 1, 1, none⟩ _ n (show n ≠ n + 1 by omega)).trans ((hb.block n (by omega)).trans h1), h2⟩, v1, ?_, R_low hR (by omega) 1 _⟩
  simpa using (h.blk.below hb (by omega)).set 1 v1
theorem addr_next (a : Addr) (k j : Nat) : a.add (k + (j + 1)) = ⟨(a.add k).block, (a.add k).off + (j + 1), none⟩ := by
  cases k with
  | zero => rw [Nat.zero_add, addr_zero, addr_succ]
  | succ k => rw [show k + 1 + (j + 1) = (k + 1 + j) + 1 by omega, addr_succ, addr_succ]; simp; omega
theorem word_cells' {w : World} {A : Option Addr} {row : List Wd} (h : kWd.C w A row.length row) (i : Nat) (hi : i < row.length) : ∃ ad, A = some ad ∧ w.cell? (ad.add (i * 3)) = some (.string (Cf.at_ row i).t) ∧ w.cell? ⟨(ad.add (i * 3)).block, (ad.add (i * 3)).off + 1, none⟩ = some (.int .i64 (Cf.at_ row i).l) ∧ w.cell? ⟨(ad.add (i * 3)).block, (ad.add (i * 3)).off + 2, none⟩ = some (.int .i64 (Cf.at_ row i).c) := by
  obtain ⟨ad, hA, p0, p1, p2⟩ := word_cells h i hi
  rw [show i * 3 + 1 = i * 3 + (0 + 1) from rfl, addr_next] at p1
  rw [show i * 3 + 2 = i * 3 + (1 + 1) from rfl, addr_next] at p2
  exact ⟨ad, hA, p0, p1, p2⟩
theorem strs_info : (Tryz.prog.info? 9).map (fun i => (i.zero, i.size, i.bytes)) = some (some (.string ByteArray.empty), 1, 16) := by kernel_rfl

set_option maxHeartbeats 4000000 in
set_option maxRecDepth 100000 in
theorem conf_rule (Wl : World) (n : Nat) (m : Int) (l : List Ru) (w : World) (A : Option Addr) (c : Nat) (row : List Wd) (h : RdAt Wl n m l w) (hc : kWd.C Wl A row.length row) (hl : 0 < row.length) (hrl : row.length ≤ 2000000) (hll : l.length ≤ 1000) (hs : ∀ x ∈ row, x.t.size ≤ 9223372036854775807) :
    Calls Tryz.prog 29 #[.pointer (some ⟨n + 1, 0, none⟩), .slice A row.length c] w (RdPost Wl n (Cf.ruleL m l row)) := by
  have HC := Lib.hid (Kd.C_below hc h.bel)
  have H := Lib.hid h
  have HS := Lib.hid hs
  have hrz : (row.length : Int) ≤ 2000000 := by omega
  have hmax := Kd.C_max hc
  clear h hc hs
  go_enter Tryz.func29, Tryz.ntmps29
  go_wp2
  go_loopw [4, 15] (fun v iv wr => ∃ (i : Nat), iv = .int .i64 i ∧ i ≤ row.length ∧ Aside (Below w.heap.size w wr ∧ Kd.string.R 9 wr w.heap.size (fun _ => True) v ((Cf.texts row).take i))) (fun _ iv _ => row.length - (intOf iv).toNat)
  case atStart => exact ⟨0, rfl, Nat.zero_le _, Below.refl _ _, Kd.R_nil _ _ _ _ _⟩
  case round =>
    obtain ⟨i, rfl, hi, HI⟩ := hrel
    by_cases hlt : i < row.length
    · have hltz : (i : Int) < (row.length : Int) := by omega
      obtain ⟨ad, hA, p0, p1, p2⟩ := word_cells' (Kd.C_below HC.out HI.out.1) i hlt
      subst hA
      have hti : (Cf.texts row).take (i + 1) = (Cf.texts row).take i ++ [(Cf.at_ row i).t] := by
        have hli : i < (Cf.texts row).length := by simpa [Cf.texts] using hlt
        rw [List.take_succ_eq_append_getElem hli]
        simp [Cf.texts, Cf.at_, List.getD_eq_getElem?_getD, List.getElem?_eq_getElem hlt]
      have HTI := Lib.hid hti
      have htl : ((Cf.texts row).take i).length ≤ 2000000 := by rw [List.length_take]; omega
      have HTL := Lib.hid htl
      clear hti htl
      go_wp2_with (at_builtin; refine Kd.R_append Kd.string (w0 := w) (W := wr.alloc (.cells #[.string (Cf.at_ row i).t, .int .i64 (Cf.at_ row i).l, .int .i64 (Cf.at_ row i).c] 76)) w.heap.size rfl (.tmp 19) (.tmp 22) 32 9 _ 16 rfl (by kernel_rfl) strs_info rfl (by decide) (by decide) u4 ((Cf.texts row).take i) (Cf.at_ row i).t [.string (Cf.at_ row i).t] (fun _ => True) (fun _ => False) rfl (by rw [World.size_alloc]; rfl) rfl (fun _ h => h.elim) (fun _ _ => trivial) (Kd.R_alloc HI.out.2 _) (HI.out.1.alloc HI.out.1.size _) (by rw [World.size_alloc]; have := HI.out.1.size; omega) (by have := HTL.out; omega) ?_; intro v1 w1 hR1 hB1 hg1 hat)
      go_roundw
      case rel => exact ⟨i + 1, by go_num, by omega, hB1, by rw [HTI.out]; exact hR1⟩
      case measure => simp [intOf]; omega
    · have hltz : ¬ (i : Int) < (row.length : Int) := by omega
      have hfull : (Cf.texts row).take i = Cf.texts row := List.take_of_length_le (by simp [Cf.texts]; omega)
      rw [hfull] at HI
      have hlen : (Cf.texts row).length = row.length := by simp [Cf.texts]
      obtain ⟨A', c', hv, hlc, hrC⟩ := Kd.R_reads HI.out.2
      subst hv
      have RP := Lib.hid (rule_parse A' c' (Cf.texts row) wr hrC (fun s hs => by
        obtain ⟨x, hx, rfl⟩ := List.mem_map.1 hs
        exact HS.out x hx))
      rw [hlen] at RP ⊢
      have H1 := Lib.hid (H.out.step HI.out.1)
      have C1 := Lib.hid (Kd.C_below HC.out HI.out.1)
      clear HI hfull hrC hlen H HC hi hlt
      have hpa := Cf.parse_at (Cf.texts row) (by simp [Cf.texts]; omega)
      have hp2 := Cf.parse_two (Cf.texts row)
      have hp0 := Cf.parse_ok (Cf.texts row)
      have hlen : (Cf.texts row).length = row.length := by simp [Cf.texts]
      rw [hlen] at hpa hp2
      clear hlen
      have HR := Lib.hid (show ∀ o, o = Cf.rule l row → o = (if (Rl.parse (Cf.texts row)).2.1 ≠ 0 then .inr ((Rl.parse (Cf.texts row)).2.1, Cf.at_ row (Rl.parse (Cf.texts row)).2.2.toNat) else if Cf.has l (Rl.parse (Cf.texts row)).1.p = true then .inr (28, Cf.at_ row (if (Rl.parse (Cf.texts row)).1.p = ⟨#[]⟩ then 0 else 1)) else if ¬ l.length < 1000 then .inr (32, Cf.at_ row 0) else .inl (l ++ [(Rl.parse (Cf.texts row)).1])) from fun o ho => ho)
      generalize Rl.parse (Cf.texts row) = r at RP hpa hp2 hp0 HR
      obtain ⟨⟨op, oe, ou, ok⟩, e, at_⟩ := r
      simp only [parseV] at RP
      simp only at hpa hp2 hp0 HR
      have OK := Lib.hid (fun e t l c w => must_ok e t l c w)
      have BAD := Lib.hid (fun e t l c w => must_bad e t l c w)
      by_cases he : e = 0
      · subst he
        have heb : ((0 : Int) == 0) = true := rfl
        obtain rfl : at_ = 0 := hp0 rfl
        have hl2 := hp2 rfl
        have h1l : (1 : Int) < (row.length : Int) := by omega
        obtain ⟨ad, hA, p0, p1, p2⟩ := word_cells C1.out 0 hl
        subst hA
        simp only [Nat.zero_mul, addr_zero, addr_succ, Nat.zero_add] at p0 p1 p2
        obtain ⟨ad', e', p3, p4, p5⟩ := word_cells C1.out 1 (by omega)
        obtain rfl : ad = ad' := Option.some.inj e'
        simp only [Nat.one_mul, addr_succ] at p3 p4 p5
        clear hp2 hp0 hpa e'
        go_wp2_with fail
        refine RP.out.mono ?_
        rintro x w1 ⟨rfl, hb⟩
        have K := fun {a : Addr} {v : Value} (hv : wr.cell? a = some v) => (hb.cell (World.block_lt_of_cell? wr a hv)).trans hv
        obtain ⟨W1, hW1⟩ : ∃ W1, W1 = w1.alloc (.cells #[.string op, .int .u64 oe, .int .u64 ou, .int .u8 ok] 37) := ⟨_, rfl⟩
        have q0 := cell_alloc (K p0) (.cells #[.string op, .int .u64 oe, .int .u64 ou, .int .u8 ok] 37)
        have q1 := cell_alloc (K p1) (.cells #[.string op, .int .u64 oe, .int .u64 ou, .int .u8 ok] 37)
        have q2 := cell_alloc (K p2) (.cells #[.string op, .int .u64 oe, .int .u64 ou, .int .u8 ok] 37)
        have q3 := cell_alloc (K p3) (.cells #[.string op, .int .u64 oe, .int .u64 ou, .int .u8 ok] 37)
        have q4 := cell_alloc (K p4) (.cells #[.string op, .int .u64 oe, .int .u64 ou, .int .u8 ok] 37)
        have q5 := cell_alloc (K p5) (.cells #[.string op, .int .u64 oe, .int .u64 ou, .int .u8 ok] 37)
        have H2 := ((H1.out.step hb).far w1.heap.size (Nat.le_refl _)).step ((Below.refl _ _).alloc (Nat.le_refl _) (.cells #[.string op, .int .u64 oe, .int .u64 ou, .int .u8 ok] 37))
        have B7 := Blk.new w1 #[.string op, .int .u64 oe, .int .u64 ou, .int .u8 ok] 37
        rw [← hW1] at H2 B7
        have H2 := Lib.hid H2; have B7 := Lib.hid B7; have HW := Lib.hid hW1
        clear K hb p0 p1 p2 p3 p4 p5 hW1
        go_wp2_with fail
        rw [← HW.out] at q0 q1 q2 q3 q4 q5 ⊢
        refine (OK.out _ _ _ _ _).mono ?_
        rintro x w2 ⟨rfl, hb⟩
        have K := fun {a : Addr} {v : Value} (hv : W1.cell? a = some v) => (hb.cell (World.block_lt_of_cell? W1 a hv)).trans hv
        have r0 := K q0; have r1 := K q1; have r2 := K q2; have r3 := K q3; have r4 := K q4; have r5 := K q5
        have H3 := H2.out.step hb
        have B8 := B7.out.below hb B7.out.lt
        have s0 := B8.cell_at 0 _ rfl
        obtain ⟨v3, y3, _⟩ := H3.rows
        have y2 := y3.cell_at 2 _ rfl
        have lk := H3.look op
        have H3 := Lib.hid H3; have B8 := Lib.hid B8
        clear K hb q0 q1 q2 q3 q4 q5 H2 B7 y3
        go_wp2_with fail
        refine startK 13 (fun w' => w'.cell? ⟨n + 1, 2, none⟩ = some (.map (some n)) ∧ w'.cell? ⟨w1.heap.size, 0, none⟩ = some (.string op) ∧ (Instr.lookup 71 (.map (some n)) (.string op) true).run Tryz.prog w' = .ok (.tuple #[.agg #[], .bool (Cf.has l op)]) w') [] (by kernel_rfl) rfl (by kernel_rfl) ⟨y2, s0, (H3.out.step (Below.refl _ _).drew).look op⟩ (fun hHeld => ?_)
        repeat (refine takeK (v := ?_) (a' := ?_) rfl rfl rfl (by kernel_rfl) (fun _ _ _ h => h) (Or.inl ⟨by rfl, ?_⟩) hHeld ?_ ?_; rotate_left; (rintro w' ⟨s0, s1, s2⟩; go_simp; with_reducible rfl); rotate_left; (simp only [Act.put, List.setIfInBounds_toArray, List.set_cons_zero, List.set_cons_succ]; rfl))
        have HS2 := Lib.hid (fun (o : Obj) => ((H3.out.step (Below.refl _ _).drew).step ((Below.refl _ _).alloc (Nat.le_refl _) o)).look op)
        refine oneK rfl rfl rfl (by kernel_rfl) rfl (fun K hK => ?_)
        go_simp
        refine hK.out _ _ ⟨cell_alloc (w := w2.drew) y2 _, cell_alloc (w := w2.drew) s0 _, HS2.out _⟩ (fun hHeld2 => ?_)
        refine oneK rfl rfl rfl (by kernel_rfl) rfl (fun K2 hK2 => ?_)
        go_simp
        refine hK2.out _ _ ⟨cell_alloc (w := w2.drew) y2 _, cell_alloc (w := w2.drew) s0 _, HS2.out _⟩ (fun hHeld3 => ?_)
        refine oneK rfl rfl rfl (by kernel_rfl) rfl (fun K3 hK3 => ?_)
        go_simp
        refine hK3.out _ _ ⟨cell_alloc (w := w2.drew) y2 _, cell_alloc (w := w2.drew) s0 _, HS2.out _⟩ (fun hHeld4 => ?_)
        refine done_ (by kernel_rfl) ?_
        clear hHeld hHeld2 hHeld3 hHeld4 hK hK2 hK3
        have G0 := cell_alloc (w := w2.drew) r0 (.cells #[] 112)
        have G1 := cell_alloc (w := w2.drew) r1 (.cells #[] 112)
        have G2 := cell_alloc (w := w2.drew) r2 (.cells #[] 112)
        have G3 := cell_alloc (w := w2.drew) r3 (.cells #[] 112)
        have G4 := cell_alloc (w := w2.drew) r4 (.cells #[] 112)
        have G5 := cell_alloc (w := w2.drew) r5 (.cells #[] 112)
        have GH := Lib.hid ((H3.out.step (Below.refl _ _).drew).step ((Below.refl _ _).alloc (Nat.le_refl _) (.cells #[] 112)))
        have GB := Lib.hid ((B8.out.drew).alloc (.cells #[] 112))
        clear r0 r1 r2 r3 r4 r5 H3 B8 lk HS2 y2 s0
        change Exit.then _ _ Exit.normal _ (w2.drew.alloc (.cells #[] 112))
        generalize w2.drew.alloc (.cells #[] 112) = W3 at G0 G1 G2 G3 G4 G5 GH GB ⊢
        have sp := GB.out.cell_at 0 _ rfl
        have spA := fun o => cell_alloc sp o
        have G3A := fun o => cell_alloc G3 o
        have G4A := fun o => cell_alloc G4 o
        have G5A := fun o => cell_alloc G5 o
        by_cases hop : op = ⟨#[]⟩
        · subst hop
          cases hh : Cf.has l ⟨#[]⟩ with
          | true =>
            have HE := Lib.hid (Cf.ruleL_bad (m := m) ((HR.out _ rfl).trans (show _ = (Sum.inr (28, Cf.at_ row 0) : List Ru ⊕ (Int × Wd)) by rw [if_neg (by simp), if_pos hh, if_pos rfl])))
            clear hh HR
            go_wp2_with fail
            refine (BAD.out _ _ _ _ _).mono ?_
            rintro x w4 ⟨rfl, hb⟩
            go_wp2
            refine ⟨rfl, ?_⟩
            unfold RdPost
            rw [HE.out]
            exact ⟨rfl, ((GH.out.step ((Below.refl _ _).alloc (Nat.le_refl _) _)).step hb).bel⟩
          | false =>
            have HR2 := Lib.hid (show ∀ o, o = Cf.rule l row → o = (if ¬ l.length < 1000 then (Sum.inr (32, Cf.at_ row 0) : List Ru ⊕ (Int × Wd)) else .inl (l ++ [⟨⟨#[]⟩, oe, ou, ok⟩])) from fun o ho => (HR.out o ho).trans (by rw [if_neg (by simp), if_neg (by simp [hh])]))
            have HHAS := Lib.hid hh
            clear hh HR
            go_wp2_with fail
            refine (OK.out _ _ _ _ _).mono ?_
            rintro x w4 ⟨rfl, hb⟩
            have K := fun {a : Addr} {v : Value} (hv : W3.cell? a = some v) => (hb.cell (World.block_lt_of_cell? _ a (cell_alloc hv (.cells #[.string (Cf.at_ row 0).t, .int .i64 (Cf.at_ row 0).l, .int .i64 (Cf.at_ row 0).c] 76)))).trans (cell_alloc hv (.cells #[.string (Cf.at_ row 0).t, .int .i64 (Cf.at_ row 0).l, .int .i64 (Cf.at_ row 0).c] 76))
            have r0 := K G0; have r1 := K G1; have r2 := K G2
            have H4 := Lib.hid ((GH.out.step ((Below.refl _ _).alloc (Nat.le_refl _) (.cells #[.string (Cf.at_ row 0).t, .int .i64 (Cf.at_ row 0).l, .int .i64 (Cf.at_ row 0).c] 76))).step hb)
            have B4 := Lib.hid ((GB.out.alloc (.cells #[.string (Cf.at_ row 0).t, .int .i64 (Cf.at_ row 0).l, .int .i64 (Cf.at_ row 0).c] 76)).below hb (GB.out.alloc (.cells #[.string (Cf.at_ row 0).t, .int .i64 (Cf.at_ row 0).l, .int .i64 (Cf.at_ row 0).c] 76)).lt)
            clear K hb G0 G1 G2 G3 G4 G5 GH GB sp
            obtain ⟨v4, k4, kR⟩ := H4.out.rows
            obtain ⟨A4, c4, hv4⟩ := Kd.R_slice kR
            subst hv4
            have y1 := k4.cell_at 1 _ rfl
            clear k4 kR
            go_wp2_with fail
            by_cases hlt1 : l.length < 1000
            · have hlz : (l.length : Int) < 1000 := by omega
              have HE := Lib.hid (Cf.ruleL_ok (m := m) ((HR2.out _ rfl).trans (show _ = (Sum.inl (l ++ [⟨⟨#[]⟩, oe, ou, ok⟩]) : List Ru ⊕ (Int × Wd)) from if_neg (by omega))))
              refine startK 11 (fun w' => w'.cell? ad = some (.string (Cf.at_ row 0).t) ∧ w'.cell? ⟨ad.block, ad.off + 1, none⟩ = some (.int .i64 (Cf.at_ row 0).l) ∧ w'.cell? ⟨ad.block, ad.off + 2, none⟩ = some (.int .i64 (Cf.at_ row 0).c) ∧ w'.cell? ⟨n + 1, 1, none⟩ = some (.slice A4 l.length c4)) [10] (by kernel_rfl) rfl (by kernel_rfl) ⟨r0, r1, r2, y1⟩ (fun hHeld => ?_)
              repeat (refine takeK (v := ?_) (a' := ?_) rfl rfl rfl (by kernel_rfl) (fun _ _ _ h => h) (Or.inl ⟨by rfl, ?_⟩) hHeld ?_ ?_; rotate_left; (rintro w' ⟨s0, s1, s2, s3⟩; go_simp; with_reducible rfl); rotate_left; (simp only [Act.put, List.setIfInBounds_toArray, List.set_cons_zero, List.set_cons_succ]; rfl))
              refine lastK rfl rfl rfl (by kernel_rfl) rfl (fun K hK => ?_)
              go_simp
              refine (OK.out _ _ _ _ _).mono ?_
              rintro x w5 ⟨rfl, hb⟩
              have H5 := Lib.hid ((H4.out.step (Below.refl _ _).drew).step hb)
              have B5 := Lib.hid ((B4.out.drew).below hb B4.out.lt)
              refine hK.out _ _ ?_
              refine done_ (by kernel_rfl) ?_
              clear hHeld hb H4 B4 r0 r1 r2 y1 hK
              obtain ⟨es, ck, hes, hkeys⟩ := H5.out.map
              obtain ⟨v5, k5, kR5⟩ := H5.out.rows
              obtain ⟨A5, c5, hv5⟩ := Kd.R_slice kR5
              subst hv5
              have hfind : Instr.findNow .string (.string ⟨#[]⟩) es.toList 0 = some none := by
                rcases Cf.keys_find hkeys ⟨#[]⟩ with ⟨e1, _⟩ | ⟨_, hf⟩
                · rw [HHAS.out] at e1; cases e1
                · exact hf
              have hmu := run_mapUpdate_new (P := Tryz.prog) (w := w5.drew) (value := .agg #[]) Tryz.underlying71 Tryz.underlying9 hes (by exact trivial) hfind
              have g2 := k5.cell_at 2 _ rfl
              have sp5 := B5.out.cell_at 0 _ rfl
              have hG := Lib.hid (rdg_update (H5.out.step (Below.refl _ _).drew) k5.drew (Kd.R_drew kR5) hes hkeys ⟨⟨#[]⟩, oe, ou, ok⟩ ck (ck + 1))
              have hn2 := H5.out.size
              have hB6 := Lib.hid (blk_setObj B5.out.drew (r := n) (o := .map (es.push { key := .string ⟨#[]⟩, val := .agg #[], born := ck }) (ck + 1)) (by
                rintro rfl
                have := B5.out.symm.trans hes
                injection this with this
                cases this))
              clear hfind hkeys hes k5 kR5
              go_wp2_with fail
              refine startK 8 (fun w' => w'.cell? ⟨n + 1, 2, none⟩ = some (.map (some n)) ∧ w'.cell? ⟨w1.heap.size, 0, none⟩ = some (.string ⟨#[]⟩)) [7] (by kernel_rfl) rfl (by kernel_rfl) ⟨g2, sp5⟩ (fun hHeld => ?_)
              repeat (refine takeK (v := ?_) (a' := ?_) rfl rfl rfl (by kernel_rfl) (fun _ _ _ h => h) (Or.inl ⟨by rfl, ?_⟩) hHeld ?_ ?_; rotate_left; (rintro w' ⟨s0, s1⟩; go_simp; with_reducible rfl); rotate_left; (simp only [Act.put, List.setIfInBounds_toArray, List.set_cons_zero, List.set_cons_succ]; rfl))
              refine lastK rfl rfl rfl (by kernel_rfl) rfl (fun K hK => ?_)
              go_simp
              refine hK.out _ _ ?_
              refine done_ (by kernel_rfl) ?_
              clear hHeld hK hmu g2 sp5
              generalize World.setObj' w5.drew n (.map (es.push { key := .string ⟨#[]⟩, val := .agg #[], born := ck }) (ck + 1)) = w6 at hG hB6 ⊢
              have h1 := hG.out.blk.cell_at 1 _ rfl
              have b0 := hB6.out.cell_at 0 _ rfl
              have b1 := hB6.out.cell_at 1 _ rfl
              have b2 := hB6.out.cell_at 2 _ rfl
              have b3 := hB6.out.cell_at 3 _ rfl
              go_wp2_with fail
              refine startK 13 (fun w' => w'.cell? ⟨n + 1, 1, none⟩ = some (.slice A5 l.length c5) ∧ w'.cell? ⟨w1.heap.size, 0, none⟩ = some (.string ⟨#[]⟩) ∧ w'.cell? ⟨w1.heap.size, 1, none⟩ = some (.int .u64 oe) ∧ w'.cell? ⟨w1.heap.size, 2, none⟩ = some (.int .u64 ou) ∧ w'.cell? ⟨w1.heap.size, 3, none⟩ = some (.int .u8 ok)) [12] (by kernel_rfl) rfl (by kernel_rfl) ⟨h1, b0, b1, b2, b3⟩ (fun hHeld => ?_)
              repeat (refine takeK (v := ?_) (a' := ?_) rfl rfl rfl (by kernel_rfl) (fun _ _ _ h => h) (Or.inl ⟨by rfl, ?_⟩) hHeld ?_ ?_; rotate_left; (rintro w' ⟨s0, s1, s2, s3, s4⟩; go_simp; with_reducible rfl); rotate_left; (simp only [Act.put, List.setIfInBounds_toArray, List.set_cons_zero, List.set_cons_succ]; rfl))
              refine oneK rfl rfl rfl (by kernel_rfl) rfl (fun K hK => ?_)
              go_simp
              refine hK.out _ _ ⟨cell_alloc (w := w6.drew) h1 _, cell_alloc (w := w6.drew) b0 _, cell_alloc (w := w6.drew) b1 _, cell_alloc (w := w6.drew) b2 _, cell_alloc (w := w6.drew) b3 _⟩ (fun hHeld2 => ?_)
              have hsz6 := hG.out.size
              refine oneK rfl rfl rfl (by kernel_rfl) rfl (fun K2 hK2 => ?_)
              refine Kd.R_append_step kRu (w0 := w6.drew) (W := w6.drew) (n + 2) (by rfl) (.tmp 85) (.tmp 87) 26 37 _ 40 rfl (by kernel_rfl) rules_info rfl (by decide) (by decide) (.slice A5 l.length c5) l ⟨⟨#[]⟩, oe, ou, ok⟩ (Ru.cells ⟨⟨#[]⟩, oe, ou, ok⟩) (fun _ => True) (fun _ => False) rfl rfl kRu_M (fun _ h => h.elim) (fun _ _ => trivial) (Kd.R_mono (Kd.R_drew hG.out.rows) (fun _ _ => trivial)) (Below.refl _ _) hsz6 (by omega) ?_
              intro v1 w7 hR7 hB7 hg7 hat7
              have hRule := (hB6.out.drew).grown hg7 (fun e => hG.out.rows.1 w1.heap.size e.symm rfl)
              have hrd := hG.out.blk.drew.below hB7 (by omega)
              refine hK2.out _ _ ⟨hrd.cell_at 1 _ rfl, hRule.cell_at 0 _ rfl, hRule.cell_at 1 _ rfl, hRule.cell_at 2 _ rfl, hRule.cell_at 3 _ rfl⟩ (fun hHeld3 => ?_)
              obtain ⟨A7, c7, hv7⟩ := Kd.R_slice hR7
              subst hv7
              have f7 := hrd.free 1
              have c71 := hrd.cell_at 1 _ rfl
              have hFin := Lib.hid (hG.out.done ((Below.refl (n + 2) w6).drew.trans hB7) hR7)
              clear hHeld hHeld2 hK hRule hrd hR7
              repeat (refine takeK (v := ?_) (a' := ?_) rfl rfl rfl (by kernel_rfl) (fun _ _ _ h => h) (Or.inl ⟨by rfl, ?_⟩) hHeld3 ?_ ?_; rotate_left; (rintro w' ⟨s0, s1, s2, s3, s4⟩; go_simp; with_reducible rfl); rotate_left; (simp only [Act.put, List.setIfInBounds_toArray, List.set_cons_zero, List.set_cons_succ]; rfl))
              refine lastK rfl rfl rfl (by kernel_rfl) rfl (fun K3 hK3 => ?_)
              go_simp
              refine hK3.out _ _ ?_
              refine done_ (by kernel_rfl) ?_
              go_wp2
              go_end0
              unfold RdPost
              rw [HE.out]
              refine ⟨rfl, ?_⟩
              have := hFin.out
              rw [List.length_append] at this
              exact this
            · have hlz : ¬ (l.length : Int) < 1000 := by omega
              have HE := Lib.hid (Cf.ruleL_bad (m := m) ((HR2.out _ rfl).trans (show _ = (Sum.inr (32, Cf.at_ row 0) : List Ru ⊕ (Int × Wd)) from if_pos hlt1)))
              refine startK 11 (fun w' => w'.cell? ad = some (.string (Cf.at_ row 0).t) ∧ w'.cell? ⟨ad.block, ad.off + 1, none⟩ = some (.int .i64 (Cf.at_ row 0).l) ∧ w'.cell? ⟨ad.block, ad.off + 2, none⟩ = some (.int .i64 (Cf.at_ row 0).c) ∧ w'.cell? ⟨n + 1, 1, none⟩ = some (.slice A4 l.length c4)) [10] (by kernel_rfl) rfl (by kernel_rfl) ⟨r0, r1, r2, y1⟩ (fun hHeld => ?_)
              repeat (refine takeK (v := ?_) (a' := ?_) rfl rfl rfl (by kernel_rfl) (fun _ _ _ h => h) (Or.inl ⟨by rfl, ?_⟩) hHeld ?_ ?_; rotate_left; (rintro w' ⟨s0, s1, s2, s3⟩; go_simp; with_reducible rfl); rotate_left; (simp only [Act.put, List.setIfInBounds_toArray, List.set_cons_zero, List.set_cons_succ]; rfl))
              refine lastK rfl rfl rfl (by kernel_rfl) rfl (fun K hK => ?_)
              go_simp
              refine (BAD.out _ _ _ _ _).mono ?_
              rintro x w5 ⟨rfl, hb⟩
              refine ⟨rfl, ?_⟩
              unfold RdPost
              rw [HE.out]
              exact ⟨rfl, ((H4.out.step (Below.refl _ _).drew).step hb).bel⟩
        · have hop1 : op.toList.isEmpty = false := by
            rw [Bool.eq_false_iff]; intro h; rw [List.isEmpty_iff, Lib.toList_data] at h
            exact hop (by cases op with | mk d => simp at h; rw [h])
          have HOP := Lib.hid hop
          clear hop
          cases hh : Cf.has l op with
          | true =>
            have HE := Lib.hid (Cf.ruleL_bad (m := m) ((HR.out _ rfl).trans (show _ = (Sum.inr (28, Cf.at_ row 1) : List Ru ⊕ (Int × Wd)) by rw [if_neg (by simp), if_pos hh, if_neg HOP.out])))
            clear hh HR
            go_wp2_with fail
            refine (BAD.out _ _ _ _ _).mono ?_
            rintro x w4 ⟨rfl, hb⟩
            go_wp2
            refine ⟨rfl, ?_⟩
            unfold RdPost
            rw [HE.out]
            exact ⟨rfl, ((GH.out.step ((Below.refl _ _).alloc (Nat.le_refl _) _)).step hb).bel⟩
          | false =>
            have HR2 := Lib.hid (show ∀ o, o = Cf.rule l row → o = (if ¬ l.length < 1000 then (Sum.inr (32, Cf.at_ row 0) : List Ru ⊕ (Int × Wd)) else .inl (l ++ [⟨op, oe, ou, ok⟩])) from fun o ho => (HR.out o ho).trans (by rw [if_neg (by simp), if_neg (by simp [hh])]))
            have HHAS := Lib.hid hh
            clear hh HR
            go_wp2_with fail
            refine (OK.out _ _ _ _ _).mono ?_
            rintro x w4 ⟨rfl, hb⟩
            have K := fun {a : Addr} {v : Value} (hv : W3.cell? a = some v) => (hb.cell (World.block_lt_of_cell? _ a (cell_alloc hv (.cells #[.string (Cf.at_ row 1).t, .int .i64 (Cf.at_ row 1).l, .int .i64 (Cf.at_ row 1).c] 76)))).trans (cell_alloc hv (.cells #[.string (Cf.at_ row 1).t, .int .i64 (Cf.at_ row 1).l, .int .i64 (Cf.at_ row 1).c] 76))
            have r0 := K G0; have r1 := K G1; have r2 := K G2
            have H4 := Lib.hid ((GH.out.step ((Below.refl _ _).alloc (Nat.le_refl _) (.cells #[.string (Cf.at_ row 1).t, .int .i64 (Cf.at_ row 1).l, .int .i64 (Cf.at_ row 1).c] 76))).step hb)
            have B4 := Lib.hid ((GB.out.alloc (.cells #[.string (Cf.at_ row 1).t, .int .i64 (Cf.at_ row 1).l, .int .i64 (Cf.at_ row 1).c] 76)).below hb (GB.out.alloc (.cells #[.string (Cf.at_ row 1).t, .int .i64 (Cf.at_ row 1).l, .int .i64 (Cf.at_ row 1).c] 76)).lt)
            clear K hb G0 G1 G2 G3 G4 G5 GH GB sp
            obtain ⟨v4, k4, kR⟩ := H4.out.rows
            obtain ⟨A4, c4, hv4⟩ := Kd.R_slice kR
            subst hv4
            have y1 := k4.cell_at 1 _ rfl
            clear k4 kR
            go_wp2_with fail
            by_cases hlt1 : l.length < 1000
            · have hlz : (l.length : Int) < 1000 := by omega
              have HE := Lib.hid (Cf.ruleL_ok (m := m) ((HR2.out _ rfl).trans (show _ = (Sum.inl (l ++ [⟨op, oe, ou, ok⟩]) : List Ru ⊕ (Int × Wd)) from if_neg (by omega))))
              refine startK 11 (fun w' => w'.cell? ad = some (.string (Cf.at_ row 0).t) ∧ w'.cell? ⟨ad.block, ad.off + 1, none⟩ = some (.int .i64 (Cf.at_ row 0).l) ∧ w'.cell? ⟨ad.block, ad.off + 2, none⟩ = some (.int .i64 (Cf.at_ row 0).c) ∧ w'.cell? ⟨n + 1, 1, none⟩ = some (.slice A4 l.length c4)) [10] (by kernel_rfl) rfl (by kernel_rfl) ⟨r0, r1, r2, y1⟩ (fun hHeld => ?_)
              repeat (refine takeK (v := ?_) (a' := ?_) rfl rfl rfl (by kernel_rfl) (fun _ _ _ h => h) (Or.inl ⟨by rfl, ?_⟩) hHeld ?_ ?_; rotate_left; (rintro w' ⟨s0, s1, s2, s3⟩; go_simp; with_reducible rfl); rotate_left; (simp only [Act.put, List.setIfInBounds_toArray, List.set_cons_zero, List.set_cons_succ]; rfl))
              refine lastK rfl rfl rfl (by kernel_rfl) rfl (fun K hK => ?_)
              go_simp
              refine (OK.out _ _ _ _ _).mono ?_
              rintro x w5 ⟨rfl, hb⟩
              have H5 := Lib.hid ((H4.out.step (Below.refl _ _).drew).step hb)
              have B5 := Lib.hid ((B4.out.drew).below hb B4.out.lt)
              refine hK.out _ _ ?_
              refine done_ (by kernel_rfl) ?_
              clear hHeld hb H4 B4 r0 r1 r2 y1 hK
              obtain ⟨es, ck, hes, hkeys⟩ := H5.out.map
              obtain ⟨v5, k5, kR5⟩ := H5.out.rows
              obtain ⟨A5, c5, hv5⟩ := Kd.R_slice kR5
              subst hv5
              have hfind : Instr.findNow .string (.string op) es.toList 0 = some none := by
                rcases Cf.keys_find hkeys op with ⟨e1, _⟩ | ⟨_, hf⟩
                · rw [HHAS.out] at e1; cases e1
                · exact hf
              have hmu := run_mapUpdate_new (P := Tryz.prog) (w := w5.drew) (value := .agg #[]) Tryz.underlying71 Tryz.underlying9 hes (by exact trivial) hfind
              have g2 := k5.cell_at 2 _ rfl
              have sp5 := B5.out.cell_at 0 _ rfl
              have hG := Lib.hid (rdg_update (H5.out.step (Below.refl _ _).drew) k5.drew (Kd.R_drew kR5) hes hkeys ⟨op, oe, ou, ok⟩ ck (ck + 1))
              have hn2 := H5.out.size
              have hB6 := Lib.hid (blk_setObj B5.out.drew (r := n) (o := .map (es.push { key := .string op, val := .agg #[], born := ck }) (ck + 1)) (by
                rintro rfl
                have := B5.out.symm.trans hes
                injection this with this
                cases this))
              clear hfind hkeys hes k5 kR5
              go_wp2_with fail
              refine startK 8 (fun w' => w'.cell? ⟨n + 1, 2, none⟩ = some (.map (some n)) ∧ w'.cell? ⟨w1.heap.size, 0, none⟩ = some (.string op)) [7] (by kernel_rfl) rfl (by kernel_rfl) ⟨g2, sp5⟩ (fun hHeld => ?_)
              repeat (refine takeK (v := ?_) (a' := ?_) rfl rfl rfl (by kernel_rfl) (fun _ _ _ h => h) (Or.inl ⟨by rfl, ?_⟩) hHeld ?_ ?_; rotate_left; (rintro w' ⟨s0, s1⟩; go_simp; with_reducible rfl); rotate_left; (simp only [Act.put, List.setIfInBounds_toArray, List.set_cons_zero, List.set_cons_succ]; rfl))
              refine lastK rfl rfl rfl (by kernel_rfl) rfl (fun K hK => ?_)
              go_simp
              refine hK.out _ _ ?_
              refine done_ (by kernel_rfl) ?_
              clear hHeld hK hmu g2 sp5
              generalize World.setObj' w5.drew n (.map (es.push { key := .string op, val := .agg #[], born := ck }) (ck + 1)) = w6 at hG hB6 ⊢
              have h1 := hG.out.blk.cell_at 1 _ rfl
              have b0 := hB6.out.cell_at 0 _ rfl
              have b1 := hB6.out.cell_at 1 _ rfl
              have b2 := hB6.out.cell_at 2 _ rfl
              have b3 := hB6.out.cell_at 3 _ rfl
              go_wp2_with fail
              refine startK 13 (fun w' => w'.cell? ⟨n + 1, 1, none⟩ = some (.slice A5 l.length c5) ∧ w'.cell? ⟨w1.heap.size, 0, none⟩ = some (.string op) ∧ w'.cell? ⟨w1.heap.size, 1, none⟩ = some (.int .u64 oe) ∧ w'.cell? ⟨w1.heap.size, 2, none⟩ = some (.int .u64 ou) ∧ w'.cell? ⟨w1.heap.size, 3, none⟩ = some (.int .u8 ok)) [12] (by kernel_rfl) rfl (by kernel_rfl) ⟨h1, b0, b1, b2, b3⟩ (fun hHeld => ?_)
              repeat (refine takeK (v := ?_) (a' := ?_) rfl rfl rfl (by kernel_rfl) (fun _ _ _ h => h) (Or.inl ⟨by rfl, ?_⟩) hHeld ?_ ?_; rotate_left; (rintro w' ⟨s0, s1, s2, s3, s4⟩; go_simp; with_reducible rfl); rotate_left; (simp only [Act.put, List.setIfInBounds_toArray, List.set_cons_zero, List.set_cons_succ]; rfl))
              refine oneK rfl rfl rfl (by kernel_rfl) rfl (fun K hK => ?_)
              go_simp
              refine hK.out _ _ ⟨cell_alloc (w := w6.drew) h1 _, cell_alloc (w := w6.drew) b0 _, cell_alloc (w := w6.drew) b1 _, cell_alloc (w := w6.drew) b2 _, cell_alloc (w := w6.drew) b3 _⟩ (fun hHeld2 => ?_)
              have hsz6 := hG.out.size
              refine oneK rfl rfl rfl (by kernel_rfl) rfl (fun K2 hK2 => ?_)
              refine Kd.R_append_step kRu (w0 := w6.drew) (W := w6.drew) (n + 2) (by rfl) (.tmp 85) (.tmp 87) 26 37 _ 40 rfl (by kernel_rfl) rules_info rfl (by decide) (by decide) (.slice A5 l.length c5) l ⟨op, oe, ou, ok⟩ (Ru.cells ⟨op, oe, ou, ok⟩) (fun _ => True) (fun _ => False) rfl rfl kRu_M (fun _ h => h.elim) (fun _ _ => trivial) (Kd.R_mono (Kd.R_drew hG.out.rows) (fun _ _ => trivial)) (Below.refl _ _) hsz6 (by omega) ?_
              intro v1 w7 hR7 hB7 hg7 hat7
              have hRule := (hB6.out.drew).grown hg7 (fun e => hG.out.rows.1 w1.heap.size e.symm rfl)
              have hrd := hG.out.blk.drew.below hB7 (by omega)
              refine hK2.out _ _ ⟨hrd.cell_at 1 _ rfl, hRule.cell_at 0 _ rfl, hRule.cell_at 1 _ rfl, hRule.cell_at 2 _ rfl, hRule.cell_at 3 _ rfl⟩ (fun hHeld3 => ?_)
              obtain ⟨A7, c7, hv7⟩ := Kd.R_slice hR7
              subst hv7
              have f7 := hrd.free 1
              have c71 := hrd.cell_at 1 _ rfl
              have hFin := Lib.hid (hG.out.done ((Below.refl (n + 2) w6).drew.trans hB7) hR7)
              clear hHeld hHeld2 hK hRule hrd hR7
              repeat (refine takeK (v := ?_) (a' := ?_) rfl rfl rfl (by kernel_rfl) (fun _ _ _ h => h) (Or.inl ⟨by rfl, ?_⟩) hHeld3 ?_ ?_; rotate_left; (rintro w' ⟨s0, s1, s2, s3, s4⟩; go_simp; with_reducible rfl); rotate_left; (simp only [Act.put, List.setIfInBounds_toArray, List.set_cons_zero, List.set_cons_succ]; rfl))
              refine lastK rfl rfl rfl (by kernel_rfl) rfl (fun K3 hK3 => ?_)
              go_simp
              refine hK3.out _ _ ?_
              refine done_ (by kernel_rfl) ?_
              go_wp2
              go_end0
              unfold RdPost
              rw [HE.out]
              refine ⟨rfl, ?_⟩
              have := hFin.out
              rw [List.length_append] at this
              exact this
            · have hlz : ¬ (l.length : Int) < 1000 := by omega
              have HE := Lib.hid (Cf.ruleL_bad (m := m) ((HR2.out _ rfl).trans (show _ = (Sum.inr (32, Cf.at_ row 0) : List Ru ⊕ (Int × Wd)) from if_pos hlt1)))
              refine startK 11 (fun w' => w'.cell? ad = some (.string (Cf.at_ row 0).t) ∧ w'.cell? ⟨ad.block, ad.off + 1, none⟩ = some (.int .i64 (Cf.at_ row 0).l) ∧ w'.cell? ⟨ad.block, ad.off + 2, none⟩ = some (.int .i64 (Cf.at_ row 0).c) ∧ w'.cell? ⟨n + 1, 1, none⟩ = some (.slice A4 l.length c4)) [10] (by kernel_rfl) rfl (by kernel_rfl) ⟨r0, r1, r2, y1⟩ (fun hHeld => ?_)
              repeat (refine takeK (v := ?_) (a' := ?_) rfl rfl rfl (by kernel_rfl) (fun _ _ _ h => h) (Or.inl ⟨by rfl, ?_⟩) hHeld ?_ ?_; rotate_left; (rintro w' ⟨s0, s1, s2, s3⟩; go_simp; with_reducible rfl); rotate_left; (simp only [Act.put, List.setIfInBounds_toArray, List.set_cons_zero, List.set_cons_succ]; rfl))
              refine lastK rfl rfl rfl (by kernel_rfl) rfl (fun K hK => ?_)
              go_simp
              refine (BAD.out _ _ _ _ _).mono ?_
              rintro x w5 ⟨rfl, hb⟩
              refine ⟨rfl, ?_⟩
              unfold RdPost
              rw [HE.out]
              exact ⟨rfl, ((H4.out.step (Below.refl _ _).drew).step hb).bel⟩
      · have heb : (e == 0) = false := by rw [beq_eq_false_iff_ne]; exact he
        obtain ⟨ha0, hal⟩ := hpa he
        obtain ⟨ad, hA, p0, p1, p2⟩ := word_cells' C1.out at_.toNat (by omega)
        subst hA
        have HE := Lib.hid (Cf.ruleL_bad (m := m) ((HR.out _ rfl).trans (show _ = (Sum.inr (e, Cf.at_ row at_.toNat) : List Ru ⊕ (Int × Wd)) from if_pos he)))
        clear he hp2 hp0 HR hpa
        go_wp2_with fail
        refine RP.out.mono ?_
        rintro x w1 ⟨rfl, hb⟩
        have K := fun {a : Addr} {v : Value} (hv : wr.cell? a = some v) => (hb.cell (World.block_lt_of_cell? wr a hv)).trans hv
        have q0 := K p0; have q1 := K p1; have q2 := K p2
        have q0 := cell_alloc q0 (.cells #[.string op, .int .u64 oe, .int .u64 ou, .int .u8 ok] 37)
        have q1 := cell_alloc q1 (.cells #[.string op, .int .u64 oe, .int .u64 ou, .int .u8 ok] 37)
        have q2 := cell_alloc q2 (.cells #[.string op, .int .u64 oe, .int .u64 ou, .int .u8 ok] 37)
        have H2 := Lib.hid ((H1.out.step hb).step ((Below.refl _ _).alloc (Nat.le_refl _) (.cells #[.string op, .int .u64 oe, .int .u64 ou, .int .u8 ok] 37)))
        clear K hb p0 p1 p2
        go_wp2_with fail
        refine (BAD.out _ _ _ _ _).mono ?_
        rintro x w2 ⟨rfl, hb⟩
        go_wp2
        refine ⟨rfl, ?_⟩
        unfold RdPost
        rw [HE.out]
        exact ⟨rfl, (H2.out.step hb).bel⟩
end Go.Proofs.YtamhpnenpoamhaaGreat

/- config.prefixes. -/
namespace Go.Proofs.YtamhpnenpoamhaaGreat
open Go.RowKit Go.Proofs.YtamhpnenpoamhaaGreatW.PrintWords Go.Proofs.YtamhpnenpoamhaaGreatW.PrintLast

/-- The cells of a rule of a row that is read. -/
theorem rule_cells {w : World} {A : Option Addr} {l : List Ru} (h : kRu.C w A l.length l) (i : Nat) (hi : i < l.length) : ∃ ad, A = some ad ∧ w.cell? (ad.add (i * 4)) = some (.string (l.getD i Ru.zero).p) ∧ w.cell? ⟨(ad.add (i * 4)).block, (ad.add (i * 4)).off + 1, none⟩ = some (.int .u64 (l.getD i Ru.zero).e) ∧ w.cell? ⟨(ad.add (i * 4)).block, (ad.add (i * 4)).off + 2, none⟩ = some (.int .u64 (l.getD i Ru.zero).u) ∧ w.cell? ⟨(ad.add (i * 4)).block, (ad.add (i * 4)).off + 3, none⟩ = some (.int .u8 (l.getD i Ru.zero).k) := by
  obtain ⟨ad, cs, hA, _, hK, hc⟩ := Kd.C_get h Ru.zero i (by omega) (by omega)
  obtain rfl := kRu_K hK
  rw [Int.toNat_natCast] at hc
  have h0 := hc 0 _ rfl
  have h1 := hc (0 + 1) _ rfl
  have h2 := hc (1 + 1) _ rfl
  have h3 := hc (2 + 1) _ rfl
  change w.cell? (ad.add (i * 4 + (0 + 1))) = _ at h1
  change w.cell? (ad.add (i * 4 + (1 + 1))) = _ at h2
  change w.cell? (ad.add (i * 4 + (2 + 1))) = _ at h3
  rw [addr_next] at h1 h2 h3
  exact ⟨ad, hA, h0, h1, h2, h3⟩

def pres (l : List Ru) : List ByteArray := l.map (·.p)
set_option maxHeartbeats 4000000 in
set_option maxRecDepth 100000 in
theorem config_prefixes (A : Option Addr) (c : Nat) (l : List Ru) (w : World) (hc : kRu.C w A l.length l) (hl : l.length ≤ 1000000) :
    Calls Tryz.prog 37 #[.slice A l.length c] w fun x w' => ∃ v, x = .returned v ∧ Kd.string.R 9 w' w.heap.size (fun _ => True) v (pres l) ∧ Below w.heap.size w w' := by
  have HC := Lib.hid hc
  have hrz : (l.length : Int) ≤ 1000000 := by omega
  clear hc
  go_enter Tryz.func37, Tryz.ntmps37
  go_wp2
  go_loopw [3, 8] (fun v iv wr => ∃ (i : Nat), iv = .int .i64 i ∧ i ≤ l.length ∧ Aside (Below w.heap.size w wr ∧ Kd.string.R 9 wr w.heap.size (fun _ => True) v ((pres l).take i))) (fun _ iv _ => l.length - (intOf iv).toNat)
  case atStart => exact ⟨0, rfl, Nat.zero_le _, Below.refl _ _, Kd.R_nil _ _ _ _ _⟩
  case round =>
    obtain ⟨i, rfl, hi, HI⟩ := hrel
    by_cases hlt : i < l.length
    · have hltz : (i : Int) < (l.length : Int) := by omega
      obtain ⟨ad, hA, p0, p1, p2, p3⟩ := rule_cells (Kd.C_below HC.out HI.out.1) i hlt
      subst hA
      have hti : (pres l).take (i + 1) = (pres l).take i ++ [(l.getD i Ru.zero).p] := by
        have hli : i < (pres l).length := by simpa [pres] using hlt
        rw [List.take_succ_eq_append_getElem hli]
        simp [pres, List.getD_eq_getElem?_getD, List.getElem?_eq_getElem hlt]
      have HTI := Lib.hid hti
      have HTL := Lib.hid (show ((pres l).take i).length ≤ 1000000 by rw [List.length_take]; omega)
      clear hti
      generalize hr : l.getD i Ru.zero = r at p0 p1 p2 p3 HTI
      clear hr
      go_wp2_with (at_builtin; refine Kd.R_append Kd.string (w0 := w) (W := wr.alloc (.cells #[.string r.p, .int .u64 r.e, .int .u64 r.u, .int .u8 r.k] 37)) w.heap.size rfl (.tmp 12) (.tmp 15) 32 9 _ 16 rfl (by kernel_rfl) strs_info rfl (by decide) (by decide) u3 ((pres l).take i) r.p [.string r.p] (fun _ => True) (fun _ => False) rfl (by rw [World.size_alloc]; rfl) rfl (fun _ h => h.elim) (fun _ _ => trivial) (Kd.R_alloc HI.out.2 _) (HI.out.1.alloc HI.out.1.size _) (by rw [World.size_alloc]; have := HI.out.1.size; omega) (by have := HTL.out; omega) ?_; intro v1 w1 hR1 hB1 hg1 hat)
      go_roundw
      case rel => exact ⟨i + 1, by go_num, by omega, hB1, by rw [HTI.out]; exact hR1⟩
      case measure => simp [intOf]; omega
    · have hltz : ¬ (i : Int) < (l.length : Int) := by omega
      have hfull : (pres l).take i = pres l := List.take_of_length_le (by simp [pres]; omega)
      rw [hfull] at HI
      clear hfull
      go_wp2
      go_ret
      exact ⟨_, rfl, HI.out.2, HI.out.1⟩
end Go.Proofs.YtamhpnenpoamhaaGreat

/- key.both: the iterator over two strings comes to their bytes place by place. -/
namespace Go.Proofs.YtamhpnenpoamhaaGreat
open Go.RowKit Go.Shelf
attribute [local go_sem] Oper.semAt_some

set_option maxHeartbeats 1000000 in
theorem key_both (a b : ByteArray) (w : World) :
    CallsIn Fence.wide 5 Tryz.prog 88 #[.string a, .string b] w fun e w' => e = .returned (.func (.func 103) #[] #[.pointer (some ⟨w.heap.size, 0, none⟩), .pointer (some ⟨w.heap.size + 1, 0, none⟩)]) ∧ w' = (w.alloc (.cells #[.string a] 9)).alloc (.cells #[.string b] 9) := by
  refine callsIn_of_wp Tryz.func88 rfl trivial ?_ rfl
  simp only [Tryz.ntmps88, List.size_toArray, List.length_cons, List.length_nil, Nat.reduceAdd, Nat.reduceSub, Array.replicate_succ, Array.replicate_zero, List.push_toArray, List.append_toArray, List.nil_append, List.cons_append]
  gi_wp2
  go_ret
  exact ⟨rfl, rfl⟩

set_option maxRecDepth 100000 in
set_option maxHeartbeats 2000000 in
theorem key_both1 (l n₀ A B : Nat) (a b : ByteArray) (hA : A < n₀) (hB : B < n₀) (hsa : a.size ≤ 9223372036854775807) (hsb : b.size ≤ 9223372036854775807) (J Jx : List (UInt8 × UInt8) → World → Prop)
    (hY : ∀ pre x W, J pre W → pre.length < min a.size b.size → YieldAt Fence.wide (5 - 1) Tryz.prog l #[.int .u8 (x.1.toNat : Int), .int .u8 (x.2.toNat : Int)] W fun e W' =>
      (e = .returned (.bool true) ∧ J (pre ++ [x]) W' ∧ Below n₀ W W') ∨ (e = .returned (.bool false) ∧ Jx (pre ++ [x]) W'))
    (hD : ∀ s W, J s W → J s W.drew) (W : World) (hAs : W.cell? ⟨A, 0, none⟩ = some (.string a)) (hBs : W.cell? ⟨B, 0, none⟩ = some (.string b)) (h0 : J [] W) :
    CallsIn Fence.wide 5 Tryz.prog 103 #[.func (.yield l) #[] #[], .pointer (some ⟨A, 0, none⟩), .pointer (some ⟨B, 0, none⟩)] W fun e W' => (∃ v, e = .returned v) ∧
      ((∃ ys, ys = Ky.pairs a b (min a.size b.size) ∧ J ys W') ∨ (∃ pre, (∃ k, k ≤ min a.size b.size ∧ pre = Ky.pairs a b k) ∧ Jx pre W')) := by
  refine callsIn_of_wp Tryz.func103 rfl trivial ?_ rfl
  simp only [Tryz.ntmps103, List.size_toArray, List.length_cons, List.length_nil, Nat.reduceAdd, Nat.reduceSub, Array.replicate_succ, Array.replicate_zero, List.push_toArray, List.append_toArray, List.nil_append, List.cons_append]
  rcases Nat.lt_or_ge b.size a.size with hmin | hmin
  · gi_wp2
    gi_loopw [10] (fun i wr => ∃ k : Nat, k ≤ min a.size b.size ∧ i = .int .i64 k ∧ J (Ky.pairs a b k) wr ∧ Below n₀ W wr)
      (fun i _ => min a.size b.size - (intOf i).toNat)
    case atStart => exact ⟨0, Nat.zero_le _, rfl, h0, Below.refl _ _⟩
    case round =>
      obtain ⟨k, hk, rfl, hJs, hnx⟩ := hrel
      have hax : wr.cell? ⟨A, 0, none⟩ = some (.string a) := (hnx.cell (p := ⟨A, 0, none⟩) hA).trans hAs
      have hbx : wr.cell? ⟨B, 0, none⟩ = some (.string b) := (hnx.cell (p := ⟨B, 0, none⟩) hB).trans hBs
      by_cases hlt : k < min a.size b.size
      · obtain ⟨fn, tmps, assign, body, hy, hR0⟩ := hY _ (Ky.at8 a k, Ky.at8 b k) wr.drew (hD _ _ hJs) (by rw [Ky.pairs_length]; exact hlt)
        have hR := hR0.mono (R' := fun e W' => ∃ bb : Bool, e = .returned (.bool bb) ∧ Hid ((bb = true ∧ J (Ky.pairs a b k ++ [(Ky.at8 a k, Ky.at8 b k)]) W' ∧ Below n₀ wr.drew W') ∨ (bb = false ∧ Jx (Ky.pairs a b k ++ [(Ky.at8 a k, Ky.at8 b k)]) W'))) (fun e W' h => by
          rcases h with ⟨rfl, h1, h2⟩ | ⟨rfl, h1⟩
          · exact ⟨true, rfl, .inl ⟨rfl, h1, h2⟩⟩
          · exact ⟨false, rfl, .inr ⟨rfl, h1⟩⟩)
        clear hR0
        dsimp only at hy
        have ha : k < a.size := by omega
        have hb : k < b.size := by omega
        rw [← Ky.at8_eq a k ha, ← Ky.at8_eq b k hb] at hy
        have HA := Lib.hid hAs; have HB := Lib.hid hBs; clear hAs hBs
        have HY := Lib.hid hY; clear hY
        have HDD := Lib.hid hD; clear hD
        have hmx : Tryz.prog.follows .mixedOrders = true := by kernel_rfl
        gi_wp2
        gi_region_with_o (refine hR.mono ?_; rintro e W3 ⟨bb, rfl, hbb⟩)
        all_goals
          rcases hbb.out with ⟨rfl, hJ3, hk3⟩ | ⟨rfl, hJx3⟩
          · gi_wp2
            go_roundw
            case rel => exact ⟨k + 1, by omega, by simp, by rw [Ky.pairs_succ]; exact hJ3, hnx.trans ((Below.refl _ _).drew.trans hk3)⟩
            case measure => simp [intOf]; omega
          · gi_wp2
            refine bodyPost_ret (results_none rfl _ _ _) rfl ?_
            exact ⟨⟨_, rfl⟩, .inr ⟨_, ⟨k + 1, by omega, (Ky.pairs_succ _ _ _).symm⟩, hJx3⟩⟩
      · have HY := Lib.hid hY; clear hY
        gi_wp2
        go_end0
        obtain rfl : k = min a.size b.size := by omega
        exact ⟨⟨_, rfl⟩, .inl ⟨_, rfl, hJs⟩⟩
  · gi_wp2
    gi_loopw [10] (fun i wr => ∃ k : Nat, k ≤ min a.size b.size ∧ i = .int .i64 k ∧ J (Ky.pairs a b k) wr ∧ Below n₀ W wr)
      (fun i _ => min a.size b.size - (intOf i).toNat)
    case atStart => exact ⟨0, Nat.zero_le _, rfl, h0, Below.refl _ _⟩
    case round =>
      obtain ⟨k, hk, rfl, hJs, hnx⟩ := hrel
      have hax : wr.cell? ⟨A, 0, none⟩ = some (.string a) := (hnx.cell (p := ⟨A, 0, none⟩) hA).trans hAs
      have hbx : wr.cell? ⟨B, 0, none⟩ = some (.string b) := (hnx.cell (p := ⟨B, 0, none⟩) hB).trans hBs
      by_cases hlt : k < min a.size b.size
      · obtain ⟨fn, tmps, assign, body, hy, hR0⟩ := hY _ (Ky.at8 a k, Ky.at8 b k) wr.drew (hD _ _ hJs) (by rw [Ky.pairs_length]; exact hlt)
        have hR := hR0.mono (R' := fun e W' => ∃ bb : Bool, e = .returned (.bool bb) ∧ Hid ((bb = true ∧ J (Ky.pairs a b k ++ [(Ky.at8 a k, Ky.at8 b k)]) W' ∧ Below n₀ wr.drew W') ∨ (bb = false ∧ Jx (Ky.pairs a b k ++ [(Ky.at8 a k, Ky.at8 b k)]) W'))) (fun e W' h => by
          rcases h with ⟨rfl, h1, h2⟩ | ⟨rfl, h1⟩
          · exact ⟨true, rfl, .inl ⟨rfl, h1, h2⟩⟩
          · exact ⟨false, rfl, .inr ⟨rfl, h1⟩⟩)
        clear hR0
        dsimp only at hy
        have ha : k < a.size := by omega
        have hb : k < b.size := by omega
        rw [← Ky.at8_eq a k ha, ← Ky.at8_eq b k hb] at hy
        have HA := Lib.hid hAs; have HB := Lib.hid hBs; clear hAs hBs
        have HY := Lib.hid hY; clear hY
        have HDD := Lib.hid hD; clear hD
        have hmx : Tryz.prog.follows .mixedOrders = true := by kernel_rfl
        gi_wp2
        gi_region_with_o (refine hR.mono ?_; rintro e W3 ⟨bb, rfl, hbb⟩)
        all_goals
          rcases hbb.out with ⟨rfl, hJ3, hk3⟩ | ⟨rfl, hJx3⟩
          · gi_wp2
            go_roundw
            case rel => exact ⟨k + 1, by omega, by simp, by rw [Ky.pairs_succ]; exact hJ3, hnx.trans ((Below.refl _ _).drew.trans hk3)⟩
            case measure => simp [intOf]; omega
          · gi_wp2
            refine bodyPost_ret (results_none rfl _ _ _) rfl ?_
            exact ⟨⟨_, rfl⟩, .inr ⟨_, ⟨k + 1, by omega, (Ky.pairs_succ _ _ _).symm⟩, hJx3⟩⟩
      · have HY := Lib.hid hY; clear hY
        gi_wp2
        go_end0
        obtain rfl : k = min a.size b.size := by omega
        exact ⟨⟨_, rfl⟩, .inl ⟨_, rfl, hJs⟩⟩

theorem key_both_stops (n₀ A B : Nat) (a b : ByteArray) (hA : A < n₀) (hB : B < n₀) (hsa : a.size ≤ 9223372036854775807) (hsb : b.size ≤ 9223372036854775807) (w : World) (hn : n₀ ≤ w.heap.size)
    (hAs : w.cell? ⟨A, 0, none⟩ = some (.string a)) (hBs : w.cell? ⟨B, 0, none⟩ = some (.string b)) :
    SeqStopsK Fence.wide 5 Tryz.prog 103 #[.pointer (some ⟨A, 0, none⟩), .pointer (some ⟨B, 0, none⟩)] (fun x : UInt8 × UInt8 => #[Value.int .u8 (x.1.toNat : Int), Value.int .u8 (x.2.toNat : Int)]) (Below n₀)
      (fun ys => ys = Ky.pairs a b (min a.size b.size)) (fun pre => ∃ k, k ≤ min a.size b.size ∧ pre = Ky.pairs a b k) (min a.size b.size) w := fun l J Jx W hW hJ _ hY h0 =>
  key_both1 l n₀ A B a b hA hB hsa hsb J Jx hY (fun s W h => hJ s W W.drew none h ⟨rfl, rfl, rfl, Nat.le_refl _, fun _ _ _ => rfl⟩ (fun _ e => by cases e)) W
    ((hW.cell (p := ⟨A, 0, none⟩) (Nat.lt_of_lt_of_le hA hn)).trans hAs) ((hW.cell (p := ⟨B, 0, none⟩) (Nat.lt_of_lt_of_le hB hn)).trans hBs) h0

end Go.Proofs.YtamhpnenpoamhaaGreat

/- key.Less of two strings answers as Ky.lessB says. -/
namespace Go.Proofs.YtamhpnenpoamhaaGreat
open Go.RowKit Go.Shelf
attribute [local go_sem] Oper.semAt_some

set_option maxRecDepth 100000 in
set_option maxHeartbeats 2000000 in
theorem key_less_in (a b : ByteArray) (w : World) (hsa : a.size ≤ 9223372036854775807) (hsb : b.size ≤ 9223372036854775807) :
    CallsIn Fence.wide 6 Tryz.prog 60 #[.string a, .string b] w fun e W' => e = .returned (.bool (Ky.lessB a b)) ∧ Below w.heap.size w W' := by
  refine callsIn_of_wp_marks Tryz.func60 rfl trivial ?_ rfl
  simp only [Tryz.ntmps60, List.size_toArray, List.length_cons, List.length_nil, Nat.reduceAdd, Nat.reduceSub, Array.replicate_succ, Array.replicate_zero, List.push_toArray, List.append_toArray, List.nil_append, List.cons_append]
  gi_wp2_with fail
  refine ⟨trivial, ?_⟩
  refine (key_both _ _ _).mono ?_
  rintro e w' ⟨rfl, rfl⟩
  have bR := Boxed.new w 4 (.bool false)
  have bA := Boxed.new (w.alloc (.cells #[.bool false] 4)) 9 (.string a)
  have bB := Boxed.new ((w.alloc (.cells #[.bool false] 4)).alloc (.cells #[.string a] 9)) 9 (.string b)
  simp only [World.size_alloc] at bA bB
  have hB0 : Below w.heap.size w (((w.alloc (.cells #[.bool false] 4)).alloc (.cells #[.string a] 9)).alloc (.cells #[.string b] 9)) := (((Below.refl _ w).alloc (Nat.le_refl _) _).alloc (by simp) _).alloc (by simp; omega) _
  gi_wp2_with fail
  refine wpIn_rangeFunc_ownG (F := Fence.wide) rfl (by omega) (gf := 103) (lb := #[.pointer (some ⟨w.heap.size + 1, 0, none⟩), .pointer (some ⟨w.heap.size + 1 + 1, 0, none⟩)]) rfl trivial (enters_of Tryz.func103 (by kernel_rfl) rfl)
    (key_both_stops (w.heap.size + 3) (w.heap.size + 1) (w.heap.size + 1 + 1) a b (by omega) (by omega) hsa hsb _ (by simp) (bA.alloc _).cell bB.cell) belowK_t (belowK_b (by simp)) (Below.refl _ _) (fun _ => rfl)
    (fun pre W => ((∀ p ∈ pre, p.1 = p.2) ∧ W.cell? ⟨w.heap.size, 0, none⟩ = some (.bool false) ∧ W.frozen? ⟨w.heap.size, 0, none⟩ = false) ∧ Below w.heap.size w W)
    (fun c pre W => (c = .ret ∧ ∃ ini last, pre = ini ++ [last] ∧ (∀ p ∈ ini, p.1 = p.2) ∧ last.1 ≠ last.2 ∧ W.cell? ⟨w.heap.size, 0, none⟩ = some (.bool (decide (last.1.toNat < last.2.toNat)))) ∧ Below w.heap.size w W)
    (OwnFrom.and (Own.from (fun s A B row hs hg hr => ⟨hs.1, cell_kept hs.2.1 hg hr, (frozen_kept hs.2.1 hg hr).trans hs.2.2⟩) _) (ownFrom_below (Nat.le_refl _) (by simp; omega)))
    (fun c => OwnFrom.and (Own.from (fun s A B row hs hg hr => by obtain ⟨hc, ini, last, e1, e2, e3, e4⟩ := hs; exact ⟨hc, ini, last, e1, e2, e3, cell_kept e4 hg hr⟩) _) (ownFrom_below (Nat.le_refl _) (by simp; omega)))
    ⟨⟨by simp, ((bR.alloc _).alloc _).cell, ((bR.alloc _).alloc _).frozen⟩, hB0⟩
    (fun x => { tmps := #[.string a, .string b, undef, undef, .pointer (some ⟨w.heap.size, 0, none⟩), .int .u8 (x.1.toNat : Int), .int .u8 (x.2.toNat : Int), .string a, .string b, .func (.func 103) #[] #[.pointer (some ⟨w.heap.size + 1, 0, none⟩), .pointer (some ⟨w.heap.size + 1 + 1, 0, none⟩)], .int .u8 (x.1.toNat : Int), .int .u8 (x.2.toNat : Int), undef, undef, undef, undef, undef, undef, undef, undef, undef, undef, undef], defers := [] }) ?assign ?body ?done ?stop
  case assign =>
    intro l x W K hK
    gi_wp2
    exact hK
  case body =>
    rintro l pre x W ⟨⟨hp, hcr, hfr⟩, hB⟩ _
    have HP := Lib.hid hp; clear hp
    by_cases hx : x.1 = x.2
    · have hne : ((x.1.toNat : Int) != (x.2.toNat : Int)) = false := by rw [hx]; simp
      have HX := Lib.hid hx; clear hx
      gi_wp2
      exact ⟨KeepsFrom.refl _ _, Below.refl _ _, ⟨fun p hp' => (List.mem_append.1 hp').elim (HP.out p) (fun e => by simp at e; subst e; exact HX.out), hcr, hfr⟩, hB⟩
    · have hne : ((x.1.toNat : Int) != (x.2.toNat : Int)) = true := by
        rw [bne_iff_ne]; intro h; exact hx (UInt8.toNat_inj.1 (by omega))
      have HX := Lib.hid hx; clear hx
      gi_wp2
      exact ⟨(KeepsOthers.setCell _ _ _).from _, ⟨rfl, pre, x, rfl, HP.out, HX.out, by rw [World.cell?_setCell_same' _ _ _ (by rw [hcr]; rfl)]⟩, hB.setCell (p := ⟨w.heap.size, 0, none⟩) (Nat.le_refl _) _⟩
  case done =>
    rintro D ys W hD rfl ⟨⟨hne, hcr, hfr⟩, hB⟩ hK
    have HE := Lib.hid (Ky.lessB_end a b hne); clear hne
    gi_wp2
    have hK' := (KeepsOthers.setCell W ⟨w.heap.size, 0, none⟩ (.bool (decide (a.size < b.size)))).same D _ hK rfl
    refine ⟨by simp, .inl ⟨_, _, rfl, run_takeDeferred hK', ?_⟩⟩
    have hc5 := cell_kept (World.cell?_setCell_same' W ⟨w.heap.size, 0, none⟩ (.bool (decide (a.size < b.size))) (by rw [hcr]; rfl)) (grownBy_putObj' _ D (.deferred none)) (fun r e => by cases e; exact ⟨_, hK', rfl⟩)
    refine ⟨.bool (Ky.lessB a b), ?_, rfl, (hB.setCell (p := ⟨w.heap.size, 0, none⟩) (Nat.le_refl _) _).trans (belowK_b (w := w) (Nat.le_refl _) _ D _ _ (by simp at hD; omega) hK' rfl rfl)⟩
    rw [HE.out]
    simp [results, Tryz.f60, go_sem, hc5]
  case stop =>
    rintro D c pre W hD ⟨k, hk, rfl⟩ ⟨⟨rfl, ini, last, e1, e2, e3, hcr⟩, hB⟩ hK
    obtain ⟨k', rfl⟩ : ∃ k', k = k' + 1 := by
      cases k with
      | zero => simp [Ky.pairs] at e1
      | succ k' => exact ⟨k', rfl⟩
    rw [Ky.pairs_succ] at e1
    obtain ⟨rfl, e5⟩ := List.append_inj' e1 rfl
    obtain rfl : (Ky.at8 a k', Ky.at8 b k') = last := by simpa using e5
    have HE := Lib.hid (Ky.lessB_at a b k' e2 (by omega) (by omega) e3); clear e1 e2 e3 e5
    gi_wp2
    refine ⟨by simp, .inl ⟨_, _, rfl, run_takeDeferred hK, ?_⟩⟩
    have hc5 := cell_kept hcr (grownBy_putObj' _ D (.deferred none)) (fun r e => by cases e; exact ⟨_, hK, rfl⟩)
    refine ⟨.bool (Ky.lessB a b), ?_, rfl, hB.trans (belowK_b (w := w) (Nat.le_refl _) W D _ _ (by simp at hD; omega) hK rfl rfl)⟩
    rw [HE.out]
    simp [results, Tryz.f60, go_sem, hc5]

theorem key_less (a b : ByteArray) (w : World) (hsa : a.size ≤ 9223372036854775807) (hsb : b.size ≤ 9223372036854775807) :
    Calls Tryz.prog 60 #[.string a, .string b] w fun e W' => e = .returned (.bool (Ky.lessB a b)) ∧ Below w.heap.size w W' :=
  callsIn_wide.1 (key_less_in a b w hsa hsb)
end Go.Proofs.YtamhpnenpoamhaaGreat

/- key.Sorted. -/
namespace Go.Proofs.YtamhpnenpoamhaaGreat
open Go.RowKit Go.Proofs.YtamhpnenpoamhaaGreatW.PrintWords Go.Proofs.YtamhpnenpoamhaaGreatW.PrintLast

def bs (l : List ByteArray) (j : Nat) : ByteArray := l.getD j ByteArray.empty
/-- Does each rise to the next? -/
def sortedK (l : List ByteArray) : Bool := (List.range (l.length - 1)).all fun j => Ky.lessB (bs l j) (bs l (j + 1))

set_option maxHeartbeats 4000000 in
set_option maxRecDepth 100000 in
theorem key_sorted (A : Option Addr) (c : Nat) (l : List ByteArray) (w : World) (hc : Kd.string.C w A l.length l) (hs : ∀ s ∈ l, s.size ≤ 9223372036854775807) :
    Calls Tryz.prog 36 #[.slice A l.length c] w fun x w' => x = .returned (.bool (sortedK l)) ∧ Below w.heap.size w w' := by
  have HC := Lib.hid hc; have HS := Lib.hid hs
  have hmax := Kd.C_max hc
  clear hc hs
  go_enter Tryz.func36, Tryz.ntmps36
  go_wp2
  go_loopw [3] (fun iv wr => ∃ (i : Nat), iv = .int .i64 i ∧ 1 ≤ i ∧ (i ≤ l.length ∨ i = 1) ∧ Aside (Below w.heap.size w wr ∧ ∀ j, j + 1 < i → Ky.lessB (bs l j) (bs l (j + 1)) = true)) (fun iv _ => l.length - (intOf iv).toNat)
  case atStart => exact ⟨1, rfl, Nat.le_refl _, .inr rfl, Below.refl _ _, fun j h => by omega⟩
  case round =>
    obtain ⟨i, rfl, hi1, hi, HI⟩ := hrel
    by_cases hlt : i < l.length
    · have hltz : (i : Int) < (l.length : Int) := by omega
      have hC := Kd.C_below HC.out HI.out.1
      obtain ⟨ad, hA, p0⟩ := Kd.at_string hC (i : Int) (by omega) (by omega)
      subst hA
      obtain ⟨ad', e', p1⟩ := Kd.at_string hC ((i : Int) - 1) (by omega) (by omega)
      obtain rfl : ad = ad' := Option.some.inj e'
      rw [Int.toNat_natCast] at p0
      have ei : ((i : Int) - 1).toNat = i - 1 := by omega
      rw [ei] at p1
      have pa : (0 : Int) ≤ (i : Int) - 1 := by omega
      have pb : (i : Int) - 1 < (l.length : Int) := by omega
      have b0 : rdOf ByteArray.empty l (i : Int) = bs l i := by simp [rdOf, bs]
      have b1 : rdOf ByteArray.empty l ((i : Int) - 1) = bs l (i - 1) := by simp [rdOf, bs, ei]
      rw [b0] at p0; rw [b1] at p1
      have hmem : ∀ j, j < l.length → (bs l j).size ≤ 9223372036854775807 := fun j hj => HS.out _ (by unfold bs; rw [List.getD_eq_getElem?_getD, List.getElem?_eq_getElem hj]; exact List.getElem_mem hj)
      have KL := Lib.hid (fun w => key_less (bs l (i - 1)) (bs l i) w (hmem _ (by omega)) (hmem _ hlt))
      obtain ⟨q, hq⟩ : ∃ q, q = Ky.lessB (bs l (i - 1)) (bs l i) := ⟨_, rfl⟩
      rw [← hq] at KL
      have HQ := Lib.hid hq
      clear hq hmem b0 b1 e' hC
      have hw : IntKind.i64.wrap ((i : Int) - 1) = (i : Int) - 1 := by rw [IntKind.wrap_i64]; omega
      have pa2 : (1 : Int) ≤ (i : Int) := by omega
      have pb2 : (i : Int) < (l.length : Int) + 1 := by omega
      have notq : ∀ (x : Bool) (w : World), (Op.unary .not (.bool x)).run Tryz.prog w = .ok (.bool (!x)) w := fun _ _ => rfl
      go_wp2_with fail
      refine startK 11 (fun w' => w'.cell? (ad.add (i - 1)) = some (.string (bs l (i - 1))) ∧ w'.cell? (ad.add i) = some (.string (bs l i))) [] (by kernel_rfl) rfl (by kernel_rfl) ⟨p1, p0⟩ (fun hHeld => ?_)
      repeat (refine takeK (v := ?_) (a' := ?_) rfl rfl rfl (by kernel_rfl) (fun _ _ _ h => h) (Or.inl ⟨by rfl, ?_⟩) hHeld ?_ ?_; rotate_left; (rintro w' ⟨s0, s1⟩; go_simp; with_reducible rfl); rotate_left; (simp only [Act.put, List.setIfInBounds_toArray, List.set_cons_zero, List.set_cons_succ]; rfl))
      refine oneK rfl rfl rfl (by kernel_rfl) rfl (fun K hK => ?_)
      go_simp
      refine (KL.out _).mono ?_
      rintro x w2 ⟨rfl, hb⟩
      refine hK.out _ _ ⟨(hb.cell (p := ad.add (i - 1)) (World.block_lt_of_cell? wr _ p1)).trans p1, (hb.cell (p := ad.add i) (World.block_lt_of_cell? wr _ p0)).trans p0⟩ (fun hHeld2 => ?_)
      repeat (refine takeK (v := ?_) (a' := ?_) rfl rfl rfl (by kernel_rfl) (fun _ _ _ h => h) (Or.inl ⟨by rfl, ?_⟩) hHeld2 ?_ ?_; rotate_left; (rintro w' ⟨s0, s1⟩; go_simp; with_reducible rfl); rotate_left; (simp only [Act.put, List.setIfInBounds_toArray, List.set_cons_zero, List.set_cons_succ]; rfl))
      refine done_ (by kernel_rfl) ?_
      have HB := Lib.hid (HI.out.1.trans ((Below.refl _ _).drew.trans (hb.mono HI.out.1.size)))
      have HJ := (show Aside _ from HI.out.2)
      clear hHeld hHeld2 hb hK KL p0 p1 HI
      cases q with
      | true =>
        go_wp2
        go_roundw
        case rel =>
          refine ⟨i + 1, by go_num, by omega, .inl hlt, HB.out, fun j hj => ?_⟩
          by_cases hji : j + 1 < i
          · exact HJ.out j hji
          · obtain rfl : j = i - 1 := by omega
            have := HQ.out
            rw [show i - 1 + 1 = i by omega]
            exact this.symm
        case measure => simp [intOf]; omega
      | false =>
        go_wp2
        go_ret
        refine ⟨?_, HB.out⟩
        have : sortedK l = false := by
          rw [sortedK, List.all_eq_false]
          refine ⟨i - 1, List.mem_range.2 (by omega), ?_⟩
          rw [show i - 1 + 1 = i by omega, ← HQ.out]
          simp
        rw [this]
        rfl
    · have hltz : ¬ (i : Int) < (l.length : Int) := by omega
      have HT := Lib.hid (show sortedK l = true by
        rw [sortedK, List.all_eq_true]
        intro j hj
        rw [List.mem_range] at hj
        exact HI.out.2 j (by omega))
      have HB := Lib.hid HI.out.1
      clear HI
      go_wp2
      go_ret
      exact ⟨by rw [HT.out]; rfl, HB.out⟩
end Go.Proofs.YtamhpnenpoamhaaGreat

/- config.Right of any policy. -/
namespace Go.Proofs.YtamhpnenpoamhaaGreat
open Go.RowKit Go.Proofs.YtamhpnenpoamhaaGreatW.PrintWords Go.Proofs.YtamhpnenpoamhaaGreatW.PrintLast

namespace Cr
/-- The first rule that is not right: what is wrong. -/
def rules : List Ru → Int
  | [] => 0
  | r :: l => if Rl.right r.p r.e r.u r.k ≠ 0 then Rl.right r.p r.e r.u r.k else rules l
def order (l' : List Ru) : Int := if l' = [] ∨ (l'.getD 0 Ru.zero).p ≠ ⟨#[]⟩ then 31 else if sortedK (pres l') = false then 28 else 0
def right (m : Int) (l l' : List Ru) : Int := if m < 1 ∨ 1000000 < m then 29 else if 1000 < l.length then 32 else if rules l ≠ 0 then rules l else order l'
/-- What the types say of a rule. -/
def Typed (r : Ru) : Prop := r.p.size ≤ 9223372036854775807 ∧ (0 ≤ r.e ∧ r.e ≤ 18446744073709551615) ∧ (0 ≤ r.u ∧ r.u ≤ 18446744073709551615)
theorem rules_at {l : List Ru} {i : Nat} (hi : i < l.length) : rules (l.drop i) = if Rl.right (l.getD i Ru.zero).p (l.getD i Ru.zero).e (l.getD i Ru.zero).u (l.getD i Ru.zero).k ≠ 0 then Rl.right (l.getD i Ru.zero).p (l.getD i Ru.zero).e (l.getD i Ru.zero).u (l.getD i Ru.zero).k else rules (l.drop (i + 1)) := by
  have e : l.getD i Ru.zero = l[i] := by rw [List.getD_eq_getElem?_getD, List.getElem?_eq_getElem hi]; rfl
  rw [List.drop_eq_getElem_cons hi, e]
  rfl
end Cr

theorem exists_sorted (l : List Ru) : ∃ l', SortedR l' l := by
  obtain ⟨Y, _, h2, h3⟩ := St.insertion_list swo_ltR [] l []
  exact ⟨Y, h2, h3⟩

set_option maxHeartbeats 4000000 in
set_option maxRecDepth 100000 in
theorem config_right (m : Int) (A : Option Addr) (c : Nat) (l : List Ru) (w : World) (hc : kRu.C w A l.length l) (ht : ∀ r ∈ l, Cr.Typed r) :
    Calls Tryz.prog 17 #[.agg #[.int .i64 m, .slice A l.length c]] w fun x w' => ∃ l', SortedR l' l ∧ x = .returned (.int .u16 (Cr.right m l l')) ∧ Below w.heap.size w w' := by
  have hmax := Kd.C_max hc
  obtain ⟨lx, hlx⟩ := exists_sorted l
  by_cases hm1 : m < 1
  · have HE := Lib.hid (show Cr.right m l lx = 29 from if_pos (.inl hm1))
    clear hc ht
    go_enter Tryz.func17, Tryz.ntmps17
    go_wp2
    all_goals (go_ret; exact ⟨lx, hlx, by rw [HE.out]; rfl, (Below.refl _ _).alloc (Nat.le_refl _) _⟩)
  · by_cases hm2 : 1000000 < m
    · have HE := Lib.hid (show Cr.right m l lx = 29 from if_pos (.inr hm2))
      clear hc ht
      go_enter Tryz.func17, Tryz.ntmps17
      go_wp2
      all_goals (go_ret; exact ⟨lx, hlx, by rw [HE.out]; rfl, (Below.refl _ _).alloc (Nat.le_refl _) _⟩)
    · have hm3 : decide (1000000 < m) = false := decide_eq_false hm2
      by_cases hl : 1000 < l.length
      · have hlz : (1000 : Int) < (l.length : Int) := by omega
        have HE := Lib.hid (show Cr.right m l lx = 32 by unfold Cr.right; rw [if_neg (by omega), if_pos hl])
        clear hc ht hl
        go_enter Tryz.func17, Tryz.ntmps17
        go_wp2
        all_goals (go_ret; exact ⟨lx, hlx, by rw [HE.out]; rfl, (Below.refl _ _).alloc (Nat.le_refl _) _⟩)
      · have HC := Lib.hid hc; have HT := Lib.hid ht
        have HRL := Lib.hid (show ∀ l', Cr.right m l l' = if Cr.rules l ≠ 0 then Cr.rules l else Cr.order l' from fun l' => by unfold Cr.right; rw [if_neg (by omega), if_neg hl])
        have hl2 : (l.length : Int) ≤ 1000 := by omega
        have B1 := Lib.hid (Blk.new w #[.int .i64 m, .slice A l.length c] 28)
        have HLX := Lib.hid hlx
        clear hc ht hlx
        go_enter Tryz.func17, Tryz.ntmps17
        go_wp2
        go_loopw [22] (fun iv wr => ∃ (i : Nat), iv = .int .i64 i ∧ i ≤ l.length ∧ Aside (Below w.heap.size w wr ∧ Blk wr w.heap.size #[.int .i64 m, .slice A l.length c] 28 ∧ Cr.rules l = Cr.rules (l.drop i))) (fun iv _ => l.length - (intOf iv).toNat)
        case atStart => exact ⟨0, rfl, Nat.zero_le _, (Below.refl _ _).alloc (Nat.le_refl _) _, B1.out, rfl⟩
        case round =>
          obtain ⟨i, rfl, hi, HI⟩ := hrel
          by_cases hlt : i < l.length
          · have hltz : (i : Int) < (l.length : Int) := by omega
            obtain ⟨ad, hA, p0, p1, p2, p3⟩ := rule_cells (Kd.C_below HC.out HI.out.1) i hlt
            subst hA
            have hra := Cr.rules_at hlt
            have hty : Cr.Typed (l.getD i Ru.zero) := HT.out _ (by rw [List.getD_eq_getElem?_getD, List.getElem?_eq_getElem hlt]; exact List.getElem_mem hlt)
            generalize hr : l.getD i Ru.zero = r at p0 p1 p2 p3 hra hty
            clear hr
            have RR := Lib.hid (fun w => rule_right r.p r.e r.u r.k w hty.1 hty.2.1 hty.2.2)
            unfold ruleV at RR
            obtain ⟨q, hq⟩ : ∃ q, q = Rl.right r.p r.e r.u r.k := ⟨_, rfl⟩
            rw [← hq] at RR hra
            have HRA := Lib.hid hra
            clear hra hty hq
            by_cases hq0 : q = 0
            · have hqb : (q != 0) = false := by rw [hq0]; rfl
              have HQ := Lib.hid hq0
              clear hq0
              go_wp2_with fail
              refine (RR.out _).mono ?_
              rintro x w2 ⟨rfl, hb⟩
              have hsz := HI.out.1.size
              have HB := Lib.hid ((HI.out.1.alloc hsz _).trans (hb.mono (by rw [World.size_alloc]; omega)))
              have HBK := Lib.hid ((HI.out.2.1.alloc _).below hb (HI.out.2.1.alloc _).lt)
              clear hb
              go_wp2
              go_roundw
              case rel => exact ⟨i + 1, by go_num, by omega, HB.out, HBK.out, by rw [HI.out.2.2, HRA.out, if_neg (by rw [HQ.out]; simp)]⟩
              case measure => simp [intOf]; omega
            · have hqb : (q != 0) = true := by rw [bne_iff_ne]; exact hq0
              have HE := Lib.hid (show ∀ l', Cr.right m l l' = q from fun l' => by rw [HRL.out, HI.out.2.2, HRA.out, if_pos hq0, if_pos hq0])
              clear hq0
              go_wp2_with fail
              refine (RR.out _).mono ?_
              rintro x w2 ⟨rfl, hb⟩
              have HB := Lib.hid ((HI.out.1.alloc HI.out.1.size _).trans (hb.mono (by rw [World.size_alloc]; have := HI.out.1.size; omega)))
              clear hb
              go_wp2
              go_ret
              exact ⟨lx, HLX.out, by rw [HE.out]; rfl, HB.out⟩
          · have hltz : ¬ (i : Int) < (l.length : Int) := by omega
            have HR0 := Lib.hid (show ∀ l', Cr.right m l l' = Cr.order l' from fun l' => by rw [HRL.out, HI.out.2.2, List.drop_eq_nil_of_le (by omega)]; rfl)
            have y0 := HI.out.2.1.cell_at 0 _ rfl
            have y1 := HI.out.2.1.cell_at 1 _ rfl
            have hfd : ∀ (a : Int) (B : Option Addr) (n' c' : Nat) (w : World), (Instr.field 28 (.agg #[.int .i64 a, .slice B n' c']) 1).run Tryz.prog w = .ok (.slice B n' c') w := fun a B n' c' w => by kernel_rfl
            have CO := Lib.hid (config_order m A c l wr (Kd.C_below HC.out HI.out.1) (by omega))
            go_wp2_with fail
            refine CO.out.mono ?_
            rintro x w2 ⟨v, l', rfl, hs, hR, hb⟩
            have hll : l'.length = l.length := hs.2.length
            obtain ⟨A2, c2, hv, hlc, hC2⟩ := Kd.R_reads hR
            subst hv
            have HB := Lib.hid (HI.out.1.trans (hb.mono HI.out.1.size))
            have HS := Lib.hid hs
            clear hb hs hR CO y0 y1
            have hl3 : l'.length ≤ 1000000 := by omega
            have HLL := Lib.hid hll
            clear hll
            cases l' with
            | nil =>
              have HE := Lib.hid ((HR0.out []).trans (show Cr.order [] = 31 from if_pos (.inl rfl)))
              simp only [List.length_nil]
              go_wp2
              go_ret
              exact ⟨[], HS.out, by rw [HE.out]; rfl, HB.out⟩
            | cons r t =>
              obtain ⟨ad, hA, p0, _⟩ := rule_cells hC2 0 (by simp)
              subst hA
              simp only [Nat.zero_mul, addr_zero] at p0
              change w2.cell? ad = some (.string r.p) at p0
              have hlz1 : (((r :: t).length : Nat) : Int) = (t.length : Int) + 1 := by simp
              have hlz2 : (((t.length : Int) + 1) == 0) = false := by rw [beq_eq_false_iff_ne]; omega
              have CP := Lib.hid (config_prefixes (some ad) c2 (r :: t) w2 hC2 hl3)
              by_cases hrp : r.p = ⟨#[]⟩
              · have hre : r.p.toList.isEmpty = true := by rw [hrp, Lib.toList_data]; rfl
                have HRP := Lib.hid hrp
                clear hrp
                go_wp2_with fail
                refine CP.out.mono ?_
                rintro x w3 ⟨v3, rfl, hR3, hb3⟩
                obtain ⟨A3, c3, hv3, hlc3, hC3⟩ := Kd.R_reads hR3
                subst hv3
                have HB3 := Lib.hid (HB.out.trans (hb3.mono HB.out.size))
                have KS := Lib.hid (key_sorted A3 c3 (pres (r :: t)) w3 hC3 (fun s hs => by
                  obtain ⟨y, hy, rfl⟩ := List.mem_map.1 hs
                  exact (HT.out y (HS.out.2.mem.1 hy)).1))
                have hpl : (pres (r :: t)).length = t.length + 1 := by simp [pres]
                rw [hpl] at KS ⊢
                clear hb3 hR3 hC3 CP
                cases hso : sortedK (pres (r :: t)) with
                | true =>
                  rw [hso] at KS
                  have HE := Lib.hid ((HR0.out (r :: t)).trans (show Cr.order (r :: t) = 0 by unfold Cr.order; rw [if_neg (by simp [HRP.out]), if_neg (by simp [hso])]))
                  clear hso
                  go_wp2_with fail
                  refine KS.out.mono ?_
                  rintro x w4 ⟨rfl, hb4⟩
                  have HB4 := Lib.hid (HB3.out.trans (hb4.mono HB3.out.size))
                  clear hb4
                  go_wp2
                  go_ret
                  exact ⟨r :: t, HS.out, by rw [HE.out]; rfl, HB4.out⟩
                | false =>
                  rw [hso] at KS
                  have HE := Lib.hid ((HR0.out (r :: t)).trans (show Cr.order (r :: t) = 28 by unfold Cr.order; rw [if_neg (by simp [HRP.out]), if_pos hso]))
                  clear hso
                  go_wp2_with fail
                  refine KS.out.mono ?_
                  rintro x w4 ⟨rfl, hb4⟩
                  have HB4 := Lib.hid (HB3.out.trans (hb4.mono HB3.out.size))
                  clear hb4
                  go_wp2
                  go_ret
                  exact ⟨r :: t, HS.out, by rw [HE.out]; rfl, HB4.out⟩
              · have hre : r.p.toList.isEmpty = false := by
                  rw [Bool.eq_false_iff]; intro h; rw [List.isEmpty_iff, Lib.toList_data] at h
                  exact hrp (by cases hq : r.p with | mk d => rw [hq] at h; simp at h; rw [h])
                have HE := Lib.hid ((HR0.out (r :: t)).trans (show Cr.order (r :: t) = 31 from if_pos (.inr hrp)))
                clear hrp
                go_wp2
                go_ret
                exact ⟨r :: t, HS.out, by rw [HE.out]; rfl, HB.out⟩
end Go.Proofs.YtamhpnenpoamhaaGreat

/- The reference's order of rules: what one insertion does; its comparison is the program's. -/
namespace Go.Proofs.YtamhpnenpoamhaaGreat
open Go.RowKit Go.Sort

theorem less_bytes : ∀ a b : List UInt8, Ky.less a b = Op.bytesLess a b
  | [], [] => rfl
  | [], _ :: _ => rfl
  | _ :: _, [] => rfl
  | x :: xs, y :: ys => by
    rw [Ky.less, Op.bytesLess, less_bytes xs ys]
    by_cases h : x = y
    · subst h
      have : ¬ x < x := UInt8.lt_irrefl x
      simp
    · simp [h]
theorem lessB_lt (a b : ByteArray) : Ky.lessB a b = ltS a b := by
  unfold Ky.lessB ltS
  rw [less_bytes, Lib.toList_data, Lib.toList_data]
namespace St
variable {α : Type} {lt : α → α → Bool}
/-- A further one, laid behind all that are not greater. -/
theorem insert_one (O : SWO lt) {pre post xs : List α} {x : α} (h1 : Srt lt (pre ++ post)) (h2 : SP lt (pre ++ post) xs) (hq : ∀ y ∈ post, lt x y = true) (hp : ∀ y ∈ pre, lt x y = false) :
    Srt lt (pre ++ x :: post) ∧ SP lt (pre ++ x :: post) (xs ++ [x]) := by
  constructor
  · refine Srt.append h1.left ?_ ?_
    · refine List.pairwise_cons.2 ⟨fun y hy => ?_, h1.right⟩
      have hxy := hq y hy
      cases hyx : lt y x with
      | false => rfl
      | true => have := O.trans x y x hxy hyx; rw [O.irrefl] at this; exact absurd this (by decide)
    · intro a ha b hb
      rcases List.mem_cons.1 hb with rfl | hb
      · exact hp a ha
      · exact h1.cross a ha b hb
  · have h3 : SP lt (post ++ [x]) ([x] ++ post) := SP.rotate O fun a ha b hb => by rw [List.mem_singleton.1 hb]; exact hq a ha
    have h4 : SP lt (pre ++ ([x] ++ post)) (pre ++ (post ++ [x])) := SP.append (SP.refl _) h3.symm
    have h5 : SP lt ((pre ++ post) ++ [x]) (xs ++ [x]) := SP.append h2 (SP.refl _)
    rw [List.append_assoc] at h5
    exact h4.trans h5
/-- In a sorted list all before one that is not greater are not greater. -/
theorem before (O : SWO lt) {l : List α} (h : Srt lt l) {x : α} (k : Nat) (hk : k ≤ l.length) (hx : k = 0 ∨ ∃ y, l[k - 1]? = some y ∧ lt x y = false) : ∀ y ∈ l.take k, lt x y = false := by
  intro y hy
  obtain ⟨j, hj, rfl⟩ := List.mem_iff_getElem.1 hy
  rw [List.length_take] at hj
  rcases hx with rfl | ⟨z, hz, hxz⟩
  · omega
  · rw [List.getElem_take]
    obtain ⟨hl, rfl⟩ := List.getElem?_eq_some_iff.1 hz
    by_cases he : j = k - 1
    · subst he; exact hxz
    · have hjz : lt l[k - 1] l[j] = false := List.pairwise_iff_getElem.1 h j (k - 1) (by omega) hl (by omega)
      exact O.ntrans x l[k - 1] l[j] hxz hjz
end St
end Go.Proofs.YtamhpnenpoamhaaGreat

/- The references' blank, Right and Less of keys answer as the plain laws say. -/
namespace Go.Proofs.YtamhpnenpoamhaaGreat
open Go.RowKit

theorem below_dN {B : Nat} {w W : World} (h : Below B w W) (n : Nat) : Below B w (W.drewN n) := ⟨h.os, h.tape, h.output, h.size, h.block⟩
theorem drewn_more {w W : World} (h : ∃ q, W = w.drewN q) (n : Nat) : ∃ q, W.drewN n = w.drewN q := by
  obtain ⟨q, rfl⟩ := h
  exact ⟨q + n, by rw [World.drewN_drewN]⟩
structure Aside1 (p : Prop) : Prop where mk :: (out : p)
theorem retB {a b : Bool} (h : a = b) : Ending.returned (.bool b) = .returned (.bool a) := by rw [h]
def isBlank (c : Int) : Bool := c == 32 || c == 9

theorem ref_blank (c : Int) (w : World) : Calls Tryz.prog 62 #[.int .u8 c] w fun e w' => e = .returned (.bool (isBlank c)) ∧ w = w' := by
  by_cases h : c = 32
  · subst h
    go_enter Tryz.func62, Tryz.ntmps62
    go_wp2
    go_ret
    exact ⟨rfl, rfl⟩
  · have h' : (c == 32) = false := beq_eq_false_iff_ne.2 h
    have HE := Lib.hid (show isBlank c = (c == 9) by unfold isBlank; rw [h', Bool.false_or])
    clear h
    go_enter Tryz.func62, Tryz.ntmps62
    go_wp2
    go_ret
    exact ⟨by rw [HE.out]; rfl, rfl⟩

theorem ref_key_right (s : ByteArray) (w : World) (hs : s.size ≤ 9223372036854775807) :
    Calls Tryz.prog 66 #[.string s] w fun e w' => e = .returned (.bool (Ky.right s.data.toList)) ∧ w = w' := by
  have hl : s.data.toList.length = s.size := by simp
  by_cases h0 : s.size < 1
  · have HE := Lib.hid (Ky.right_big (l := s.data.toList) (by rw [hl]; omega)); clear hl
    go_enter Tryz.func66, Tryz.ntmps66
    go_wp2
    go_ret
    exact ⟨retB HE.out, rfl⟩
  · by_cases h1 : 128 < s.size
    · have HE := Lib.hid (Ky.right_big (l := s.data.toList) (by rw [hl]; omega)); clear hl
      go_enter Tryz.func66, Tryz.ntmps66
      go_wp2
      go_ret
      exact ⟨retB HE.out, rfl⟩
    · have HE := Lib.hid (Ky.right_fit (l := s.data.toList) (by rw [hl]; omega) (by rw [hl]; omega))
      have HL := Lib.hid hl; clear hl
      go_enter Tryz.func66, Tryz.ntmps66
      go_wp2
      go_loop [3] (fun iv => ∃ (i : Nat), iv = .int .i64 i ∧ i ≤ s.size ∧ Aside1 ((s.data.toList.take i).all Ky.ok = true)) (fun iv => s.size - (intOf iv).toNat)
      case atStart => exact ⟨0, rfl, Nat.zero_le _, ⟨rfl⟩⟩
      case round =>
        obtain ⟨i, rfl, hi, HI⟩ := hrel
        by_cases hlt : i < s.size
        · have hc := s[i].toNat_lt
          by_cases hb : 33 ≤ s[i].toNat ∧ s[i].toNat ≤ 126
          · have HN := Lib.hid (Ky.all_snoc s.data.toList i (by rw [HL.out]; exact hlt) HI.out ⟨by show (33 : Int) ≤ (s[i].toNat : Int); omega, by show (s[i].toNat : Int) ≤ 126; omega⟩)
            obtain ⟨hb1, hb2⟩ := hb
            go_wp2
            go_round
            case rel => exact ⟨i + 1, by go_num, by omega, ⟨HN⟩⟩
            case measure => simp [intOf]; omega
          · have HF := Lib.hid (show Ky.right s.data.toList = false by
              rw [HE.out, List.all_eq_false]
              refine ⟨s.data.toList[i]'(by rw [HL.out]; exact hlt), List.getElem_mem _, ?_⟩
              rw [Ky.ok_nat]
              show ¬ decide (33 ≤ s[i].toNat ∧ s[i].toNat ≤ 126) = true
              simpa using hb)
            by_cases hb1 : s[i].toNat < 33
            · clear hb
              go_wp2
              go_ret
              exact ⟨retB HF.out, rfl⟩
            · have hb2 : 126 < s[i].toNat := by omega
              clear hb
              go_wp2
              go_ret
              exact ⟨retB HF.out, rfl⟩
        · have HT := Lib.hid (show Ky.right s.data.toList = true by
            rw [HE.out]; have := HI.out; rwa [List.take_of_length_le (by rw [HL.out]; omega)] at this)
          go_wp2
          go_ret
          exact ⟨retB HT.out, rfl⟩

/-- How far a and b are the same. -/
structure CommonP (a b : ByteArray) (n : Nat) : Prop where
  la : n ≤ a.size
  lb : n ≤ b.size
  same : ∀ j, j < n → Ky.at8 a j = Ky.at8 b j
  stop : n = a.size ∨ n = b.size ∨ Ky.at8 a n ≠ Ky.at8 b n
def Common (a b : ByteArray) (w : World) (e : Ending) (w' : World) : Prop := ∃ n : Nat, e = .returned (.int .i64 n) ∧ CommonP a b n ∧ ∃ q, w' = w.drewN q

theorem ref_common (a b : ByteArray) (w : World) (ha : a.size ≤ 9223372036854775807) (hb : b.size ≤ 9223372036854775807) :
    Calls Tryz.prog 69 #[.string a, .string b] w (Common a b w) := by
  go_enter Tryz.func69, Tryz.ntmps69
  go_wp2
  go_loopw [5] (fun iv wr => ∃ (i : Nat), iv = .int .i64 i ∧ i ≤ a.size ∧ i ≤ b.size ∧ Aside1 (∀ j, j < i → Ky.at8 a j = Ky.at8 b j) ∧ Aside1 (∃ q, wr = w.drewN q)) (fun iv _ => a.size - (intOf iv).toNat)
  case atStart => exact ⟨0, rfl, Nat.zero_le _, Nat.zero_le _, ⟨fun j h => by omega⟩, ⟨0, rfl⟩⟩
  case round =>
    obtain ⟨i, rfl, hia, hib, HI, HB⟩ := hrel
    by_cases hla : i < a.size
    · by_cases hlb : i < b.size
      · have ea := Lib.hid (Ky.at8_eq a i hla)
        have eb := Lib.hid (Ky.at8_eq b i hlb)
        by_cases hx : a[i] = b[i]
        · have hxx : ((a[i].toNat : Int) == (b[i].toNat : Int)) = true := by rw [hx]; simp
          have HX := Lib.hid hx; clear hx
          go_wp2
          go_quiet (fail)
          go_wp2
          go_roundw
          case rel =>
            refine ⟨i + 1, by go_num, by omega, by omega, ⟨fun j hj => ?_⟩, ⟨drewn_more HB.out _⟩⟩
            by_cases hji : j < i
            · exact HI.out j hji
            · obtain rfl : j = i := by omega
              rw [← ea.out, ← eb.out]; exact HX.out
          case measure => simp [intOf]; omega
        · have hxx : ((a[i].toNat : Int) == (b[i].toNat : Int)) = false := by
            rw [beq_eq_false_iff_ne]; intro h; exact hx (UInt8.toNat_inj.1 (by omega))
          have HX := Lib.hid hx; clear hx
          go_wp2
          go_quiet (fail)
          go_wp2
          go_ret
          exact ⟨i, rfl, ⟨hia, hib, HI.out, .inr (.inr (by rw [← ea.out, ← eb.out]; exact HX.out))⟩, drewn_more HB.out _⟩
      · go_wp2
        go_quiet (fail)
        go_wp2
        go_ret
        exact ⟨i, rfl, ⟨hia, hib, HI.out, .inr (.inl (by omega))⟩, drewn_more HB.out _⟩
    · go_wp2
      go_quiet (fail)
      go_wp2
      go_ret
      exact ⟨i, rfl, ⟨hia, hib, HI.out, .inl (by omega)⟩, drewn_more HB.out _⟩

theorem CommonP.less_end {a b : ByteArray} {n : Nat} (h : CommonP a b n) (he : n = a.size ∨ n = b.size) : Ky.lessB a b = decide (a.size < b.size) := by
  have ha := h.la; have hb := h.lb
  refine Ky.lessB_end a b fun p hp => ?_
  simp only [Ky.pairs, List.mem_map, List.mem_range] at hp
  obtain ⟨j, hj, rfl⟩ := hp
  exact h.same j (by omega)
theorem CommonP.less_at {a b : ByteArray} {n : Nat} (h : CommonP a b n) (h1 : n < a.size) (h2 : n < b.size) : Ky.lessB a b = decide ((Ky.at8 a n).toNat < (Ky.at8 b n).toNat) := by
  refine Ky.lessB_at a b n (fun p hp => ?_) h1 h2 ?_
  · simp only [Ky.pairs, List.mem_map, List.mem_range] at hp
    obtain ⟨j, hj, rfl⟩ := hp
    exact h.same j hj
  · rcases h.stop with h | h | h
    · omega
    · omega
    · exact h

theorem ref_key_less (a b : ByteArray) (w : World) (ha : a.size ≤ 9223372036854775807) (hb : b.size ≤ 9223372036854775807) :
    Calls Tryz.prog 45 #[.string a, .string b] w fun e w' => e = .returned (.bool (Ky.lessB a b)) ∧ ∃ q, w' = w.drewN q := by
  go_enter Tryz.func45, Tryz.ntmps45
  go_wp2_with fail
  refine (ref_common a b _ ha hb).mono ?_
  rintro e w1 ⟨n, rfl, hc, hB⟩
  have HB := Lib.hid hB; clear hB
  have hna := hc.la; have hnb := hc.lb
  by_cases h1 : n = a.size
  · have h1' : ((n : Int) == (a.size : Int)) = true := by rw [h1]; simp
    have HE := Lib.hid (hc.less_end (.inl h1)); clear hc h1
    go_wp2
    go_ret
    exact ⟨by rw [HE.out]; exact retB (by simp), HB.out⟩
  · by_cases h2 : n = b.size
    · have h1' : ((n : Int) == (a.size : Int)) = false := beq_eq_false_iff_ne.2 (by omega)
      have h2' : ((n : Int) == (b.size : Int)) = true := by rw [h2]; simp
      have HE := Lib.hid (hc.less_end (.inr h2)); clear hc h1 h2
      go_wp2
      go_ret
      exact ⟨by rw [HE.out]; exact retB (by simp), HB.out⟩
    · have h1' : ((n : Int) == (a.size : Int)) = false := beq_eq_false_iff_ne.2 (by omega)
      have h2' : ((n : Int) == (b.size : Int)) = false := beq_eq_false_iff_ne.2 (by omega)
      have hla : n < a.size := by omega
      have hlb : n < b.size := by omega
      have HE := Lib.hid (hc.less_at hla hlb)
      have ea := Lib.hid (Ky.at8_eq a n hla)
      have eb := Lib.hid (Ky.at8_eq b n hlb)
      clear hc h1 h2
      go_wp2
      go_quiet (fail)
      go_wp2
      go_ret
      exact ⟨by rw [HE.out, ← ea.out, ← eb.out]; exact retB (by simp), drewn_more HB.out _⟩
end Go.Proofs.YtamhpnenpoamhaaGreat

/- The references' products, digits, numbers and kernels' names answer as the plain laws say. -/
namespace Go.Proofs.YtamhpnenpoamhaaGreat
open Go.RowKit

theorem ref_kernel_right (k : Int) (w : World) : Calls Tryz.prog 68 #[.int .u8 k] w fun e w' => e = .returned (.bool (decide (1 ≤ k ∧ k ≤ 3))) ∧ w = w' := by
  by_cases h1 : 1 ≤ k
  · have h1' : decide (1 ≤ k) = true := decide_eq_true h1
    have HE := Lib.hid (show decide (1 ≤ k ∧ k ≤ 3) = decide (k ≤ 3) by simp [h1])
    go_enter Tryz.func68, Tryz.ntmps68
    go_wp2
    go_ret
    exact ⟨by rw [HE.out]; exact retB (by simp), rfl⟩
  · have h1' : decide (1 ≤ k) = false := decide_eq_false h1
    have HE := Lib.hid (show decide (1 ≤ k ∧ k ≤ 3) = false by simp [h1])
    clear h1
    rw [HE.out]
    go_enter Tryz.func68, Tryz.ntmps68
    go_wp2
    go_ret
    exact ⟨rfl, rfl⟩

theorem retS {a b : ByteArray} (h : a = b) : Ending.returned (.string b) = .returned (.string a) := by rw [h]
theorem ref_name (k : Int) (w : World) : Calls Tryz.prog 61 #[.int .u8 k] w fun e w' => e = .returned (.string (Rl.name k)) ∧ w = w' := by
  by_cases h1 : k = 1
  · subst h1
    go_enter Tryz.func61, Tryz.ntmps61
    go_wp2
    go_ret
    exact ⟨rfl, rfl⟩
  · by_cases h2 : k = 2
    · subst h2
      go_enter Tryz.func61, Tryz.ntmps61
      go_wp2
      go_ret
      exact ⟨rfl, rfl⟩
    · by_cases h3 : k = 3
      · subst h3
        go_enter Tryz.func61, Tryz.ntmps61
        go_wp2
        go_ret
        exact ⟨rfl, rfl⟩
      · have b1 : (k == 1) = false := beq_eq_false_iff_ne.2 h1
        have b2 : (k == 2) = false := beq_eq_false_iff_ne.2 h2
        have b3 : (k == 3) = false := beq_eq_false_iff_ne.2 h3
        have HE := Lib.hid (show Rl.name k = ⟨#[]⟩ by unfold Rl.name; rw [if_neg h1, if_neg h2, if_neg h3])
        clear h1 h2 h3
        go_enter Tryz.func61, Tryz.ntmps61
        go_wp2
        go_ret
        exact ⟨retS HE.out, rfl⟩

theorem toList_beq_comm (a b : ByteArray) : (a.toList == b.toList) = (b.toList == a.toList) := by
  rw [Bool.eq_iff_iff, beq_iff_eq, beq_iff_eq]; exact eq_comm
set_option maxHeartbeats 1000000 in
theorem ref_kind (s : ByteArray) (w : World) :
    Calls Tryz.prog 91 #[.string s] w fun e w' => e = .returned (.tuple #[.int .u8 (Rl.kindOf s), .bool (decide (0 < Rl.kindOf s))]) ∧ w = w' := by
  have n1 := Lib.hid (show Rl.name 1 = sGcra from rfl); have n2 := Lib.hid (show Rl.name 2 = sBucket from rfl); have n3 := Lib.hid (show Rl.name 3 = sLeaky from rfl)
  have N1 := Lib.hid (fun w => ref_name 1 w); have N2 := Lib.hid (fun w => ref_name 2 w); have N3 := Lib.hid (fun w => ref_name 3 w)
  rw [n1.out] at N1; rw [n2.out] at N2; rw [n3.out] at N3
  cases h1 : (sGcra.toList == s.toList) with
  | true =>
    have HE := Lib.hid (show Rl.kindOf s = 1 by unfold Rl.kindOf; rw [toList_beq_comm, h1]; rfl)
    rw [HE.out]
    go_enter Tryz.func91, Tryz.ntmps91
    go_wp2
    refine wp_loop_rounds 1 ?_
    rw [rounds_succ]
    go_wp2_with fail
    refine (N1.out _).mono ?_
    rintro e w1 ⟨rfl, rfl⟩
    go_wp2
    go_ret2
    exact ⟨rfl, rfl⟩
  | false =>
    cases h2 : (sBucket.toList == s.toList) with
    | true =>
      have HE := Lib.hid (show Rl.kindOf s = 2 by unfold Rl.kindOf; rw [toList_beq_comm, h1, toList_beq_comm s, h2]; rfl)
      rw [HE.out]
      go_enter Tryz.func91, Tryz.ntmps91
      go_wp2
      refine wp_loop_rounds 2 ?_
      rw [rounds_succ]
      go_wp2_with fail
      refine (N1.out _).mono ?_
      rintro e w1 ⟨rfl, rfl⟩
      go_wp2
      rw [rounds_succ]
      go_wp2_with fail
      refine (N2.out _).mono ?_
      rintro e w1 ⟨rfl, rfl⟩
      go_wp2
      go_ret2
      exact ⟨rfl, rfl⟩
    | false =>
      cases h3 : (sLeaky.toList == s.toList) with
      | true =>
        have HE := Lib.hid (show Rl.kindOf s = 3 by unfold Rl.kindOf; rw [toList_beq_comm, h1, toList_beq_comm s, h2, toList_beq_comm s, h3]; rfl)
        rw [HE.out]
        go_enter Tryz.func91, Tryz.ntmps91
        go_wp2
        refine wp_loop_rounds 3 ?_
        rw [rounds_succ]
        go_wp2_with fail
        refine (N1.out _).mono ?_
        rintro e w1 ⟨rfl, rfl⟩
        go_wp2
        rw [rounds_succ]
        go_wp2_with fail
        refine (N2.out _).mono ?_
        rintro e w1 ⟨rfl, rfl⟩
        go_wp2
        rw [rounds_succ]
        go_wp2_with fail
        refine (N3.out _).mono ?_
        rintro e w1 ⟨rfl, rfl⟩
        go_wp2
        go_ret2
        exact ⟨rfl, rfl⟩
      | false =>
        have HE := Lib.hid (show Rl.kindOf s = 0 by unfold Rl.kindOf; rw [toList_beq_comm, h1, toList_beq_comm s, h2, toList_beq_comm s, h3]; rfl)
        rw [HE.out]
        go_enter Tryz.func91, Tryz.ntmps91
        go_wp2
        refine wp_loop_rounds 4 ?_
        rw [rounds_succ]
        go_wp2_with fail
        refine (N1.out _).mono ?_
        rintro e w1 ⟨rfl, rfl⟩
        go_wp2
        rw [rounds_succ]
        go_wp2_with fail
        refine (N2.out _).mono ?_
        rintro e w1 ⟨rfl, rfl⟩
        go_wp2
        rw [rounds_succ]
        go_wp2_with fail
        refine (N3.out _).mono ?_
        rintro e w1 ⟨rfl, rfl⟩
        go_wp2
        rw [rounds_succ]
        go_wp2
        go_ret2
        exact ⟨rfl, rfl⟩

theorem Dg.val_mono (r : List UInt8) : ∀ l : List UInt8, Dg.val l ≤ Dg.val (l ++ r) := by
  induction r with
  | nil => intro l; simp
  | cons c r ih =>
    intro l
    have := ih (l ++ [c])
    rw [Dg.val_snoc] at this
    rw [show l ++ c :: r = l ++ [c] ++ r by simp]
    omega
theorem Dg.big_mono {l : List UInt8} (k : Nat) (h : Dg.big (l.take k) = true) : Dg.big l = true := by
  have h1 := Dg.val_mono (l.drop k) (l.take k)
  rw [List.take_append_drop] at h1
  unfold Dg.big at *
  have := of_decide_eq_true h
  exact decide_eq_true (by omega)
theorem Dg.digit_of_all {l : List UInt8} (h : l.all Dg.isD = true) (k : Nat) (hk : k < l.length) : 48 ≤ l[k].toNat ∧ l[k].toNat ≤ 57 := by
  have := List.all_eq_true.1 h l[k] (List.getElem_mem hk)
  rw [Dg.isD_nat] at this
  exact of_decide_eq_true this
theorem retN2 {a b c d : Int} (h : (a, b) = (c, d)) : Ending.returned (.tuple #[.int .u64 c, .int .i64 d]) = .returned (.tuple #[.int .u64 a, .int .i64 b]) := by injection h with h1 h2; rw [h1, h2]

set_option maxHeartbeats 1000000 in
theorem ref_digits (s : ByteArray) (w : World) (hs : s.size ≤ 9223372036854775807) :
    Calls Tryz.prog 89 #[.string s] w fun e w' => e = .returned (.tuple #[.int .u64 (Dg.parse s.data.toList).1, .int .i64 (Dg.parse s.data.toList).2]) ∧ w = w' := by
  have hl : s.data.toList.length = s.size := by simp
  by_cases h0 : s.size = 0
  · have h0' : ((s.size : Int) == 0) = true := by rw [h0]; rfl
    have HP := Lib.hid (Dg.parse_bad s.data.toList (Dg.bad_of_nil (by rw [← List.length_eq_zero_iff, hl]; exact h0)))
    clear hl h0
    go_enter Tryz.func89, Tryz.ntmps89
    go_wp2
    go_ret2
    exact ⟨retN2 HP.out, rfl⟩
  · have h0' : ((s.size : Int) == 0) = false := beq_eq_false_iff_ne.2 (by omega)
    have hp0 : 0 < s.size := by omega
    have HH := Lib.hid (Dg.head_eq s hp0)
    have HL := Lib.hid hl; clear hl h0
    by_cases hz : 1 < s.size ∧ s[0] = 48
    · obtain ⟨hz1, hz2⟩ := hz
      have HP := Lib.hid (Dg.parse_bad s.data.toList (Dg.bad_of_zero (by rw [HH.out, hz2]) (by rw [HL.out]; exact hz1)))
      have hz' : ((s[0].toNat : Int) == 48) = true := by rw [hz2]; rfl
      clear hz2
      go_enter Tryz.func89, Tryz.ntmps89
      go_wp2
      go_ret2
      exact ⟨retN2 HP.out, rfl⟩
    · have HZ := Lib.hid (show ¬ s.data.toList.head? = some 48 ∨ s.data.toList.length ≤ 1 by
        rw [HH.out, HL.out]
        by_cases h1 : s.size ≤ 1
        · exact .inr h1
        · exact .inl fun e => hz ⟨by omega, Option.some.inj e⟩)
      have hzz : s.size ≤ 1 ∨ 1 < s.size ∧ ((s[0].toNat : Int) == 48) = false := by
        by_cases h1 : 1 < s.size
        · have : ¬ s[0] = 48 := fun e => hz ⟨h1, e⟩
          refine .inr ⟨h1, beq_eq_false_iff_ne.2 ?_⟩
          intro e; exact this (UInt8.toNat_inj.1 (by show s[0].toNat = 48; omega))
        · exact .inl (by omega)
      clear hz
      go_enter Tryz.func89, Tryz.ntmps89
      rcases hzz with hz1 | ⟨hz1, hz2⟩
      all_goals
        go_wp2
        go_loop [4] (fun iv => ∃ (i : Nat), iv = .int .i64 i ∧ i ≤ s.size ∧ Aside1 ((s.data.toList.take i).all Dg.isD = true)) (fun iv => s.size - (intOf iv).toNat)
        case atStart => exact ⟨0, rfl, Nat.zero_le _, ⟨rfl⟩⟩
        case round =>
          obtain ⟨i, rfl, hi, HI⟩ := hrel
          by_cases hlt : i < s.size
          · have hc := s[i].toNat_lt
            have hk' : i < s.data.toList.length := by rw [HL.out]; exact hlt
            have hge : s.data.toList[i] = s[i] := Dg.get_eq s i hlt hk'
            by_cases hb : 48 ≤ s[i].toNat ∧ s[i].toNat ≤ 57
            · have HN := Lib.hid (show (s.data.toList.take (i + 1)).all Dg.isD = true by
                have hd : Dg.isD s.data.toList[i] = true := by rw [hge, Dg.isD_nat]; exact decide_eq_true hb
                rw [List.take_succ_eq_append_getElem hk', List.all_append, HI.out, Bool.true_and]; show (Dg.isD _ && true) = true; rw [hd]; rfl)
              clear hge
              obtain ⟨hb1, hb2⟩ := hb
              go_wp2
              go_round
              case rel => exact ⟨i + 1, by go_num, by omega, ⟨HN⟩⟩
              case measure => simp [intOf]; omega
            · have HF := Lib.hid (Dg.parse_bad s.data.toList (Dg.bad_of_digit i hk' (by rw [hge, Dg.isD_nat]; exact decide_eq_false hb)))
              clear hge
              by_cases hb1 : s[i].toNat < 48
              · clear hb
                go_wp2
                go_ret2
                exact ⟨retN2 HF.out, rfl⟩
              · have hb2 : 57 < s[i].toNat := by omega
                clear hb
                go_wp2
                go_ret2
                exact ⟨retN2 HF.out, rfl⟩
          · have HA := Lib.hid (show s.data.toList.all Dg.isD = true by
              have := HI.out; rwa [List.take_of_length_le (by rw [HL.out]; omega)] at this)
            have HG := Lib.hid (Dg.good (by rw [HL.out]; exact hp0) HZ.out HA.out)
            clear HI HZ
            go_wp2
            go_loop [5, 6] (fun nv iv => ∃ (i : Nat), iv = .int .i64 i ∧ nv = .int .u64 (Dg.num (s.data.toList.take i)) ∧ i ≤ s.size ∧ Aside1 (Dg.big (s.data.toList.take i) = false)) (fun _ iv => s.size - (intOf iv).toNat)
            case atStart => exact ⟨0, rfl, rfl, Nat.zero_le _, ⟨by simp [Dg.big, Dg.val]⟩⟩
            case round =>
              clear hlt hi
              obtain ⟨i, rfl, rfl, hi, HI⟩ := hrel
              have hnr := Dg.num_range (s.data.toList.take i)
              by_cases hlt : i < s.size
              · have hk' : i < s.data.toList.length := by rw [HL.out]; exact hlt
                have hge : s.data.toList[i] = s[i] := Dg.get_eq s i hlt hk'
                have hdg := Dg.digit_of_all HA.out i hk'
                rw [hge] at hdg
                have hT : s.data.toList.take (i + 1) = s.data.toList.take i ++ [s[i]] := Dg.take_snoc s i hlt
                have hi1 : Dg.isD s[i] = true := by rw [Dg.isD_nat]; exact decide_eq_true hdg
                have HB := Lib.hid (show Dg.big (s.data.toList.take (i + 1)) = decide (Dg.num (s.data.toList.take i) > (18446744073709551615 - ((s[i].toNat : Int) - 48)) / 10) by
                  rw [hT, Dg.big_snoc _ _ hi1, HI.out, Bool.false_or])
                have HN := Lib.hid (show Dg.num (s.data.toList.take (i + 1)) = (Dg.num (s.data.toList.take i) * 10 + ((s[i].toNat : Int) - 48)) % 18446744073709551616 by rw [hT, Dg.num_snoc _ _ hi1])
                obtain ⟨hd1, hd2⟩ := hdg
                have hd1' : (48 : Int) ≤ (s[i].toNat : Int) := by omega
                have hd2' : (s[i].toNat : Int) ≤ 57 := by omega
                have hw : IntKind.u64.wrap ((s[i].toNat : Int) - 48) = (s[i].toNat : Int) - 48 := by rw [IntKind.wrap_u64]; omega
                clear hge hT hi1
                generalize hnn : Dg.num (s.data.toList.take i) = n at *
                clear hnn
                by_cases hbig : n > (18446744073709551615 - ((s[i].toNat : Int) - 48)) / 10
                · have HP := Lib.hid (Dg.parse_big HG.out (Dg.big_mono (i + 1) (by rw [HB.out]; exact decide_eq_true hbig)))
                  go_wp2
                  go_ret2
                  exact ⟨retN2 HP.out, rfl⟩
                · have HB2 := Lib.hid (show Dg.big (s.data.toList.take (i + 1)) = false by rw [HB.out]; exact decide_eq_false hbig)
                  have HN2 := Lib.hid (show Dg.num (s.data.toList.take (i + 1)) = 10 * n + ((s[i].toNat : Int) - 48) by rw [HN.out]; omega)
                  go_wp2
                  go_round
                  case rel => exact ⟨i + 1, by go_num, by rw [HN2.out], by omega, ⟨HB2⟩⟩
                  case measure => simp [intOf]; omega
              · have HP := Lib.hid (show Dg.parse s.data.toList = (Dg.num (s.data.toList.take i), 0) by
                  have := HI.out
                  rw [List.take_of_length_le (by rw [HL.out]; omega)] at this ⊢
                  exact Dg.parse_ok HG.out this)
                go_wp2
                go_ret2
                exact ⟨retN2 HP.out, rfl⟩

theorem ref_number (s : ByteArray) (z : Int) (w : World) (hs : s.size ≤ 9223372036854775807) :
    Calls Tryz.prog 90 #[.string s, .int .i64 z] w fun e w' => e = .returned (.tuple #[.int .u64 (Dg.parse s.data.toList).1, .int .i64 (Rl.numE z (Dg.parse s.data.toList))]) ∧ w = w' := by
  have K := Lib.hid (ref_digits s w hs)
  obtain ⟨n, hn⟩ : ∃ n, n = (Dg.parse s.data.toList).1 := ⟨_, rfl⟩
  obtain ⟨c, hc⟩ : ∃ c, c = (Dg.parse s.data.toList).2 := ⟨_, rfl⟩
  have HP := Lib.hid (show Dg.parse s.data.toList = (n, c) by rw [hn, hc])
  rw [← hn, ← hc] at K; rw [← hn]
  clear hn hc
  by_cases h0 : c = 0
  · have h0' : (c == 0) = true := by rw [h0]; rfl
    have H0 := Lib.hid h0; clear h0
    by_cases hz : n = 0
    · have hz' : (n == 0) = true := by rw [hz]; rfl
      have HE := Lib.hid (show Rl.numE z (Dg.parse s.data.toList) = z by rw [HP.out, H0.out, hz]; rfl)
      clear hz
      go_enter Tryz.func90, Tryz.ntmps90
      go_wp2_with fail
      refine K.out.mono ?_
      rintro x w1 ⟨rfl, rfl⟩
      go_wp2
      go_ret2
      exact ⟨retN2 (by rw [HE.out]), rfl⟩
    · have hz' : (n == 0) = false := beq_eq_false_iff_ne.2 hz
      have HE := Lib.hid (show Rl.numE z (Dg.parse s.data.toList) = c by rw [HP.out]; exact if_neg (fun h => hz h.2))
      clear hz
      go_enter Tryz.func90, Tryz.ntmps90
      go_wp2_with fail
      refine K.out.mono ?_
      rintro x w1 ⟨rfl, rfl⟩
      go_wp2
      go_ret2
      exact ⟨retN2 (by rw [HE.out]), rfl⟩
  · have h0' : (c == 0) = false := beq_eq_false_iff_ne.2 h0
    have HE := Lib.hid (show Rl.numE z (Dg.parse s.data.toList) = c by rw [HP.out]; exact if_neg (fun h => h0 h.1))
    clear h0
    go_enter Tryz.func90, Tryz.ntmps90
    go_wp2_with fail
    refine K.out.mono ?_
    rintro x w1 ⟨rfl, rfl⟩
    go_wp2
    go_ret2
    exact ⟨retN2 (by rw [HE.out]), rfl⟩
end Go.Proofs.YtamhpnenpoamhaaGreat

/- The references' product, bit by bit. -/
namespace Go.Proofs.YtamhpnenpoamhaaGreat
open Go.RowKit

/-- a times b's upper k bits. -/
def Nm.part (a b : Int) (k : Nat) : Int := a * (b / 2 ^ (64 - k))
theorem Nm.part_zero (a b : Int) (h0 : 0 ≤ b) (h : b ≤ 18446744073709551615) : Nm.part a b 0 = 0 := by
  unfold Nm.part
  rw [show b / 2 ^ (64 - 0) = 0 by simp; omega]; simp
theorem Nm.part_full (a b : Int) : Nm.part a b 64 = a * b := by unfold Nm.part; simp
theorem Nm.part_succ (a b : Int) (k : Nat) (hk : k < 64) : Nm.part a b (k + 1) = 2 * Nm.part a b k + a * (b / 2 ^ (63 - k) % 2) := by
  unfold Nm.part
  rw [show 64 - (k + 1) = 63 - k by omega, show 64 - k = 63 - k + 1 by omega, Int.pow_succ, ← Int.ediv_ediv_of_nonneg (Int.pow_nonneg (by decide))]
  generalize b / 2 ^ (63 - k) = q
  have h := Int.mul_ediv_add_emod q 2
  have : a * q = a * (2 * (q / 2) + q % 2) := by rw [h]
  rw [this, Int.mul_add, ← Int.mul_assoc, ← Int.mul_assoc, Int.mul_comm a 2]
theorem Nm.part_le (a b : Int) (k : Nat) (ha : 0 ≤ a ∧ a ≤ 18446744073709551615) (hb : 0 ≤ b ∧ b ≤ 18446744073709551615) : Nm.part a b k ≤ 340282366920938463426481119284349108225 := by
  have h1 : b / 2 ^ (64 - k) ≤ b := Int.ediv_le_self _ hb.1
  have h2 : (0 : Int) ≤ b / 2 ^ (64 - k) := Int.ediv_nonneg hb.1 (Int.pow_nonneg (by decide))
  have := Int.mul_le_mul ha.2 (Int.le_trans h1 hb.2) h2 (by decide)
  unfold Nm.part
  omega
theorem ref_wide_mul (a b : Int) (w : World) (ha : 0 ≤ a ∧ a ≤ 18446744073709551615) (hb : 0 ≤ b ∧ b ≤ 18446744073709551615) :
    Calls Tryz.prog 92 #[.int .u64 a, .int .u64 b] w fun e w' => e = .returned (.tuple #[.int .u64 (a * b / 18446744073709551616), .int .u64 (a * b % 18446744073709551616)]) ∧ w = w' := by
  have PL := Lib.hid (fun k => Nm.part_le a b k ha hb)
  obtain ⟨ha0, ha1⟩ := ha
  obtain ⟨hb0, hb1⟩ := hb
  go_enter Tryz.func92, Tryz.ntmps92
  go_wp2
  go_loop [6, 7, 8] (fun hv lv iv => ∃ (k : Nat) (h l : Int), iv = .int .i64 (63 - (k : Int)) ∧ hv = .int .u64 h ∧ lv = .int .u64 l ∧ k ≤ 64 ∧ 0 ≤ h ∧ h ≤ 18446744073709551615 ∧ 0 ≤ l ∧ l ≤ 18446744073709551615 ∧ Aside1 (h * 18446744073709551616 + l = Nm.part a b k)) (fun _ _ iv => (intOf iv + 1).toNat)
  case atStart => exact ⟨0, 0, 0, rfl, rfl, rfl, by omega, by omega, by omega, by omega, by omega, ⟨by rw [Nm.part_zero a b hb0 hb1]; rfl⟩⟩
  case round =>
    obtain ⟨k, h, l, rfl, rfl, rfl, hk, h0, h1, l0, l1, HP⟩ := hrel
    by_cases hlt : k < 64
    · have hz : (0 : Int) ≤ 63 - (k : Int) := by omega
      have hq0 : 0 ≤ b / 2 ^ (63 - k) := Int.ediv_nonneg hb0 (Int.pow_nonneg (by decide))
      have HS := Lib.hid (Nm.part_succ a b k hlt)
      rw [← HP.out] at HS
      obtain ⟨q, hq⟩ : ∃ q, q = b / 2 ^ (63 - k) := ⟨_, rfl⟩
      have HL := Lib.hid (PL.out (k + 1))
      have hq2 : q % 2 = 0 ∨ q % 2 = 1 := by omega
      have HQ := Lib.hid hq.symm; clear hq
      rw [HQ.out] at HS hq0
      rcases hq2 with hq2 | hq2
      · have hb2 : ((b / 2 ^ (63 - k)) % 2 == 1) = false := by rw [HQ.out, hq2]; rfl
        have hq0' : 0 ≤ b / 2 ^ (63 - k) := by rw [HQ.out]; exact hq0
        have HQ2 := Lib.hid hq2; clear hq2
        go_wp2
        go_round
        case rel =>
          have hs := HS.out; have hl := HL.out
          rw [HQ2.out, Int.mul_zero] at hs
          refine ⟨k + 1, _, _, by go_num, rfl, rfl, by omega, ?_, ?_, ?_, ?_, ⟨?_⟩⟩ <;> simp only [IntKind.wrap_u64] <;> omega
        case measure => simp [intOf]; omega
      · have hb2 : ((b / 2 ^ (63 - k)) % 2 == 1) = true := by rw [HQ.out, hq2]; rfl
        have hq0' : 0 ≤ b / 2 ^ (63 - k) := by rw [HQ.out]; exact hq0
        have HQ2 := Lib.hid hq2; clear hq2
        go_wp2
        · have hc : IntKind.u64.wrap (IntKind.u64.wrap (l * 2) + a) < IntKind.u64.wrap (l * 2) := by assumption
          go_round
          case rel =>
            have hs := HS.out; have hl := HL.out
            rw [HQ2.out, Int.mul_one] at hs
            simp only [IntKind.wrap_u64] at hc
            refine ⟨k + 1, _, _, by go_num, rfl, rfl, by omega, ?_, ?_, ?_, ?_, ⟨?_⟩⟩ <;> simp only [IntKind.wrap_u64] <;> omega
          case measure => simp [intOf]; omega
        · have hc : IntKind.u64.wrap (l * 2) ≤ IntKind.u64.wrap (IntKind.u64.wrap (l * 2) + a) := by assumption
          go_round
          case rel =>
            have hs := HS.out; have hl := HL.out
            rw [HQ2.out, Int.mul_one] at hs
            simp only [IntKind.wrap_u64] at hc
            refine ⟨k + 1, _, _, by go_num, rfl, rfl, by omega, ?_, ?_, ?_, ?_, ⟨?_⟩⟩ <;> simp only [IntKind.wrap_u64] <;> omega
          case measure => simp [intOf]; omega
    · have hz : ¬ (0 : Int) ≤ 63 - (k : Int) := by omega
      have HE := Lib.hid (show h * 18446744073709551616 + l = a * b by
        rw [HP.out, show k = 64 by omega, Nm.part_full])
      go_wp2
      go_ret2
      exact ⟨by rw [← HE.out, show (h * 18446744073709551616 + l) / 18446744073709551616 = h by omega, show (h * 18446744073709551616 + l) % 18446744073709551616 = l by omega]; rfl, rfl⟩
theorem ref_mul (a b : Int) (w : World) (ha : 0 ≤ a ∧ a ≤ 18446744073709551615) (hb : 0 ≤ b ∧ b ≤ 18446744073709551615) :
    Calls Tryz.prog 67 #[.int .u64 a, .int .u64 b] w fun e w' => e = .returned (.int .u64 (Nm.mul a b)) ∧ w = w' := by
  have P := Lib.hid (ref_wide_mul a b w ha hb)
  have hp : 0 ≤ a * b := Int.mul_nonneg ha.1 hb.1
  obtain ⟨h, Hh⟩ : ∃ h, h = a * b / 18446744073709551616 := ⟨_, rfl⟩
  obtain ⟨l, Hl⟩ : ∃ l, l = a * b % 18446744073709551616 := ⟨_, rfl⟩
  have HM := Lib.hid (show Nm.mul a b = if h = 0 then l else 18446744073709551615 by unfold Nm.mul; rw [← Hh]; split <;> omega)
  have hh0 : 0 ≤ h := by omega
  have HH := Lib.hid Hh; have HL := Lib.hid Hl; clear Hh Hl ha hb hp
  by_cases hz : h = 0
  · have HZ := Lib.hid hz
    have h1 : decide (0 < h) = false := decide_eq_false (by omega)
    clear hz
    go_enter Tryz.func67, Tryz.ntmps67
    go_wp2_with fail
    refine P.out.mono ?_
    rw [← HH.out, ← HL.out]
    rintro e w1 ⟨rfl, rfl⟩
    go_wp2
    go_ret
    exact ⟨by rw [HM.out, if_pos HZ.out]; rfl, rfl⟩
  · have h1 : decide (0 < h) = true := decide_eq_true (by omega)
    go_enter Tryz.func67, Tryz.ntmps67
    go_wp2_with fail
    refine P.out.mono ?_
    rw [← HH.out, ← HL.out]
    rintro e w1 ⟨rfl, rfl⟩
    go_wp2
    go_ret
    exact ⟨by rw [HM.out, if_neg hz]; rfl, rfl⟩
end Go.Proofs.YtamhpnenpoamhaaGreat
