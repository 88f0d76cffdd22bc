/- Part 5 of 9 of the proof of LRowParses: lemmas and walks, gathered. -/
import Derived.Test.YtamhpnenpoamhaaGreatCp4
import Derived.Test.YtamhpnenpoamhaaGreatCp3
import Derived.Test.YtamhpnenpoamhaaGreatCp2
set_option linter.unusedSimpArgs false
set_option linter.unusedVariables false
/- The references' find, Right of rules. -/
namespace Go.Proofs.YtamhpnenpoamhaaGreat
open Go.RowKit Go.Proofs.YtamhpnenpoamhaaGreatW.PrintWords Go.Proofs.YtamhpnenpoamhaaGreatW.PrintLast

theorem bytes_beq (a b : ByteArray) : (a.toList == b.toList) = decide (a = b) := by
  rw [Bool.eq_iff_iff, beq_iff_eq, decide_eq_true_iff]
  refine ⟨fun h => ?_, fun h => by rw [h]⟩
  rw [Lib.toList_data, Lib.toList_data] at h
  obtain ⟨⟨x⟩⟩ := a; obtain ⟨⟨y⟩⟩ := b
  simp at h; rw [h]
/-- The first rule of a prefix; below 0: there is none. -/
def Cf.find : List Ru → ByteArray → Int
  | [], _ => -1
  | r :: l, p => if r.p = p then 0 else if Cf.find l p < 0 then -1 else Cf.find l p + 1
theorem Cf.find_range (p : ByteArray) : ∀ l : List Ru, -1 ≤ Cf.find l p ∧ Cf.find l p < l.length
  | [] => by simp [find]
  | r :: l => by
    have := Cf.find_range p l
    rw [find]
    simp only [List.length_cons]
    split
    · omega
    · split <;> omega
theorem Cf.find_has (p : ByteArray) : ∀ l : List Ru, decide (0 ≤ Cf.find l p) = Cf.has l p
  | [] => by simp [find, has]
  | r :: l => by
    have ih := Cf.find_has p l
    have hr := Cf.find_range p l
    rw [find, has, List.any_cons, ← has, ← ih]
    by_cases h : r.p = p
    · simp [h]
    · rw [if_neg h, decide_eq_false h, Bool.false_or]
      split <;> (rw [Bool.eq_iff_iff, decide_eq_true_iff, decide_eq_true_iff]; omega)
theorem Cf.find_at (p : ByteArray) : ∀ (l : List Ru) (i : Nat), i < l.length → (∀ j, j < i → (l.getD j Ru.zero).p ≠ p) → (l.getD i Ru.zero).p = p → Cf.find l p = i
  | [], _, h, _, _ => by simp at h
  | r :: l, 0, _, _, h => by rw [find, if_pos (by simpa using h)]; rfl
  | r :: l, i + 1, hi, hn, h => by
    have h0 := hn 0 (by omega)
    have ih := Cf.find_at p l i (by simpa using hi) (fun j hj => by simpa using hn (j + 1) (by omega)) (by simpa using h)
    rw [find, if_neg (by simpa using h0), if_neg (by omega), ih]
    omega
theorem Cf.find_none (p : ByteArray) : ∀ (l : List Ru), (∀ j, j < l.length → (l.getD j Ru.zero).p ≠ p) → Cf.find l p = -1
  | [], _ => rfl
  | r :: l, h => by
    have ih := Cf.find_none p l (fun j hj => by simpa using h (j + 1) (by simpa using hj))
    rw [find, if_neg (by simpa using h 0 (by simp)), if_pos (by omega)]
theorem retI {a b : Int} (h : a = b) : Ending.returned (.int .i64 b) = .returned (.int .i64 a) := by rw [h]

set_option maxHeartbeats 1000000 in
theorem ref_find (A : Option Addr) (c : Nat) (l : List Ru) (p : ByteArray) (w : World) (hc : kRu.C w A l.length l) :
    Calls Tryz.prog 43 #[.slice A l.length c, .string p] w fun e w' => e = .returned (.int .i64 (Cf.find l p)) ∧ w = w' := by
  have hmax := Kd.C_max hc
  have HC := Lib.hid hc; clear hc
  go_enter Tryz.func43, Tryz.ntmps43
  go_wp2
  go_loop [5] (fun iv => ∃ (i : Nat), iv = .int .i64 i ∧ i ≤ l.length ∧ Aside1 (∀ j, j < i → (l.getD j Ru.zero).p ≠ p)) (fun iv => l.length - (intOf iv).toNat)
  case atStart => exact ⟨0, rfl, Nat.zero_le _, ⟨fun j h => by omega⟩⟩
  case round =>
    obtain ⟨i, rfl, hi, HI⟩ := hrel
    by_cases hlt : i < l.length
    · obtain ⟨ad, hA, p0, _⟩ := rule_cells HC.out i hlt
      subst hA
      obtain ⟨s, hs⟩ : ∃ s, s = (l.getD i Ru.zero).p := ⟨_, rfl⟩
      rw [← hs] at p0
      have HS := Lib.hid hs; clear hs
      by_cases he : s = p
      · have hb : (s.toList == p.toList) = true := by rw [he]; simp
        have HE := Lib.hid (Cf.find_at p l i hlt HI.out (HS.out ▸ he)); clear he
        go_wp2
        go_ret
        exact ⟨retI HE.out, rfl⟩
      · have hb : (s.toList == p.toList) = false := by rw [bytes_beq]; exact decide_eq_false he
        have HN := Lib.hid he; clear he
        go_wp2
        go_round
        case rel =>
          refine ⟨i + 1, by go_num, by omega, ⟨fun j hj => ?_⟩⟩
          by_cases hji : j < i
          · exact HI.out j hji
          · obtain rfl : j = i := by omega
            rw [← HS.out]; exact HN.out
        case measure => simp [intOf]; omega
    · have HE := Lib.hid (Cf.find_none p l (fun j hj => HI.out j (by omega)))
      go_wp2
      go_ret
      exact ⟨retI HE.out, rfl⟩

set_option maxHeartbeats 1000000 in
theorem ref_rule_right (p : ByteArray) (e u k : Int) (w : World) (hs : p.size ≤ 9223372036854775807) (he : 0 ≤ e ∧ e ≤ 18446744073709551615) (hu : 0 ≤ u ∧ u ≤ 18446744073709551615) :
    Calls Tryz.prog 44 #[.agg #[.string p, .int .u64 e, .int .u64 u, .int .u8 k]] w fun x w' => x = .returned (.int .i64 (Rl.right p e u k)) ∧ Below w.heap.size w w' := by
  have KR := Lib.hid (fun w => ref_key_right p w hs)
  have MU := Lib.hid (fun w => ref_mul e u w he hu)
  have KK := Lib.hid (fun w => ref_kernel_right k w)
  have HR := Lib.hid (show Rl.right p e u k = if Rl.okP p = false then 23 else if ¬ 0 < e then 24 else if ¬ 0 < u then 25 else if ¬ Nm.mul e u ≤ 4611686018427387904 then 26 else if ¬ (1 ≤ k ∧ k ≤ 3) then 27 else 0 from rfl)
  obtain ⟨m, hm⟩ : ∃ m, m = Nm.mul e u := ⟨_, rfl⟩
  rw [← hm] at MU HR
  clear hm
  obtain ⟨q, hq⟩ : ∃ q, q = Ky.right p.data.toList := ⟨_, rfl⟩
  rw [← hq] at KR
  have HP : Hid (Rl.okP p = (p.toList.isEmpty || q)) := by rw [hq]; exact rfl
  clear hq
  have hBel := fun o => (Below.refl w.heap.size w).alloc (Nat.le_refl _) o
  have HB := Lib.hid hBel; clear hBel
  by_cases ho : Rl.okP p = true
  · have HR1 := Lib.hid (HR.out.trans (if_neg (by rw [ho]; simp)))
    have hpq : p.toList.isEmpty = true ∨ p.toList.isEmpty = false ∧ q = true := by
      have := HP.out.symm.trans ho
      cases h : p.toList.isEmpty
      · rw [h, Bool.false_or] at this; exact .inr ⟨rfl, this⟩
      · exact .inl rfl
    clear ho HR HP
    rcases hpq with hz | ⟨hz, rfl⟩
    · have hz' : (!p.toList.isEmpty) = false := by rw [hz]; rfl
      by_cases hc2 : 0 < e
      · have b2 : (e == 0) = false := beq_eq_false_iff_ne.2 (by omega)
        have HR2 := Lib.hid (HR1.out.trans (if_neg (not_not_intro hc2)))
        clear hc2
        by_cases hc3 : 0 < u
        · have b3 : (u == 0) = false := beq_eq_false_iff_ne.2 (by omega)
          have HR3 := Lib.hid (HR2.out.trans (if_neg (not_not_intro hc3)))
          clear hc3
          by_cases hc4 : m ≤ 4611686018427387904
          · have b4 : decide (4611686018427387904 < m) = false := decide_eq_false (by omega)
            have HR4 := Lib.hid (HR3.out.trans (if_neg (not_not_intro hc4)))
            clear hc4
            by_cases hc5 : 1 ≤ k ∧ k ≤ 3
            · have HF := Lib.hid (HR4.out.trans (if_neg (not_not_intro hc5)))
              rw [decide_eq_true hc5] at KK; clear hc5
              go_enter Tryz.func44, Tryz.ntmps44
              go_wp2_with fail
              refine (MU.out _).mono ?_
              rintro x w1 ⟨rfl, rfl⟩
              go_wp2_with fail
              refine (KK.out _).mono ?_
              rintro x w1 ⟨rfl, rfl⟩
              go_wp2
              go_ret
              exact ⟨retI HF.out, HB.out _⟩
            · have HF := Lib.hid (HR4.out.trans (if_pos hc5))
              rw [decide_eq_false hc5] at KK; clear hc5
              go_enter Tryz.func44, Tryz.ntmps44
              go_wp2_with fail
              refine (MU.out _).mono ?_
              rintro x w1 ⟨rfl, rfl⟩
              go_wp2_with fail
              refine (KK.out _).mono ?_
              rintro x w1 ⟨rfl, rfl⟩
              go_wp2
              go_ret
              exact ⟨retI HF.out, HB.out _⟩
          · have b4 : decide (4611686018427387904 < m) = true := decide_eq_true (by omega)
            have HF := Lib.hid (HR3.out.trans (if_pos hc4))
            clear hc4
            go_enter Tryz.func44, Tryz.ntmps44
            go_wp2_with fail
            refine (MU.out _).mono ?_
            rintro x w1 ⟨rfl, rfl⟩
            go_wp2
            go_ret
            exact ⟨retI HF.out, HB.out _⟩
        · have b3 : (u == 0) = true := by rw [show u = 0 by omega]; rfl
          have HF := Lib.hid (HR2.out.trans (if_pos hc3))
          clear hc3
          go_enter Tryz.func44, Tryz.ntmps44
          go_wp2
          go_ret
          exact ⟨retI HF.out, HB.out _⟩
      · have b2 : (e == 0) = true := by rw [show e = 0 by omega]; rfl
        have HF := Lib.hid (HR1.out.trans (if_pos hc2))
        clear hc2
        go_enter Tryz.func44, Tryz.ntmps44
        go_wp2
        go_ret
        exact ⟨retI HF.out, HB.out _⟩
    · have hz' : (!p.toList.isEmpty) = true := by rw [hz]; rfl
      by_cases hc2 : 0 < e
      · have b2 : (e == 0) = false := beq_eq_false_iff_ne.2 (by omega)
        have HR2 := Lib.hid (HR1.out.trans (if_neg (not_not_intro hc2)))
        clear hc2
        by_cases hc3 : 0 < u
        · have b3 : (u == 0) = false := beq_eq_false_iff_ne.2 (by omega)
          have HR3 := Lib.hid (HR2.out.trans (if_neg (not_not_intro hc3)))
          clear hc3
          by_cases hc4 : m ≤ 4611686018427387904
          · have b4 : decide (4611686018427387904 < m) = false := decide_eq_false (by omega)
            have HR4 := Lib.hid (HR3.out.trans (if_neg (not_not_intro hc4)))
            clear hc4
            by_cases hc5 : 1 ≤ k ∧ k ≤ 3
            · have HF := Lib.hid (HR4.out.trans (if_neg (not_not_intro hc5)))
              rw [decide_eq_true hc5] at KK; clear hc5
              go_enter Tryz.func44, Tryz.ntmps44
              go_wp2_with fail
              refine (KR.out _).mono ?_
              rintro x w1 ⟨rfl, rfl⟩
              go_wp2_with fail
              refine (MU.out _).mono ?_
              rintro x w1 ⟨rfl, rfl⟩
              go_wp2_with fail
              refine (KK.out _).mono ?_
              rintro x w1 ⟨rfl, rfl⟩
              go_wp2
              go_ret
              exact ⟨retI HF.out, HB.out _⟩
            · have HF := Lib.hid (HR4.out.trans (if_pos hc5))
              rw [decide_eq_false hc5] at KK; clear hc5
              go_enter Tryz.func44, Tryz.ntmps44
              go_wp2_with fail
              refine (KR.out _).mono ?_
              rintro x w1 ⟨rfl, rfl⟩
              go_wp2_with fail
              refine (MU.out _).mono ?_
              rintro x w1 ⟨rfl, rfl⟩
              go_wp2_with fail
              refine (KK.out _).mono ?_
              rintro x w1 ⟨rfl, rfl⟩
              go_wp2
              go_ret
              exact ⟨retI HF.out, HB.out _⟩
          · have b4 : decide (4611686018427387904 < m) = true := decide_eq_true (by omega)
            have HF := Lib.hid (HR3.out.trans (if_pos hc4))
            clear hc4
            go_enter Tryz.func44, Tryz.ntmps44
            go_wp2_with fail
            refine (KR.out _).mono ?_
            rintro x w1 ⟨rfl, rfl⟩
            go_wp2_with fail
            refine (MU.out _).mono ?_
            rintro x w1 ⟨rfl, rfl⟩
            go_wp2
            go_ret
            exact ⟨retI HF.out, HB.out _⟩
        · have b3 : (u == 0) = true := by rw [show u = 0 by omega]; rfl
          have HF := Lib.hid (HR2.out.trans (if_pos hc3))
          clear hc3
          go_enter Tryz.func44, Tryz.ntmps44
          go_wp2_with fail
          refine (KR.out _).mono ?_
          rintro x w1 ⟨rfl, rfl⟩
          go_wp2
          go_ret
          exact ⟨retI HF.out, HB.out _⟩
      · have b2 : (e == 0) = true := by rw [show e = 0 by omega]; rfl
        have HF := Lib.hid (HR1.out.trans (if_pos hc2))
        clear hc2
        go_enter Tryz.func44, Tryz.ntmps44
        go_wp2_with fail
        refine (KR.out _).mono ?_
        rintro x w1 ⟨rfl, rfl⟩
        go_wp2
        go_ret
        exact ⟨retI HF.out, HB.out _⟩
  · have HR1 := Lib.hid (HR.out.trans (if_pos (by simpa using ho)))
    have hpq : p.toList.isEmpty = false ∧ q = false := by
      have := HP.out.symm
      rw [show Rl.okP p = false by simpa using ho] at this
      cases h : p.toList.isEmpty
      · rw [h, Bool.false_or] at this; exact ⟨rfl, this⟩
      · rw [h] at this; simp at this
    obtain ⟨h1, rfl⟩ := hpq
    have h2 : (!p.toList.isEmpty) = true := by rw [h1]; rfl
    clear ho HR HP
    go_enter Tryz.func44, Tryz.ntmps44
    go_wp2_with fail
    refine (KR.out _).mono ?_
    rintro e w1 ⟨rfl, rfl⟩
    go_wp2
    go_ret
    exact ⟨retI HR1.out, HB.out _⟩
end Go.Proofs.YtamhpnenpoamhaaGreat

/- The reference's Parse of a rule's words. -/
namespace Go.Proofs.YtamhpnenpoamhaaGreat
open Go.RowKit Go.Proofs.YtamhpnenpoamhaaGreatW.PrintWords Go.Proofs.YtamhpnenpoamhaaGreatW.PrintLast

def parseR (r : Ru × Int × Int) : Value := .tuple #[.agg #[.string r.1.p, .int .u64 r.1.e, .int .u64 r.1.u, .int .u8 r.1.k], .int .i64 r.2.1, .int .i64 r.2.2]
/-- A new rule. -/
def Zo : Obj := .cells #[.string ⟨#[]⟩, .int .u64 0, .int .u64 0, .int .u8 0] 37
theorem parse_below (w : World) (a b : Obj) : Below w.heap.size w ((w.alloc a).alloc b) := ((Below.refl _ _).alloc (Nat.le_refl _) _).alloc (by simp) _
/-- What the three last words make of a rule. -/
theorem Rl.three (r : Ru) (w1 w2 w3 : ByteArray) (n : Int) : Rl.run [1, 2, 3] [w1, w2, w3] r n =
    if Rl.numE 24 (Dg.parse w1.data.toList) ≠ 0 then (Ru.zero, Rl.numE 24 (Dg.parse w1.data.toList), n) else
    if (if Rl.numE 25 (Dg.parse w2.data.toList) = 0 ∧ 4611686018427387904 < Nm.mul (Dg.parse w1.data.toList).1 (Dg.parse w2.data.toList).1 then 26 else Rl.numE 25 (Dg.parse w2.data.toList)) ≠ 0 then (Ru.zero, (if Rl.numE 25 (Dg.parse w2.data.toList) = 0 ∧ 4611686018427387904 < Nm.mul (Dg.parse w1.data.toList).1 (Dg.parse w2.data.toList).1 then 26 else Rl.numE 25 (Dg.parse w2.data.toList)), n + 1) else
    if ¬ 0 < Rl.kindOf w3 then (Ru.zero, 27, n + 2) else (⟨r.p, (Dg.parse w1.data.toList).1, (Dg.parse w2.data.toList).1, Rl.kindOf w3⟩, 0, 0) := by
  rw [Rl.run]
  by_cases h1 : Rl.numE 24 (Dg.parse w1.data.toList) = 0
  · rw [if_pos (show (Rl.step 1 r w1).1 = 0 from h1), if_neg (by simp [h1]), Rl.run]
    have e2 : (Rl.step 2 (Rl.step 1 r w1).2 w2).1 = (if Rl.numE 25 (Dg.parse w2.data.toList) = 0 ∧ 4611686018427387904 < Nm.mul (Dg.parse w1.data.toList).1 (Dg.parse w2.data.toList).1 then 26 else Rl.numE 25 (Dg.parse w2.data.toList)) := rfl
    rw [e2]
    generalize (if Rl.numE 25 (Dg.parse w2.data.toList) = 0 ∧ 4611686018427387904 < Nm.mul (Dg.parse w1.data.toList).1 (Dg.parse w2.data.toList).1 then 26 else Rl.numE 25 (Dg.parse w2.data.toList)) = e
    by_cases h2 : e = 0
    · rw [if_pos h2, if_neg (by simp [h2]), Rl.run]
      by_cases h3 : 0 < Rl.kindOf w3
      · rw [if_pos (show (Rl.step 3 _ w3).1 = 0 from Rl.namedE_pos h3), if_neg (not_not_intro h3), Rl.run]
        · rfl
        · rintro _ _ _ _ h; cases h
      · rw [if_neg (show ¬ (Rl.step 3 _ w3).1 = 0 from by rw [show (Rl.step 3 (Rl.step 2 (Rl.step 1 r w1).2 w2).2 w3).1 = Rl.namedE (Rl.kindOf w3) from rfl, Rl.namedE_neg h3]; decide), if_pos h3]
        rw [show (Rl.step 3 (Rl.step 2 (Rl.step 1 r w1).2 w2).2 w3).1 = Rl.namedE (Rl.kindOf w3) from rfl, Rl.namedE_neg h3, Int.add_assoc]; rfl
    · rw [if_neg h2, if_pos h2]
  · rw [if_neg (show ¬ (Rl.step 1 r w1).1 = 0 from h1), if_pos h1]; rfl
theorem Rl.four (wp w1 w2 w3 : ByteArray) : Rl.run [0, 1, 2, 3] [wp, w1, w2, w3] Ru.zero 1 =
    if Ky.right wp.data.toList = false then (Ru.zero, 23, 1) else Rl.run [1, 2, 3] [w1, w2, w3] ⟨wp, 0, 0, 0⟩ 2 := by
  rw [Rl.run]
  cases h : Ky.right wp.data.toList with
  | true => rw [if_pos (show (Rl.step 0 Ru.zero wp).1 = 0 from if_pos h), if_neg (by decide)]; rfl
  | false =>
    have e : (Rl.step 0 Ru.zero wp).1 = 23 := if_neg (by rw [h]; decide)
    rw [if_neg (by rw [e]; decide), if_pos rfl, e]

set_option maxHeartbeats 4000000 in
theorem ref_rule_parse4 (ad0 : Option Addr) (c : Nat) (w0 w1 w2 w3 : ByteArray) (w : World) (hr : Kd.C Kd.string w ad0 4 [w0, w1, w2, w3]) (hs : ∀ s, s ∈ [w0, w1, w2, w3] → s.size ≤ 9223372036854775807) :
    Calls Tryz.prog 65 #[.slice ad0 4 c] w fun x w' => x = .returned (parseR (Rl.parse [w0, w1, w2, w3])) ∧ Below w.heap.size w w' := by
  obtain ⟨ad, rfl, c0⟩ := Kd.at_string hr 0 (by omega) (by simp)
  obtain ⟨_, e1, c1⟩ := Kd.at_string hr 1 (by omega) (by simp)
  cases e1
  obtain ⟨_, e1, c2⟩ := Kd.at_string hr 2 (by omega) (by simp)
  cases e1
  obtain ⟨_, e1, c3⟩ := Kd.at_string hr 3 (by omega) (by simp)
  cases e1
  replace c0 : w.cell? ad = some (.string w0) := by simpa [rdOf, addr_zero] using c0
  replace c1 : w.cell? ⟨ad.block, ad.off + 1, none⟩ = some (.string w1) := by simpa [rdOf, Addr.add] using c1
  replace c2 : w.cell? ⟨ad.block, ad.off + 2, none⟩ = some (.string w2) := by simpa [rdOf, Addr.add] using c2
  replace c3 : w.cell? ⟨ad.block, ad.off + 3, none⟩ = some (.string w3) := by simpa [rdOf, Addr.add] using c3
  have d0 := cell_alloc (cell_alloc c0 Zo) Zo
  have d1 := cell_alloc (cell_alloc c1 Zo) Zo
  have d2 := cell_alloc (cell_alloc c2 Zo) Zo
  have d3 := cell_alloc (cell_alloc c3 Zo) Zo
  unfold Zo at d0 d1 d2 d3
  clear c0 c1 c2 c3
  by_cases hd : w0 = sDefault
  · have hb : (w0.toList == [100, 101, 102, 97, 117, 108, 116]) = true := by rw [hd, Lib.toList_data]; rfl
    have HP := Lib.hid (show Rl.parse [w0, w1, w2, w3] = Rl.run [1, 2, 3] [w1, w2, w3] Ru.zero 1 by unfold Rl.parse; rw [if_pos ⟨by simpa using hd, rfl⟩]; rfl)
    clear hd
    have N1 := Lib.hid (fun w => ref_number w1 24 w (hs _ (by simp)))
    have N2 := Lib.hid (fun w => ref_number w2 25 w (hs _ (by simp)))
    have K3 := Lib.hid (fun w => ref_kind w3 w)
    have MU := Lib.hid (fun w => ref_mul _ _ w (Dg.parse_range w1.data.toList) (Dg.parse_range w2.data.toList))
    have HX := Lib.hid (Rl.three Ru.zero w1 w2 w3 1)
    obtain ⟨n1, hn⟩ : ∃ n, n = (Dg.parse w1.data.toList).1 := ⟨_, rfl⟩
    obtain ⟨e1, he⟩ : ∃ n, n = Rl.numE 24 (Dg.parse w1.data.toList) := ⟨_, rfl⟩
    rw [← hn, ← he] at N1 HX; rw [← hn] at MU
    clear hn he
    obtain ⟨n2, hn⟩ : ∃ n, n = (Dg.parse w2.data.toList).1 := ⟨_, rfl⟩
    obtain ⟨e2, he⟩ : ∃ n, n = Rl.numE 25 (Dg.parse w2.data.toList) := ⟨_, rfl⟩
    rw [← hn, ← he] at N2 HX; rw [← hn] at MU
    clear hn he
    obtain ⟨k, hk⟩ : ∃ n, n = Rl.kindOf w3 := ⟨_, rfl⟩
    rw [← hk] at K3 HX
    clear hk
    obtain ⟨m, hm⟩ : ∃ n, n = Nm.mul n1 n2 := ⟨_, rfl⟩
    rw [← hm] at MU HX
    clear hm
    rw [HX.out] at HP
    clear HX hr hs
    by_cases h1 : e1 = 0
    · have b1 : (e1 != 0) = false := by rw [h1]; rfl
      replace HP := Lib.hid (HP.out.trans (if_neg (by simp [h1])))
      clear h1
      by_cases h2 : e2 = 0
      · have b2 : (e2 == 0) = true := by rw [h2]; rfl
        by_cases h3 : 4611686018427387904 < m
        · have b3 : decide (4611686018427387904 < m) = true := decide_eq_true h3
          rw [show (if e2 = 0 ∧ 4611686018427387904 < m then (26 : Int) else e2) = 26 from if_pos ⟨h2, h3⟩] at HP
          replace HP := Lib.hid (HP.out.trans (if_pos (by decide)))
          clear h2 h3
          go_enter Tryz.func65, Tryz.ntmps65
          go_wp2_with fail
          refine (N1.out _).mono ?_
          rintro x w1 ⟨rfl, rfl⟩
          go_wp2_with fail
          refine (N2.out _).mono ?_
          rintro x w1 ⟨rfl, rfl⟩
          go_wp2_with fail
          refine (MU.out _).mono ?_
          rintro x w1 ⟨rfl, rfl⟩
          go_wp2
          exact bodyPost_ret (v := parseR (Ru.zero, 26, 2)) (by simp [results, Tryz.results65, go_sem, parseR, Ru.zero]) rfl ⟨congrArg (fun r => Ending.returned (parseR r)) HP.out.symm, parse_below _ _ _⟩
        · have b3 : decide (4611686018427387904 < m) = false := decide_eq_false h3
          rw [show (if e2 = 0 ∧ 4611686018427387904 < m then (26 : Int) else e2) = 0 from (if_neg (fun h => h3 h.2)).trans h2] at HP
          replace HP := Lib.hid (HP.out.trans (if_neg (by decide)))
          have b4 : (e2 != 0) = false := by rw [h2]; rfl
          clear h2 h3
          by_cases h4 : 0 < k
          · have b5 : decide (0 < k) = true := decide_eq_true h4
            rw [b5] at K3
            replace HP := Lib.hid (HP.out.trans (if_neg (not_not_intro h4)))
            clear h4 b5
            go_enter Tryz.func65, Tryz.ntmps65
            go_wp2_with fail
            refine (N1.out _).mono ?_
            rintro x w1 ⟨rfl, rfl⟩
            go_wp2_with fail
            refine (N2.out _).mono ?_
            rintro x w1 ⟨rfl, rfl⟩
            go_wp2_with fail
            refine (MU.out _).mono ?_
            rintro x w1 ⟨rfl, rfl⟩
            go_wp2_with fail
            refine (K3.out _).mono ?_
            rintro x w1 ⟨rfl, rfl⟩
            go_wp2
            exact bodyPost_ret (v := parseR (⟨⟨#[]⟩, n1, n2, k⟩, 0, 0)) (by simp [results, Tryz.results65, go_sem, parseR, Ru.zero]) rfl ⟨congrArg (fun r => Ending.returned (parseR r)) HP.out.symm, parse_below _ _ _⟩
          · have b5 : decide (0 < k) = false := decide_eq_false h4
            rw [b5] at K3
            replace HP := Lib.hid (HP.out.trans (if_pos h4))
            clear h4 b5
            go_enter Tryz.func65, Tryz.ntmps65
            go_wp2_with fail
            refine (N1.out _).mono ?_
            rintro x w1 ⟨rfl, rfl⟩
            go_wp2_with fail
            refine (N2.out _).mono ?_
            rintro x w1 ⟨rfl, rfl⟩
            go_wp2_with fail
            refine (MU.out _).mono ?_
            rintro x w1 ⟨rfl, rfl⟩
            go_wp2_with fail
            refine (K3.out _).mono ?_
            rintro x w1 ⟨rfl, rfl⟩
            go_wp2
            exact bodyPost_ret (v := parseR (Ru.zero, 27, 3)) (by simp [results, Tryz.results65, go_sem, parseR, Ru.zero]) rfl ⟨congrArg (fun r => Ending.returned (parseR r)) HP.out.symm, parse_below _ _ _⟩
      · have b2 : (e2 == 0) = false := beq_eq_false_iff_ne.2 h2
        have b4 : (e2 != 0) = true := by simpa using h2
        rw [show (if e2 = 0 ∧ 4611686018427387904 < m then (26 : Int) else e2) = e2 from if_neg (fun h => h2 h.1)] at HP
        replace HP := Lib.hid (HP.out.trans (if_pos h2))
        clear h2
        go_enter Tryz.func65, Tryz.ntmps65
        go_wp2_with fail
        refine (N1.out _).mono ?_
        rintro x w1 ⟨rfl, rfl⟩
        go_wp2_with fail
        refine (N2.out _).mono ?_
        rintro x w1 ⟨rfl, rfl⟩
        go_wp2
        exact bodyPost_ret (v := parseR (Ru.zero, e2, 2)) (by simp [results, Tryz.results65, go_sem, parseR, Ru.zero]) rfl ⟨congrArg (fun r => Ending.returned (parseR r)) HP.out.symm, parse_below _ _ _⟩
    · have b1 : (e1 != 0) = true := by simpa using h1
      replace HP := Lib.hid (HP.out.trans (if_pos h1))
      clear h1
      go_enter Tryz.func65, Tryz.ntmps65
      go_wp2_with fail
      refine (N1.out _).mono ?_
      rintro x w1 ⟨rfl, rfl⟩
      go_wp2
      exact bodyPost_ret (v := parseR (Ru.zero, e1, 1)) (by simp [results, Tryz.results65, go_sem, parseR, Ru.zero]) rfl ⟨congrArg (fun r => Ending.returned (parseR r)) HP.out.symm, parse_below _ _ _⟩
  · have hb : (w0.toList == [100, 101, 102, 97, 117, 108, 116]) = false := by
      have := bytes_beq w0 sDefault
      rw [show sDefault.toList = [100, 101, 102, 97, 117, 108, 116] by rw [Lib.toList_data]; rfl] at this
      rw [this]; exact decide_eq_false hd
    have HP := Lib.hid (show Rl.parse [w0, w1, w2, w3] = (Ru.zero, 22, 0) by unfold Rl.parse; rw [if_neg (by simp [hd]), if_neg (by simp)])
    clear hd hr hs
    go_enter Tryz.func65, Tryz.ntmps65
    go_wp2
    exact bodyPost_ret (v := parseR (Ru.zero, 22, 0)) (by simp [results, Tryz.results65, go_sem, parseR, Ru.zero]) rfl ⟨congrArg (fun r => Ending.returned (parseR r)) HP.out.symm, parse_below _ _ _⟩

set_option maxHeartbeats 4000000 in
theorem ref_rule_parse5 (ad0 : Option Addr) (c : Nat) (w0 wp w2 w3 w4 : ByteArray) (w : World) (hr : Kd.C Kd.string w ad0 5 [w0, wp, w2, w3, w4]) (hs : ∀ s, s ∈ [w0, wp, w2, w3, w4] → s.size ≤ 9223372036854775807) :
    Calls Tryz.prog 65 #[.slice ad0 5 c] w fun x w' => x = .returned (parseR (Rl.parse [w0, wp, w2, w3, w4])) ∧ Below w.heap.size w w' := by
  obtain ⟨ad, rfl, c0⟩ := Kd.at_string hr 0 (by omega) (by simp)
  obtain ⟨_, e1, c1⟩ := Kd.at_string hr 1 (by omega) (by simp)
  cases e1
  obtain ⟨_, e1, c2⟩ := Kd.at_string hr 2 (by omega) (by simp)
  cases e1
  obtain ⟨_, e1, c3⟩ := Kd.at_string hr 3 (by omega) (by simp)
  cases e1
  obtain ⟨_, e1, c4⟩ := Kd.at_string hr 4 (by omega) (by simp)
  cases e1
  replace c0 : w.cell? ad = some (.string w0) := by simpa [rdOf, addr_zero] using c0
  replace c1 : w.cell? ⟨ad.block, ad.off + 1, none⟩ = some (.string wp) := by simpa [rdOf, Addr.add] using c1
  replace c2 : w.cell? ⟨ad.block, ad.off + 2, none⟩ = some (.string w2) := by simpa [rdOf, Addr.add] using c2
  replace c3 : w.cell? ⟨ad.block, ad.off + 3, none⟩ = some (.string w3) := by simpa [rdOf, Addr.add] using c3
  replace c4 : w.cell? ⟨ad.block, ad.off + 4, none⟩ = some (.string w4) := by simpa [rdOf, Addr.add] using c4
  have d0 := cell_alloc (cell_alloc c0 Zo) Zo
  have d1 := cell_alloc (cell_alloc c1 Zo) Zo
  have d2 := cell_alloc (cell_alloc c2 Zo) Zo
  have d3 := cell_alloc (cell_alloc c3 Zo) Zo
  have d4 := cell_alloc (cell_alloc c4 Zo) Zo
  unfold Zo at d0 d1 d2 d3 d4
  have g2 := cell_alloc (cell_alloc c2 Zo) (.cells #[.string wp, .int .u64 0, .int .u64 0, .int .u8 0] 37)
  have g3 := cell_alloc (cell_alloc c3 Zo) (.cells #[.string wp, .int .u64 0, .int .u64 0, .int .u8 0] 37)
  have g4 := cell_alloc (cell_alloc c4 Zo) (.cells #[.string wp, .int .u64 0, .int .u64 0, .int .u8 0] 37)
  unfold Zo at g2 g3 g4
  clear c0 c1 c2 c3 c4
  have KR := Lib.hid (fun w => ref_key_right wp w (hs _ (by simp)))
  by_cases hd : w0 = sRule
  · have hb : (w0.toList == [114, 117, 108, 101]) = true := by rw [hd, Lib.toList_data]; rfl
    have HP := Lib.hid (show Rl.parse [w0, wp, w2, w3, w4] = Rl.run [0, 1, 2, 3] [wp, w2, w3, w4] Ru.zero 1 by unfold Rl.parse; rw [if_neg (by simp), if_pos ⟨by simpa using hd, rfl⟩]; rfl)
    rw [Rl.four] at HP
    clear hd
    cases hq : Ky.right wp.data.toList with
    | false =>
      rw [hq] at KR HP
      replace HP := Lib.hid (HP.out.trans (if_pos rfl))
      clear hq hr hs
      go_enter Tryz.func65, Tryz.ntmps65
      go_wp2_with fail
      refine (KR.out _).mono ?_
      rintro x w1 ⟨rfl, rfl⟩
      go_wp2
      exact bodyPost_ret (v := parseR (Ru.zero, 23, 1)) (by simp [results, Tryz.results65, go_sem, parseR, Ru.zero]) rfl ⟨congrArg (fun r => Ending.returned (parseR r)) HP.out.symm, parse_below _ _ _⟩
    | true =>
      rw [hq] at KR HP
      replace HP := Lib.hid (HP.out.trans (if_neg (by decide)))
      clear hq
      have N1 := Lib.hid (fun w => ref_number w2 24 w (hs _ (by simp)))
      have N2 := Lib.hid (fun w => ref_number w3 25 w (hs _ (by simp)))
      have K3 := Lib.hid (fun w => ref_kind w4 w)
      have MU := Lib.hid (fun w => ref_mul _ _ w (Dg.parse_range w2.data.toList) (Dg.parse_range w3.data.toList))
      have HX := Lib.hid (Rl.three ⟨wp, 0, 0, 0⟩ w2 w3 w4 2)
      obtain ⟨n1, hn⟩ : ∃ n, n = (Dg.parse w2.data.toList).1 := ⟨_, rfl⟩
      obtain ⟨e1, he⟩ : ∃ n, n = Rl.numE 24 (Dg.parse w2.data.toList) := ⟨_, rfl⟩
      rw [← hn, ← he] at N1 HX; rw [← hn] at MU
      clear hn he
      obtain ⟨n2, hn⟩ : ∃ n, n = (Dg.parse w3.data.toList).1 := ⟨_, rfl⟩
      obtain ⟨e2, he⟩ : ∃ n, n = Rl.numE 25 (Dg.parse w3.data.toList) := ⟨_, rfl⟩
      rw [← hn, ← he] at N2 HX; rw [← hn] at MU
      clear hn he
      obtain ⟨k, hk⟩ : ∃ n, n = Rl.kindOf w4 := ⟨_, rfl⟩
      rw [← hk] at K3 HX
      clear hk
      obtain ⟨m, hm⟩ : ∃ n, n = Nm.mul n1 n2 := ⟨_, rfl⟩
      rw [← hm] at MU HX
      clear hm
      rw [HX.out] at HP
      clear HX hr hs
      by_cases h1 : e1 = 0
      · have b1 : (e1 != 0) = false := by rw [h1]; rfl
        replace HP := Lib.hid (HP.out.trans (if_neg (by simp [h1])))
        clear h1
        by_cases h2 : e2 = 0
        · have b2 : (e2 == 0) = true := by rw [h2]; rfl
          by_cases h3 : 4611686018427387904 < m
          · have b3 : decide (4611686018427387904 < m) = true := decide_eq_true h3
            rw [show (if e2 = 0 ∧ 4611686018427387904 < m then (26 : Int) else e2) = 26 from if_pos ⟨h2, h3⟩] at HP
            replace HP := Lib.hid (HP.out.trans (if_pos (by decide)))
            clear h2 h3
            go_enter Tryz.func65, Tryz.ntmps65
            go_wp2_with fail
            refine (KR.out _).mono ?_
            rintro x w1 ⟨rfl, rfl⟩
            go_wp2_with fail
            refine (N1.out _).mono ?_
            rintro x w1 ⟨rfl, rfl⟩
            go_wp2_with fail
            refine (N2.out _).mono ?_
            rintro x w1 ⟨rfl, rfl⟩
            go_wp2_with fail
            refine (MU.out _).mono ?_
            rintro x w1 ⟨rfl, rfl⟩
            go_wp2
            exact bodyPost_ret (v := parseR (Ru.zero, 26, 3)) (by simp [results, Tryz.results65, go_sem, parseR, Ru.zero]) rfl ⟨congrArg (fun r => Ending.returned (parseR r)) HP.out.symm, parse_below _ _ _⟩
          · have b3 : decide (4611686018427387904 < m) = false := decide_eq_false h3
            rw [show (if e2 = 0 ∧ 4611686018427387904 < m then (26 : Int) else e2) = 0 from (if_neg (fun h => h3 h.2)).trans h2] at HP
            replace HP := Lib.hid (HP.out.trans (if_neg (by decide)))
            have b4 : (e2 != 0) = false := by rw [h2]; rfl
            clear h2 h3
            by_cases h4 : 0 < k
            · have b5 : decide (0 < k) = true := decide_eq_true h4
              rw [b5] at K3
              replace HP := Lib.hid (HP.out.trans (if_neg (not_not_intro h4)))
              clear h4 b5
              go_enter Tryz.func65, Tryz.ntmps65
              go_wp2_with fail
              refine (KR.out _).mono ?_
              rintro x w1 ⟨rfl, rfl⟩
              go_wp2_with fail
              refine (N1.out _).mono ?_
              rintro x w1 ⟨rfl, rfl⟩
              go_wp2_with fail
              refine (N2.out _).mono ?_
              rintro x w1 ⟨rfl, rfl⟩
              go_wp2_with fail
              refine (MU.out _).mono ?_
              rintro x w1 ⟨rfl, rfl⟩
              go_wp2_with fail
              refine (K3.out _).mono ?_
              rintro x w1 ⟨rfl, rfl⟩
              go_wp2
              exact bodyPost_ret (v := parseR (⟨wp, n1, n2, k⟩, 0, 0)) (by simp [results, Tryz.results65, go_sem, parseR, Ru.zero]) rfl ⟨congrArg (fun r => Ending.returned (parseR r)) HP.out.symm, parse_below _ _ _⟩
            · have b5 : decide (0 < k) = false := decide_eq_false h4
              rw [b5] at K3
              replace HP := Lib.hid (HP.out.trans (if_pos h4))
              clear h4 b5
              go_enter Tryz.func65, Tryz.ntmps65
              go_wp2_with fail
              refine (KR.out _).mono ?_
              rintro x w1 ⟨rfl, rfl⟩
              go_wp2_with fail
              refine (N1.out _).mono ?_
              rintro x w1 ⟨rfl, rfl⟩
              go_wp2_with fail
              refine (N2.out _).mono ?_
              rintro x w1 ⟨rfl, rfl⟩
              go_wp2_with fail
              refine (MU.out _).mono ?_
              rintro x w1 ⟨rfl, rfl⟩
              go_wp2_with fail
              refine (K3.out _).mono ?_
              rintro x w1 ⟨rfl, rfl⟩
              go_wp2
              exact bodyPost_ret (v := parseR (Ru.zero, 27, 4)) (by simp [results, Tryz.results65, go_sem, parseR, Ru.zero]) rfl ⟨congrArg (fun r => Ending.returned (parseR r)) HP.out.symm, parse_below _ _ _⟩
        · have b2 : (e2 == 0) = false := beq_eq_false_iff_ne.2 h2
          have b4 : (e2 != 0) = true := by simpa using h2
          rw [show (if e2 = 0 ∧ 4611686018427387904 < m then (26 : Int) else e2) = e2 from if_neg (fun h => h2 h.1)] at HP
          replace HP := Lib.hid (HP.out.trans (if_pos h2))
          clear h2
          go_enter Tryz.func65, Tryz.ntmps65
          go_wp2_with fail
          refine (KR.out _).mono ?_
          rintro x w1 ⟨rfl, rfl⟩
          go_wp2_with fail
          refine (N1.out _).mono ?_
          rintro x w1 ⟨rfl, rfl⟩
          go_wp2_with fail
          refine (N2.out _).mono ?_
          rintro x w1 ⟨rfl, rfl⟩
          go_wp2
          exact bodyPost_ret (v := parseR (Ru.zero, e2, 3)) (by simp [results, Tryz.results65, go_sem, parseR, Ru.zero]) rfl ⟨congrArg (fun r => Ending.returned (parseR r)) HP.out.symm, parse_below _ _ _⟩
      · have b1 : (e1 != 0) = true := by simpa using h1
        replace HP := Lib.hid (HP.out.trans (if_pos h1))
        clear h1
        go_enter Tryz.func65, Tryz.ntmps65
        go_wp2_with fail
        refine (KR.out _).mono ?_
        rintro x w1 ⟨rfl, rfl⟩
        go_wp2_with fail
        refine (N1.out _).mono ?_
        rintro x w1 ⟨rfl, rfl⟩
        go_wp2
        exact bodyPost_ret (v := parseR (Ru.zero, e1, 2)) (by simp [results, Tryz.results65, go_sem, parseR, Ru.zero]) rfl ⟨congrArg (fun r => Ending.returned (parseR r)) HP.out.symm, parse_below _ _ _⟩
  · have hb : (w0.toList == [114, 117, 108, 101]) = false := by
      have := bytes_beq w0 sRule
      rw [show sRule.toList = [114, 117, 108, 101] by rw [Lib.toList_data]; rfl] at this
      rw [this]; exact decide_eq_false hd
    have HP := Lib.hid (show Rl.parse [w0, wp, w2, w3, w4] = (Ru.zero, 22, 0) by unfold Rl.parse; rw [if_neg (by simp), if_neg (by simp [hd])])
    clear hd hr hs
    go_enter Tryz.func65, Tryz.ntmps65
    go_wp2
    exact bodyPost_ret (v := parseR (Ru.zero, 22, 0)) (by simp [results, Tryz.results65, go_sem, parseR, Ru.zero]) rfl ⟨congrArg (fun r => Ending.returned (parseR r)) HP.out.symm, parse_below _ _ _⟩

set_option maxHeartbeats 1000000 in
theorem ref_rule_parse (A : Option Addr) (c : Nat) (l : List ByteArray) (w : World) (hr : Kd.C Kd.string w A l.length l) (hs : ∀ s, s ∈ l → s.size ≤ 9223372036854775807) :
    Calls Tryz.prog 65 #[.slice A l.length c] w fun x w' => x = .returned (parseR (Rl.parse l)) ∧ Below w.heap.size w w' := by
  by_cases h4 : l.length = 4
  · match l, h4 with
    | [w0, w1, w2, w3], _ => exact ref_rule_parse4 A c w0 w1 w2 w3 w hr hs
  · by_cases h5 : l.length = 5
    · match l, h5 with
      | [w0, w1, w2, w3, w4], _ => exact ref_rule_parse5 A c w0 w1 w2 w3 w4 w hr hs
    · have HP := Lib.hid (show Rl.parse l = (Ru.zero, 22, 0) by unfold Rl.parse; rw [if_neg (fun h => h4 h.2), if_neg (fun h => h5 h.2)])
      have b4 : ((l.length : Int) == 4) = false := beq_eq_false_iff_ne.2 (by omega)
      have b5 : ((l.length : Int) == 5) = false := beq_eq_false_iff_ne.2 (by omega)
      clear hr hs h4 h5
      go_enter Tryz.func65, Tryz.ntmps65
      go_wp2
      exact bodyPost_ret (v := parseR (Ru.zero, 22, 0)) (by simp [results, Tryz.results65, go_sem, parseR, Ru.zero]) rfl ⟨congrArg (fun r => Ending.returned (parseR r)) HP.out.symm, parse_below _ _ _⟩
end Go.Proofs.YtamhpnenpoamhaaGreat

/- The reference's line of the size. -/
namespace Go.Proofs.YtamhpnenpoamhaaGreat
open Go.RowKit Go.Proofs.YtamhpnenpoamhaaGreatW.PrintWords Go.Proofs.YtamhpnenpoamhaaGreatW.PrintLast

def bsw (l : List ByteArray) (j : Nat) : ByteArray := l.getD j ByteArray.empty
/-- What a line of the size makes of the size: what it is then, the error, which word. -/
def Cf.sizeR (m : Int) (ws : List ByteArray) : Int × Int × Int :=
  if ws.length ≠ 2 then (m, 22, 0) else if 0 < m then (m, 28, 0) else if (Dg.parse (bsw ws 1).data.toList).2 ≠ 0 then (m, (Dg.parse (bsw ws 1).data.toList).2, 1) else
  if ¬ (1 ≤ (Dg.parse (bsw ws 1).data.toList).1 ∧ (Dg.parse (bsw ws 1).data.toList).1 ≤ 1000000) then (m, 29, 1) else ((Dg.parse (bsw ws 1).data.toList).1, 0, 0)
def polR (v : Value) (r : Int × Int × Int) : Value := .tuple #[.agg #[.int .i64 r.1, v], .int .i64 r.2.1, .int .i64 r.2.2]

set_option maxHeartbeats 1000000 in
theorem ref_size (m : Int) (V : Option Addr) (vn vc : Nat) (A : Option Addr) (c : Nat) (l : List ByteArray) (w : World) (hr : Kd.C Kd.string w A l.length l) (hs : ∀ s, s ∈ l → s.size ≤ 9223372036854775807) :
    Calls Tryz.prog 64 #[.agg #[.int .i64 m, .slice V vn vc], .slice A l.length c] w fun x w' => x = .returned (polR (.slice V vn vc) (Cf.sizeR m l)) ∧ Below w.heap.size w w' := by
  have hmax := Kd.C_max hr
  have HP := Lib.hid (show Cf.sizeR m l = if l.length ≠ 2 then (m, 22, 0) else if 0 < m then (m, 28, 0) else if (Dg.parse (bsw l 1).data.toList).2 ≠ 0 then (m, (Dg.parse (bsw l 1).data.toList).2, 1) else
    if ¬ (1 ≤ (Dg.parse (bsw l 1).data.toList).1 ∧ (Dg.parse (bsw l 1).data.toList).1 ≤ 1000000) then (m, 29, 1) else ((Dg.parse (bsw l 1).data.toList).1, 0, 0) from rfl)
  by_cases h2 : l.length = 2
  · obtain ⟨ad, rfl, c1⟩ := Kd.at_string hr 1 (by omega) (by omega)
    have hs1 : (bsw l 1).size ≤ 9223372036854775807 := hs _ (by unfold bsw; rw [List.getD_eq_getElem?_getD, List.getElem?_eq_getElem (by omega)]; exact List.getElem_mem _)
    have N1 := Lib.hid (fun w => ref_digits (bsw l 1) w hs1)
    replace c1 : w.cell? ⟨ad.block, ad.off + 1, none⟩ = some (.string (bsw l 1)) := by simpa [rdOf, bsw, Addr.add] using c1
    generalize bsw l 1 = s at c1 N1 HP
    obtain ⟨n1, hn⟩ : ∃ n, n = (Dg.parse s.data.toList).1 := ⟨_, rfl⟩
    obtain ⟨e1, he⟩ : ∃ n, n = (Dg.parse s.data.toList).2 := ⟨_, rfl⟩
    rw [← hn, ← he] at N1 HP
    have hnr := Dg.parse_range s.data.toList
    rw [← hn] at hnr
    obtain ⟨hnr0, hnr1⟩ := hnr
    have d1 := cell_alloc (cell_alloc c1 (.cells #[.int .i64 m, .slice V vn vc] 28)) (.cells #[.int .i64 0, .slice none 0 0] 28)
    replace HP := Lib.hid (HP.out.trans (if_neg (not_not_intro h2)))
    rw [h2]
    have hh : (l.length : Int) = 2 := by omega
    clear hr hs h2 hh hn he c1 hs1 hmax
    by_cases h1 : 0 < m
    · replace HP := Lib.hid (HP.out.trans (if_pos h1))
      go_enter Tryz.func64, Tryz.ntmps64
      go_wp2
      exact bodyPost_ret (v := polR (.slice V vn vc) (m, 28, 0)) (by simp [results, Tryz.results64, go_sem, polR]) rfl ⟨congrArg (fun r => Ending.returned (polR (.slice V vn vc) r)) HP.out.symm, parse_below _ _ _⟩
    · replace HP := Lib.hid (HP.out.trans (if_neg h1))
      by_cases h2 : e1 = 0
      · have b2 : (e1 != 0) = false := by rw [h2]; rfl
        replace HP := Lib.hid (HP.out.trans (if_neg (not_not_intro h2)))
        clear h2
        by_cases h3 : 1 ≤ n1
        · by_cases h4 : n1 ≤ 1000000
          · replace HP := Lib.hid (HP.out.trans (if_neg (not_not_intro ⟨h3, h4⟩)))
            have h5 : IntKind.i64.wrap n1 = n1 := by rw [IntKind.wrap_i64]; omega
            go_enter Tryz.func64, Tryz.ntmps64
            go_wp2_with fail
            refine (N1.out _).mono ?_
            rintro x w1 ⟨rfl, rfl⟩
            go_wp2
            exact bodyPost_ret (v := polR (.slice V vn vc) (n1, 0, 0)) (by simp [results, Tryz.results64, go_sem, polR]) rfl ⟨congrArg (fun r => Ending.returned (polR (.slice V vn vc) r)) HP.out.symm, parse_below _ _ _⟩
          · replace HP := Lib.hid (HP.out.trans (if_pos (fun h => h4 h.2)))
            go_enter Tryz.func64, Tryz.ntmps64
            go_wp2_with fail
            refine (N1.out _).mono ?_
            rintro x w1 ⟨rfl, rfl⟩
            go_wp2
            exact bodyPost_ret (v := polR (.slice V vn vc) (m, 29, 1)) (by simp [results, Tryz.results64, go_sem, polR]) rfl ⟨congrArg (fun r => Ending.returned (polR (.slice V vn vc) r)) HP.out.symm, parse_below _ _ _⟩
        · replace HP := Lib.hid (HP.out.trans (if_pos (fun h => h3 h.1)))
          go_enter Tryz.func64, Tryz.ntmps64
          go_wp2_with fail
          refine (N1.out _).mono ?_
          rintro x w1 ⟨rfl, rfl⟩
          go_wp2
          exact bodyPost_ret (v := polR (.slice V vn vc) (m, 29, 1)) (by simp [results, Tryz.results64, go_sem, polR]) rfl ⟨congrArg (fun r => Ending.returned (polR (.slice V vn vc) r)) HP.out.symm, parse_below _ _ _⟩
      · have b2 : (e1 != 0) = true := by simpa using h2
        replace HP := Lib.hid (HP.out.trans (if_pos h2))
        clear h2
        go_enter Tryz.func64, Tryz.ntmps64
        go_wp2_with fail
        refine (N1.out _).mono ?_
        rintro x w1 ⟨rfl, rfl⟩
        go_wp2
        exact bodyPost_ret (v := polR (.slice V vn vc) (m, e1, 1)) (by simp [results, Tryz.results64, go_sem, polR]) rfl ⟨congrArg (fun r => Ending.returned (polR (.slice V vn vc) r)) HP.out.symm, parse_below _ _ _⟩
  · replace HP := Lib.hid (HP.out.trans (if_pos h2))
    have b2 : ((l.length : Int) != 2) = true := by simp; omega
    clear hr hs h2
    go_enter Tryz.func64, Tryz.ntmps64
    go_wp2
    exact bodyPost_ret (v := polR (.slice V vn vc) (m, 22, 0)) (by simp [results, Tryz.results64, go_sem, polR]) rfl ⟨congrArg (fun r => Ending.returned (polR (.slice V vn vc) r)) HP.out.symm, parse_below _ _ _⟩
end Go.Proofs.YtamhpnenpoamhaaGreat

/- The reference's line of a text of rules. -/
namespace Go.Proofs.YtamhpnenpoamhaaGreat
open Go.RowKit Go.Proofs.YtamhpnenpoamhaaGreatW.PrintWords Go.Proofs.YtamhpnenpoamhaaGreatW.PrintLast

/-- What a line makes of a policy; the error, and which word. -/
def Cf.oneR (m : Int) (l : List Ru) (ws : List ByteArray) : (Int × List Ru) × Int × Int :=
  if bsw ws 0 = sSize then (((Cf.sizeR m ws).1, l), (Cf.sizeR m ws).2.1, (Cf.sizeR m ws).2.2) else
  if (Rl.parse ws).2.1 ≠ 0 then ((m, l), (Rl.parse ws).2.1, (Rl.parse ws).2.2) else
  if 0 ≤ Cf.find l (Rl.parse ws).1.p then ((m, l), 28, if (Rl.parse ws).1.p = ⟨#[]⟩ then 0 else 1) else
  if ¬ l.length < 1000 then ((m, l), 32, 0) else ((m, l ++ [(Rl.parse ws).1]), 0, 0)
def OnePost (w : World) (o : (Int × List Ru) × Int × Int) (x : Ending) (w' : World) : Prop := ∃ V vc, x = .returned (.tuple #[.agg #[.int .i64 o.1.1, .slice V o.1.2.length vc], .int .i64 o.2.1, .int .i64 o.2.2]) ∧
  kRu.C w' V o.1.2.length o.1.2 ∧ o.1.2.length ≤ vc ∧ Below w.heap.size w w'
theorem OnePost.mk {w : World} {o : (Int × List Ru) × Int × Int} {m e a : Int} {l : List Ru} {V : Option Addr} {vc : Nat} {w' : World} (ho : o = ((m, l), e, a)) (hC : kRu.C w' V l.length l) (hl : l.length ≤ vc) (hb : Below w.heap.size w w') :
    OnePost w o (.returned (.tuple #[.agg #[.int .i64 m, .slice V l.length vc], .int .i64 e, .int .i64 a])) w' := by
  subst ho; exact ⟨V, vc, rfl, hC, hl, hb⟩
theorem size_set (w : World) (a : Addr) (v : Value) : (w.setCell a v).heap.size = w.heap.size := by simp [World.setCell]
/-- Two stores into block b, which is new. -/
theorem below_set2 {w W : World} {b : Nat} (h : Below w.heap.size w W) (hb : w.heap.size ≤ b) (u v : Value) : Below w.heap.size w ((W.setCell ⟨b, 0, none⟩ u).setCell ⟨b, 1, none⟩ v) :=
  below_grown (below_grown h h.size (grown_set W b 0 u) hb) (by rw [size_set]; exact h.size) (grown_set _ b 1 v) hb

set_option maxHeartbeats 4000000 in
set_option maxRecDepth 100000 in
theorem ref_one (m : Int) (V : Option Addr) (vc : Nat) (l : List Ru) (A : Option Addr) (c : Nat) (ws : List ByteArray) (w : World) (hl : kRu.C w V l.length l) (hvc : l.length ≤ vc) (hll : l.length ≤ 1000) (hr : Kd.C Kd.string w A ws.length ws) (h0 : 0 < ws.length) (hs : ∀ s, s ∈ ws → s.size ≤ 9223372036854775807) :
    Calls Tryz.prog 42 #[.agg #[.int .i64 m, .slice V l.length vc], .slice A ws.length c] w (OnePost w (Cf.oneR m l ws)) := by
  have hmax := Kd.C_max hr
  have HP := Lib.hid (show Cf.oneR m l ws = if bsw ws 0 = sSize then (((Cf.sizeR m ws).1, l), (Cf.sizeR m ws).2.1, (Cf.sizeR m ws).2.2) else
    if (Rl.parse ws).2.1 ≠ 0 then ((m, l), (Rl.parse ws).2.1, (Rl.parse ws).2.2) else
    if 0 ≤ Cf.find l (Rl.parse ws).1.p then ((m, l), 28, if (Rl.parse ws).1.p = ⟨#[]⟩ then 0 else 1) else
    if ¬ l.length < 1000 then ((m, l), 32, 0) else ((m, l ++ [(Rl.parse ws).1]), 0, 0) from rfl)
  obtain ⟨W2, hW2⟩ : ∃ W2, W2 = (w.alloc (.cells #[.int .i64 m, .slice V l.length vc] 28)).alloc (.cells #[.int .i64 0, .slice none 0 0] 28) := ⟨_, rfl⟩
  obtain ⟨ad, rfl, c0⟩ := Kd.at_string hr 0 (by omega) (by omega)
  replace c0 : w.cell? ad = some (.string (bsw ws 0)) := by simpa [rdOf, bsw, addr_zero] using c0
  have d0 : W2.cell? ad = some (.string (bsw ws 0)) := by rw [hW2]; exact cell_alloc (cell_alloc c0 _) _
  have HB2 := Lib.hid (show Below w.heap.size w W2 by rw [hW2]; exact parse_below _ _ _)
  have hsz2 : W2.heap.size = w.heap.size + 2 := by rw [hW2]; simp
  have HT2 := Lib.hid (show Blk W2 w.heap.size #[.int .i64 m, .slice V l.length vc] 28 by rw [hW2]; exact (Blk.new _ _ _).alloc _)
  have HT4 := Lib.hid (show Blk W2 (w.heap.size + 1) #[.int .i64 0, .slice none 0 0] 28 by rw [hW2]; exact Blk.new_at (by simp))
  have HL2 := Lib.hid (Kd.C_below hl HB2.out)
  have HLW := Lib.hid hl
  have SZ := Lib.hid (ref_size m V l.length vc (some ad) c ws W2 (Kd.C_below hr HB2.out) hs)
  have RP := Lib.hid (ref_rule_parse (some ad) c ws W2 (Kd.C_below hr HB2.out) hs)
  have HSZ2 := Lib.hid hsz2
  have t20 := HT2.out.cell_at 0 (.int .i64 m) rfl
  have t21 := HT2.out.cell_at 1 (.slice V l.length vc) rfl
  have h0z : (0 : Int) < (ws.length : Int) := by omega
  clear hr hs c0 hl hsz2
  subst hW2
  generalize bsw ws 0 = s at HP d0
  by_cases hsz : s = sSize
  · have hb : (s.toList == [115, 105, 122, 101]) = true := by rw [hsz, Lib.toList_data]; rfl
    replace HP := Lib.hid (HP.out.trans (if_pos hsz))
    clear hsz RP
    generalize Cf.sizeR m ws = r at SZ HP
    obtain ⟨r1, r2, r3⟩ := r
    simp only [polR] at SZ HP
    go_enter Tryz.func42, Tryz.ntmps42
    go_wp2_with fail
    refine SZ.out.mono ?_
    rintro x w1 ⟨rfl, hb1⟩
    have HB1 := Lib.hid hb1; clear hb1
    have B4 := (HT4.out.below HB1.out HT4.out.lt).alloc (.cells #[.int .i64 r1, .slice V l.length vc] 28)
    have HB4 := Lib.hid B4
    have f40 := B4.free 0
    have f41 := B4.free 1
    have q40 := B4.cell_at 0 (.int .i64 0) rfl
    have q41 := B4.cell_at 1 (.slice none 0 0) rfl
    clear B4
    -- LEAF A
    go_wp2
    have hbl := (HB2.out.trans (HB1.out.mono (by rw [HSZ2.out]; omega))).alloc (by have := HB1.out.size; rw [HSZ2.out] at this; omega) (.cells #[.int .i64 r1, .slice V l.length vc] 28)
    have L4 := (HB4.out.set 0 (.int .i64 r1)).set 1 (.slice V l.length vc)
    have m0 := L4.cell_at 0 (.int .i64 r1) (by simp)
    have m1 := L4.cell_at 1 (.slice V l.length vc) (by simp)
    have bl := below_set2 (b := w.heap.size + 1) hbl (by omega) (.int .i64 r1) (.slice V l.length vc)
    exact bodyPost_ret (v := .tuple #[.agg #[.int .i64 r1, .slice V l.length vc], .int .i64 r2, .int .i64 r3]) (by simp [results, Tryz.results42, go_sem, m0, m1]) rfl (OnePost.mk HP.out (Kd.C_below HLW.out bl) hvc bl)
  · have hb : (s.toList == [115, 105, 122, 101]) = false := by
      have := bytes_beq s sSize
      rw [show sSize.toList = [115, 105, 122, 101] by rw [Lib.toList_data]; rfl] at this
      rw [this]; exact decide_eq_false hsz
    replace HP := Lib.hid (HP.out.trans (if_neg hsz))
    clear hsz SZ
    generalize Rl.parse ws = r at RP HP
    obtain ⟨⟨op, oe, ou, ok⟩, e1, a1⟩ := r
    simp only [parseR] at RP HP
    by_cases he : e1 = 0
    · have b1 : (e1 != 0) = false := by rw [he]; rfl
      replace HP := Lib.hid (HP.out.trans (if_neg (not_not_intro he)))
      clear he
      obtain ⟨fi, hfi⟩ : ∃ f, f = Cf.find l op := ⟨_, rfl⟩
      rw [← hfi] at HP
      have HFI := Lib.hid hfi; clear hfi
      by_cases hf : 0 ≤ fi
      · replace HP := Lib.hid (HP.out.trans (if_pos hf))
        by_cases hp : op = ⟨#[]⟩
        · have bp : op.toList.isEmpty = true := by rw [hp, Lib.toList_data]; rfl
          rw [if_pos hp] at HP
          clear hp
          go_enter Tryz.func42, Tryz.ntmps42
          go_wp2_with fail
          refine RP.out.mono ?_
          rintro x w1 ⟨rfl, hb1⟩
          have HB1 := Lib.hid hb1; clear hb1
          have hs1 : w.heap.size + 2 ≤ w1.heap.size := by have := HB1.out.size; rw [HSZ2.out] at this; exact this
          have B4 := (HT4.out.below HB1.out HT4.out.lt).alloc (.cells #[.string op, .int .u64 oe, .int .u64 ou, .int .u8 ok] 37)
          have HB4 := Lib.hid B4
          have f40 := B4.free 0
          have f41 := B4.free 1
          have q40 := B4.cell_at 0 (.int .i64 0) rfl
          have q41 := B4.cell_at 1 (.slice none 0 0) rfl
          clear B4
          have B2 := (HT2.out.below HB1.out HT2.out.lt).alloc (.cells #[.string op, .int .u64 oe, .int .u64 ou, .int .u8 ok] 37)
          have HB2b := Lib.hid B2
          have f20 := B2.free 0
          have f21 := B2.free 1
          have q20 := B2.cell_at 0 (.int .i64 m) rfl
          have q21 := B2.cell_at 1 (.slice V l.length vc) rfl
          clear B2
          have B10 := Blk.new w1 #[.string op, .int .u64 oe, .int .u64 ou, .int .u8 ok] 37
          have HB10 := Lib.hid B10
          have p0 := B10.cell_at 0 (.string op) rfl
          have p1 := B10.cell_at 1 (.int .u64 oe) rfl
          have p2 := B10.cell_at 2 (.int .u64 ou) rfl
          have p3 := B10.cell_at 3 (.int .u8 ok) rfl
          clear B10
          have HBL := Lib.hid ((HB2.out.trans (HB1.out.mono (by rw [HSZ2.out]; omega))).alloc (by omega) (.cells #[.string op, .int .u64 oe, .int .u64 ou, .int .u8 ok] 37))
          have FI := Lib.hid (ref_find V vc l op (w1.alloc (.cells #[.string op, .int .u64 oe, .int .u64 ou, .int .u8 ok] 37)) (Kd.C_below HLW.out HBL.out))
          rw [← HFI.out] at FI
          go_wp2_with fail
          refine FI.out.mono ?_
          rintro x w2 ⟨rfl, rfl⟩
          go_wp2
          have L4 := (HB4.out.set 0 (.int .i64 m)).set 1 (.slice V l.length vc)
          have m0 := L4.cell_at 0 (.int .i64 m) (by simp)
          have m1 := L4.cell_at 1 (.slice V l.length vc) (by simp)
          have bl := below_set2 (b := w.heap.size + 1) HBL.out (by omega) (.int .i64 m) (.slice V l.length vc)
          exact bodyPost_ret (v := .tuple #[.agg #[.int .i64 m, .slice V l.length vc], .int .i64 28, .int .i64 0]) (by simp [results, Tryz.results42, go_sem, m0, m1]) rfl (OnePost.mk HP.out (Kd.C_below HLW.out bl) hvc bl)
        · have bp : op.toList.isEmpty = false := by
            rw [Bool.eq_false_iff]; intro h; rw [List.isEmpty_iff] at h
            refine hp ?_
            have := bytes_beq op ⟨#[]⟩
            rw [h, show (⟨#[]⟩ : ByteArray).toList = [] by rw [Lib.toList_data]] at this
            exact of_decide_eq_true this.symm
          rw [if_neg hp] at HP
          clear hp
          go_enter Tryz.func42, Tryz.ntmps42
          go_wp2_with fail
          refine RP.out.mono ?_
          rintro x w1 ⟨rfl, hb1⟩
          have HB1 := Lib.hid hb1; clear hb1
          have hs1 : w.heap.size + 2 ≤ w1.heap.size := by have := HB1.out.size; rw [HSZ2.out] at this; exact this
          have B4 := (HT4.out.below HB1.out HT4.out.lt).alloc (.cells #[.string op, .int .u64 oe, .int .u64 ou, .int .u8 ok] 37)
          have HB4 := Lib.hid B4
          have f40 := B4.free 0
          have f41 := B4.free 1
          have q40 := B4.cell_at 0 (.int .i64 0) rfl
          have q41 := B4.cell_at 1 (.slice none 0 0) rfl
          clear B4
          have B2 := (HT2.out.below HB1.out HT2.out.lt).alloc (.cells #[.string op, .int .u64 oe, .int .u64 ou, .int .u8 ok] 37)
          have HB2b := Lib.hid B2
          have f20 := B2.free 0
          have f21 := B2.free 1
          have q20 := B2.cell_at 0 (.int .i64 m) rfl
          have q21 := B2.cell_at 1 (.slice V l.length vc) rfl
          clear B2
          have B10 := Blk.new w1 #[.string op, .int .u64 oe, .int .u64 ou, .int .u8 ok] 37
          have HB10 := Lib.hid B10
          have p0 := B10.cell_at 0 (.string op) rfl
          have p1 := B10.cell_at 1 (.int .u64 oe) rfl
          have p2 := B10.cell_at 2 (.int .u64 ou) rfl
          have p3 := B10.cell_at 3 (.int .u8 ok) rfl
          clear B10
          have HBL := Lib.hid ((HB2.out.trans (HB1.out.mono (by rw [HSZ2.out]; omega))).alloc (by omega) (.cells #[.string op, .int .u64 oe, .int .u64 ou, .int .u8 ok] 37))
          have FI := Lib.hid (ref_find V vc l op (w1.alloc (.cells #[.string op, .int .u64 oe, .int .u64 ou, .int .u8 ok] 37)) (Kd.C_below HLW.out HBL.out))
          rw [← HFI.out] at FI
          go_wp2_with fail
          refine FI.out.mono ?_
          rintro x w2 ⟨rfl, rfl⟩
          go_wp2
          have L4 := (HB4.out.set 0 (.int .i64 m)).set 1 (.slice V l.length vc)
          have m0 := L4.cell_at 0 (.int .i64 m) (by simp)
          have m1 := L4.cell_at 1 (.slice V l.length vc) (by simp)
          have bl := below_set2 (b := w.heap.size + 1) HBL.out (by omega) (.int .i64 m) (.slice V l.length vc)
          exact bodyPost_ret (v := .tuple #[.agg #[.int .i64 m, .slice V l.length vc], .int .i64 28, .int .i64 1]) (by simp [results, Tryz.results42, go_sem, m0, m1]) rfl (OnePost.mk HP.out (Kd.C_below HLW.out bl) hvc bl)
      · replace HP := Lib.hid (HP.out.trans (if_neg hf))
        by_cases hn : l.length < 1000
        · have bn : decide ((1000 : Int) ≤ (l.length : Int)) = false := decide_eq_false (by omega)
          replace HP := Lib.hid (HP.out.trans (if_neg (not_not_intro hn)))
          go_enter Tryz.func42, Tryz.ntmps42
          go_wp2_with fail
          refine RP.out.mono ?_
          rintro x w1 ⟨rfl, hb1⟩
          have HB1 := Lib.hid hb1; clear hb1
          have hs1 : w.heap.size + 2 ≤ w1.heap.size := by have := HB1.out.size; rw [HSZ2.out] at this; exact this
          have B4 := (HT4.out.below HB1.out HT4.out.lt).alloc (.cells #[.string op, .int .u64 oe, .int .u64 ou, .int .u8 ok] 37)
          have HB4 := Lib.hid B4
          have f40 := B4.free 0
          have f41 := B4.free 1
          have q40 := B4.cell_at 0 (.int .i64 0) rfl
          have q41 := B4.cell_at 1 (.slice none 0 0) rfl
          clear B4
          have B2 := (HT2.out.below HB1.out HT2.out.lt).alloc (.cells #[.string op, .int .u64 oe, .int .u64 ou, .int .u8 ok] 37)
          have HB2b := Lib.hid B2
          have f20 := B2.free 0
          have f21 := B2.free 1
          have q20 := B2.cell_at 0 (.int .i64 m) rfl
          have q21 := B2.cell_at 1 (.slice V l.length vc) rfl
          clear B2
          have B10 := Blk.new w1 #[.string op, .int .u64 oe, .int .u64 ou, .int .u8 ok] 37
          have HB10 := Lib.hid B10
          have p0 := B10.cell_at 0 (.string op) rfl
          have p1 := B10.cell_at 1 (.int .u64 oe) rfl
          have p2 := B10.cell_at 2 (.int .u64 ou) rfl
          have p3 := B10.cell_at 3 (.int .u8 ok) rfl
          clear B10
          have HBL := Lib.hid ((HB2.out.trans (HB1.out.mono (by rw [HSZ2.out]; omega))).alloc (by omega) (.cells #[.string op, .int .u64 oe, .int .u64 ou, .int .u8 ok] 37))
          have FI := Lib.hid (ref_find V vc l op (w1.alloc (.cells #[.string op, .int .u64 oe, .int .u64 ou, .int .u8 ok] 37)) (Kd.C_below HLW.out HBL.out))
          rw [← HFI.out] at FI
          go_wp2_with fail
          refine FI.out.mono ?_
          rintro x w2 ⟨rfl, rfl⟩
          -- LEAF F
          have HC3 := Lib.hid (Kd.C_below HLW.out HBL.out)
          have b4 : w.heap.size + 1 < w1.heap.size := by omega
          obtain ⟨W3, hW3⟩ : ∃ W3, W3 = w1.alloc (.cells #[.string op, .int .u64 oe, .int .u64 ou, .int .u8 ok] 37) := ⟨_, rfl⟩
          rw [← hW3] at f40 f41 q40 q41 f20 f21 q20 q21 p0 p1 p2 p3 HB4 HB2b HB10 HBL HC3 ⊢
          have hs3 : W3.heap.size = w1.heap.size + 1 := by rw [hW3]; simp
          have HW3 := Lib.hid hW3
          clear FI hW3
          go_wp2_with (first | (at_builtin; refine Kd.R_append_rows kRu (w0 := W3) (W := W3) W3.heap.size rfl (.tmp 55) (.tmp 57) 26 37 _ 40 rfl (by kernel_rfl) rules_info rfl (by decide) (by decide) (.slice none 0 0) [] l V l.length vc (fun _ => True) (fun _ => False) rfl rfl (Kd.R_nil _ _ _ _ _) HC3.out (fun x cs h => by rw [kRu_K h]; exact kRu_M) (fun _ h => h.elim) (fun _ _ => trivial) (Below.refl _ _) (Nat.le_refl _) (by simp; omega) ?_; intro v1 w4 hR1 hB4 hg4 hat4; have HR1 := Lib.hid hR1; have HBB4 := Lib.hid hB4; clear hR1 hB4 hg4 hat4; have x0 := (HB10.out.below HBB4.out HB10.out.lt).cell_at 0 (.string op) rfl; have x1 := (HB10.out.below HBB4.out HB10.out.lt).cell_at 1 (.int .u64 oe) rfl; have x2 := (HB10.out.below HBB4.out HB10.out.lt).cell_at 2 (.int .u64 ou) rfl; have x3 := (HB10.out.below HBB4.out HB10.out.lt).cell_at 3 (.int .u8 ok) rfl) | (at_builtin; refine Kd.R_append kRu (w0 := W3) (W := w4) W3.heap.size rfl (.tmp 59) (.tmp 61) 26 37 _ 40 rfl (by kernel_rfl) rules_info rfl (by decide) (by decide) v1 ([] ++ l) ⟨op, oe, ou, ok⟩ (Ru.cells ⟨op, oe, ou, ok⟩) (fun _ => True) (fun _ => False) rfl rfl kRu_M (fun _ h => h.elim) (fun _ _ => trivial) HR1.out HBB4.out HBB4.out.size (by simp; omega) ?_; intro v2 w5 hR2 hB5 hg5 hat5; rw [List.nil_append] at hR2; obtain ⟨L, hL⟩ : ∃ L, L = l ++ [⟨op, oe, ou, ok⟩] := ⟨_, rfl⟩; rw [← hL] at hR2; obtain ⟨V2, c2, hv2, hc2, hC2⟩ := Kd.R_reads hR2; subst hv2; have HL := Lib.hid hL; have HC5 := Lib.hid hR2; have HB5 := Lib.hid hB5; clear hL hC2 hR2 hB5 hg5 hat5 HR1 HBB4 x0 x1 x2 x3; have B2 := HB2b.out.below HB5.out HB2b.out.lt; have B4 := HB4.out.below HB5.out HB4.out.lt; have z20 := B2.cell_at 0 (.int .i64 m) rfl; have z21 := B2.cell_at 1 (.slice V l.length vc) rfl; have g20 := B2.free 0; have g21 := B2.free 1; have z40 := B4.cell_at 0 (.int .i64 0) rfl; have z41 := B4.cell_at 1 (.slice none 0 0) rfl; have g40 := B4.free 0; have g41 := B4.free 1; have HD4 := Lib.hid B4; clear B2 B4))
          have hszz := HB5.out.size
          have L4 := ((HD4.out.far (b' := w.heap.size) (by omega) 1 (.slice V2 L.length c2)).set 0 (.int .i64 m)).set 1 (.slice V2 L.length c2)
          have m0 := L4.cell_at 0 (.int .i64 m) (by simp)
          have m1 := L4.cell_at 1 (.slice V2 L.length c2) (by simp)
          have bl0 := HBL.out.trans (HB5.out.mono (by omega))
          have bl1 := below_grown bl0 bl0.size (grown_set w5 w.heap.size 1 (.slice V2 L.length c2)) (Nat.le_refl _)
          have bl := below_set2 (b := w.heap.size + 1) bl1 (by omega) (.int .i64 m) (.slice V2 L.length c2)
          have hR := R_low (R_low (R_low HC5.out (b := w.heap.size) (by omega) 1 (.slice V2 L.length c2)) (b := w.heap.size + 1) (by omega) 0 (.int .i64 m)) (b := w.heap.size + 1) (by omega) 1 (.slice V2 L.length c2)
          obtain ⟨V3, c3, hv3, hc3, hC3⟩ := Kd.R_reads hR
          injection hv3 with e1 e2 e3
          subst e1 e3
          rw [← HL.out] at HP
          exact bodyPost_ret (v := .tuple #[.agg #[.int .i64 m, .slice V2 L.length c2], .int .i64 0, .int .i64 0]) (by simp [results, Tryz.results42, go_sem, m0, m1]) rfl (OnePost.mk HP.out hC3 hc3 bl)
        · have bn : decide ((1000 : Int) ≤ (l.length : Int)) = true := decide_eq_true (by omega)
          replace HP := Lib.hid (HP.out.trans (if_pos hn))
          have hn' : (1000 : Int) ≤ (l.length : Int) := by omega
          clear hn
          go_enter Tryz.func42, Tryz.ntmps42
          go_wp2_with fail
          refine RP.out.mono ?_
          rintro x w1 ⟨rfl, hb1⟩
          have HB1 := Lib.hid hb1; clear hb1
          have hs1 : w.heap.size + 2 ≤ w1.heap.size := by have := HB1.out.size; rw [HSZ2.out] at this; exact this
          have B4 := (HT4.out.below HB1.out HT4.out.lt).alloc (.cells #[.string op, .int .u64 oe, .int .u64 ou, .int .u8 ok] 37)
          have HB4 := Lib.hid B4
          have f40 := B4.free 0
          have f41 := B4.free 1
          have q40 := B4.cell_at 0 (.int .i64 0) rfl
          have q41 := B4.cell_at 1 (.slice none 0 0) rfl
          clear B4
          have B2 := (HT2.out.below HB1.out HT2.out.lt).alloc (.cells #[.string op, .int .u64 oe, .int .u64 ou, .int .u8 ok] 37)
          have HB2b := Lib.hid B2
          have f20 := B2.free 0
          have f21 := B2.free 1
          have q20 := B2.cell_at 0 (.int .i64 m) rfl
          have q21 := B2.cell_at 1 (.slice V l.length vc) rfl
          clear B2
          have B10 := Blk.new w1 #[.string op, .int .u64 oe, .int .u64 ou, .int .u8 ok] 37
          have HB10 := Lib.hid B10
          have p0 := B10.cell_at 0 (.string op) rfl
          have p1 := B10.cell_at 1 (.int .u64 oe) rfl
          have p2 := B10.cell_at 2 (.int .u64 ou) rfl
          have p3 := B10.cell_at 3 (.int .u8 ok) rfl
          clear B10
          have HBL := Lib.hid ((HB2.out.trans (HB1.out.mono (by rw [HSZ2.out]; omega))).alloc (by omega) (.cells #[.string op, .int .u64 oe, .int .u64 ou, .int .u8 ok] 37))
          have FI := Lib.hid (ref_find V vc l op (w1.alloc (.cells #[.string op, .int .u64 oe, .int .u64 ou, .int .u8 ok] 37)) (Kd.C_below HLW.out HBL.out))
          rw [← HFI.out] at FI
          go_wp2_with fail
          refine FI.out.mono ?_
          rintro x w2 ⟨rfl, rfl⟩
          go_wp2
          have L4 := (HB4.out.set 0 (.int .i64 m)).set 1 (.slice V l.length vc)
          have m0 := L4.cell_at 0 (.int .i64 m) (by simp)
          have m1 := L4.cell_at 1 (.slice V l.length vc) (by simp)
          have bl := below_set2 (b := w.heap.size + 1) HBL.out (by omega) (.int .i64 m) (.slice V l.length vc)
          exact bodyPost_ret (v := .tuple #[.agg #[.int .i64 m, .slice V l.length vc], .int .i64 32, .int .i64 0]) (by simp [results, Tryz.results42, go_sem, m0, m1]) rfl (OnePost.mk HP.out (Kd.C_below HLW.out bl) hvc bl)
    · have b1 : (e1 != 0) = true := by simpa using he
      replace HP := Lib.hid (HP.out.trans (if_pos he))
      clear he
      go_enter Tryz.func42, Tryz.ntmps42
      go_wp2_with fail
      refine RP.out.mono ?_
      rintro x w1 ⟨rfl, hb1⟩
      have HB1 := Lib.hid hb1; clear hb1
      have hs1 : w.heap.size + 2 ≤ w1.heap.size := by have := HB1.out.size; rw [HSZ2.out] at this; exact this
      have B4 := (HT4.out.below HB1.out HT4.out.lt).alloc (.cells #[.string op, .int .u64 oe, .int .u64 ou, .int .u8 ok] 37)
      have HB4 := Lib.hid B4
      have f40 := B4.free 0
      have f41 := B4.free 1
      have q40 := B4.cell_at 0 (.int .i64 0) rfl
      have q41 := B4.cell_at 1 (.slice none 0 0) rfl
      clear B4
      have B2 := (HT2.out.below HB1.out HT2.out.lt).alloc (.cells #[.string op, .int .u64 oe, .int .u64 ou, .int .u8 ok] 37)
      have HB2b := Lib.hid B2
      have f20 := B2.free 0
      have f21 := B2.free 1
      have q20 := B2.cell_at 0 (.int .i64 m) rfl
      have q21 := B2.cell_at 1 (.slice V l.length vc) rfl
      clear B2
      have B10 := Blk.new w1 #[.string op, .int .u64 oe, .int .u64 ou, .int .u8 ok] 37
      have HB10 := Lib.hid B10
      have p0 := B10.cell_at 0 (.string op) rfl
      have p1 := B10.cell_at 1 (.int .u64 oe) rfl
      have p2 := B10.cell_at 2 (.int .u64 ou) rfl
      have p3 := B10.cell_at 3 (.int .u8 ok) rfl
      clear B10
      have HBL := Lib.hid ((HB2.out.trans (HB1.out.mono (by rw [HSZ2.out]; omega))).alloc (by omega) (.cells #[.string op, .int .u64 oe, .int .u64 ou, .int .u8 ok] 37))
      have FI := Lib.hid (ref_find V vc l op (w1.alloc (.cells #[.string op, .int .u64 oe, .int .u64 ou, .int .u8 ok] 37)) (Kd.C_below HLW.out HBL.out))
      go_wp2
      have L4 := (HB4.out.set 0 (.int .i64 m)).set 1 (.slice V l.length vc)
      have m0 := L4.cell_at 0 (.int .i64 m) (by simp)
      have m1 := L4.cell_at 1 (.slice V l.length vc) (by simp)
      have bl := below_set2 (b := w.heap.size + 1) HBL.out (by omega) (.int .i64 m) (.slice V l.length vc)
      exact bodyPost_ret (v := .tuple #[.agg #[.int .i64 m, .slice V l.length vc], .int .i64 e1, .int .i64 a1]) (by simp [results, Tryz.results42, go_sem, m0, m1]) rfl (OnePost.mk HP.out (Kd.C_below HLW.out bl) hvc bl)
end Go.Proofs.YtamhpnenpoamhaaGreat

/- The reference's Order of rules: sorted, and stable. -/
namespace Go.Proofs.YtamhpnenpoamhaaGreat
open Go.RowKit Go.Sort Go.Proofs.YtamhpnenpoamhaaGreatW.PrintWords Go.Proofs.YtamhpnenpoamhaaGreatW.PrintLast

theorem SortedR.insert {l xs : List Ru} {x : Ru} (h : SortedR l xs) (k : Nat) (hk : k ≤ l.length) (h1 : ∀ y ∈ l.drop k, ltR x y = true) (h2 : k = 0 ∨ ∃ y, l[k - 1]? = some y ∧ ltR x y = false) :
    SortedR (l.take k ++ [x] ++ l.drop k) (xs ++ [x]) := by
  have e : l.take k ++ l.drop k = l := List.take_append_drop k l
  have hs : St.Srt ltR (l.take k ++ l.drop k) := by rw [e]; exact h.1
  have hp : St.SP ltR (l.take k ++ l.drop k) xs := by rw [e]; exact h.2
  have := St.insert_one swo_ltR hs hp h1 (St.before swo_ltR h.1 k hk h2)
  rw [List.append_assoc, List.singleton_append]
  exact this
theorem SortedR.len {l xs : List Ru} (h : SortedR l xs) : l.length = xs.length := h.2.length
theorem SortedR.nil : SortedR [] [] := ⟨List.Pairwise.nil, St.SP.refl _⟩
theorem cut_CT {α : Type} (d : Kd α) {P : Program} (t e : TypeId) {i : TypeInfo} (ht : P.underlying t = some (.slice e)) (hi : P.info? e = some i) (hsz : i.size = d.sz) (A : Option Addr) (c : Nat) (xs : List α) (k : Nat) (hk : k ≤ xs.length) (hc : xs.length ≤ c) :
    (∀ W : World, (Instr.slice t (.slice A xs.length c) none (some (.int .i64 k)) none).run P W = .ok (.slice A k c) W) ∧ (∀ w, d.C w A xs.length xs → d.C w A k (xs.take k)) ∧
    ∃ A', (∀ W : World, (Instr.slice t (.slice A xs.length c) (some (.int .i64 k)) none none).run P W = .ok (.slice A' (xs.length - k) (c - k)) W) ∧ ∀ w, d.C w A xs.length xs → d.C w A' (xs.length - k) (xs.drop k) := by
  refine ⟨fun W => ?_, fun w h => ?_, if c = k then A else A.map (·.add (k * d.sz)), fun W => ?_, fun w h => ?_⟩
  · have := cut_to t e .i64 ht hi A xs.length c k (by omega) (by omega) hc W
    rwa [Int.toNat_natCast] at this
  · have := Kd.C_take (m := k) h hk
    rwa [List.length_take, Nat.min_eq_left hk] at this
  · have := cut_from t e .i64 ht hi d.sz hsz A xs.length c k (by omega) (by omega) W
    rwa [Int.toNat_natCast] at this
  · have := Kd.C_drop (c := c) h hk hc
    rwa [List.length_drop] at this

/-- The reference's Order at rule k. -/
structure ROrAt (W : World) (l : List Ru) (k : Nat) (v : Value) (wr : World) : Prop where
  bel : Below W.heap.size W wr
  row : ∃ L, SortedR L (l.take k) ∧ kRu.R 37 wr W.heap.size (fun _ => True) v L
theorem rule_take {l : List Ru} {k : Nat} (hk : k < l.length) : l.take (k + 1) = l.take k ++ [l.getD k Ru.zero] := by
  rw [List.take_succ_eq_append_getElem hk, List.getD_eq_getElem?_getD, List.getElem?_eq_getElem hk]; rfl

def OrdPost (m : Int) (l : List Ru) (w : World) (x : Ending) (w' : World) : Prop := ∃ l' V vc, SortedR l' l ∧ x = .returned (.agg #[.int .i64 m, .slice V l'.length vc]) ∧ kRu.R 37 w' w.heap.size (fun _ => True) (.slice V l'.length vc) l' ∧ Below w.heap.size w w'
set_option maxHeartbeats 8000000 in
set_option maxRecDepth 100000 in
theorem ref_order (m : Int) (A : Option Addr) (c : Nat) (l : List Ru) (w : World) (hc : kRu.C w A l.length l) (hle : l.length ≤ c) (hl : l.length ≤ 1000000) (hs : ∀ r ∈ l, r.p.size ≤ 9223372036854775807) :
    Calls Tryz.prog 22 #[.agg #[.int .i64 m, .slice A l.length c]] w (OrdPost m l w) := by
  have hmax := Kd.C_max hc
  obtain ⟨W, hW⟩ : ∃ W, W = (w.alloc (.cells #[.int .i64 m, .slice A l.length c] 28)).alloc (.cells #[.int .i64 0, .slice none 0 0] 28) := ⟨_, rfl⟩
  have HBW := Lib.hid (show Below w.heap.size w W by rw [hW]; exact parse_below _ _ _)
  have HSW := Lib.hid (show W.heap.size = w.heap.size + 2 by rw [hW]; simp)
  have HT1 := Lib.hid (show Blk W w.heap.size #[.int .i64 m, .slice A l.length c] 28 by rw [hW]; exact (Blk.new _ _ _).alloc _)
  have HT2 := Lib.hid (show Blk W (w.heap.size + 1) #[.int .i64 0, .slice none 0 0] 28 by rw [hW]; exact Blk.new_at (by simp))
  have HC := Lib.hid (Kd.C_below hc HBW.out)
  have HSS := Lib.hid hs
  obtain ⟨iu, hiu, hsu⟩ := Option.map_eq_some_iff.1 (show (Tryz.prog.info? 37).map (fun i => i.size) = some 4 by kernel_rfl)
  have CUT := Lib.hid (cut_CT (P := Tryz.prog) kRu 26 37 (by kernel_rfl) hiu hsu)
  have hlz : (l.length : Int) ≤ 1000000 := by omega
  clear hc hs hiu hsu
  go_enter Tryz.func22, Tryz.ntmps22
  go_wp2
  rw [← hW]
  clear hW
  go_loopw [3, 4] (fun v kv wr => ∃ (k : Nat), kv = .int .i64 k ∧ k ≤ l.length ∧ Aside1 (ROrAt W l k v wr)) (fun _ kv _ => l.length - (intOf kv).toNat)
  case atStart => exact ⟨0, rfl, Nat.zero_le _, ⟨⟨Below.refl _ _, [], SortedR.nil, Kd.R_nil _ _ _ _ _⟩⟩⟩
  case round =>
    obtain ⟨k, rfl, hk, HH⟩ := hrel
    obtain ⟨L, hL, hR⟩ := HH.out.row
    have HBEL := Lib.hid HH.out.bel
    obtain ⟨V1, c1, hv1, hc1, hC1⟩ := Kd.R_reads hR
    subst hv1
    have hLl : L.length = k := by rw [hL.len, List.length_take]; omega
    have HL := Lib.hid hL; have HLL := Lib.hid hLl; have HR := Lib.hid hR; have HC1 := Lib.hid hC1
    have B1 := HT1.out.below HBEL.out HT1.out.lt
    have x0 := B1.cell_at 0 (.int .i64 m) rfl
    have x1 := B1.cell_at 1 (.slice A l.length c) rfl
    have HB1 := Lib.hid B1
    clear B1 HH hL hLl hR hC1
    by_cases hlt : k < l.length
    · have hltz : (k : Int) < (l.length : Int) := by omega
      obtain ⟨ad, hA, p0, p1, p2, p3⟩ := rule_cells (Kd.C_below HC.out HBEL.out) k hlt
      subst hA
      obtain ⟨r, hr⟩ : ∃ r, r = l.getD k Ru.zero := ⟨_, rfl⟩
      rw [← hr] at p0 p1 p2 p3
      have HSR := Lib.hid (show r.p.size ≤ 9223372036854775807 from HSS.out _ (by rw [hr, List.getD_eq_getElem?_getD, List.getElem?_eq_getElem hlt]; exact List.getElem_mem hlt))
      have HRR := Lib.hid hr; clear hr
      go_wp2
      obtain ⟨wo, hwo⟩ : ∃ wo : World, wo = wr := ⟨_, rfl⟩
      subst hwo
      go_loopw [5] (fun av w2 => ∃ (a : Nat), av = .int .i64 a ∧ a ≤ k ∧ Aside1 ((∀ y ∈ L.drop a, ltR r y = true) ∧ ∃ q, w2 = wo.drewN q)) (fun av _ => (intOf av).toNat)
      case atStart => exact ⟨L.length, rfl, by rw [HLL.out]; exact Nat.le_refl _, ⟨fun y hy => by rw [List.drop_of_length_le (Nat.le_refl _)] at hy; simp at hy, 0, rfl⟩⟩
      case round =>
        obtain ⟨a, rfl, ha, HJ⟩ := hrel
        obtain ⟨HJ1, q, hq⟩ := HJ.out
        have HJ1 := Lib.hid HJ1
        have x0' : wr.cell? ⟨w.heap.size, 0, none⟩ = some (.int .i64 m) := by rw [hq]; exact x0
        have x1' : wr.cell? ⟨w.heap.size, 1, none⟩ = some (.slice (some ad) l.length c) := by rw [hq]; exact x1
        have p0' : wr.cell? (ad.add (k * 4)) = some (.string r.p) := by rw [hq]; exact p0
        have HQ := Lib.hid hq
        clear HJ hq
        by_cases ha0 : 0 < a
        · have haz : (0 : Int) < (a : Int) := by omega
          obtain ⟨ad2, hA2, q0, _⟩ := rule_cells HC1.out (a - 1) (by rw [HLL.out]; omega)
          have ei : ((a : Int) - 1).toNat = a - 1 := by omega
          have hw1 : IntKind.i64.wrap ((a : Int) - 1) = (a : Int) - 1 := by rw [IntKind.wrap_i64]; omega
          have h01 : (0 : Int) ≤ (a : Int) - 1 := by omega
          have h02 : (a : Int) - 1 < (L.length : Int) := by have := HLL.out; omega
          have h03 : (a : Int) < (L.length : Int) + 1 := by omega
          have h04 : (1 : Int) ≤ (a : Int) := by omega
          obtain ⟨y, hy⟩ : ∃ y, y = L.getD (a - 1) Ru.zero := ⟨_, rfl⟩
          rw [← hy] at q0
          have hym : y ∈ L := by rw [hy, List.getD_eq_getElem?_getD, List.getElem?_eq_getElem (show a - 1 < L.length by have := HLL.out; omega)]; exact List.getElem_mem _
          have KL := Lib.hid (fun w => ref_key_less r.p y.p w HSR.out (HSS.out _ (List.mem_of_mem_take (HL.out.2.mem.1 hym))))
          rw [lessB_lt] at KL
          obtain ⟨b0, hb0⟩ : ∃ b, b = ltS r.p y.p := ⟨_, rfl⟩
          rw [← hb0] at KL
          have HB0 := Lib.hid hb0; have HY := Lib.hid hy; have HYM := Lib.hid hym
          subst hA2
          have q0' : wr.cell? (ad2.add ((a - 1) * 4)) = some (.string y.p) := by rw [HQ.out]; exact q0
          clear hb0 hy hym
          go_wp2
          go_quiet ((go_at_call 45; exact Calls.quiet_of (KL.out _)))
          cases b0 with
          | true =>
            go_wp2
            go_roundw
            case rel =>
              refine ⟨a - 1, by congr 1; omega, by omega, ⟨fun z hz => ?_, q + nq, by rw [HQ.out, World.drewN_drewN]⟩⟩
              rw [List.drop_eq_getElem_cons (show a - 1 < L.length by have := HLL.out; omega), show a - 1 + 1 = a by omega] at hz
              rcases List.mem_cons.1 hz with hz | hz
              · rw [hz]
                have : y = L[a - 1]'(by have := HLL.out; omega) := by rw [HY.out, List.getD_eq_getElem?_getD, List.getElem?_eq_getElem (show a - 1 < L.length by have := HLL.out; omega)]; rfl
                rw [← this]; exact HB0.out.symm
              · exact HJ1.out z hz
            case measure => simp [intOf]; omega
          | false =>
            have HST := Lib.hid (show a = 0 ∨ ∃ y, L[a - 1]? = some y ∧ ltR r y = false from .inr ⟨y, by rw [HY.out, List.getD_eq_getElem?_getD, List.getElem?_eq_getElem (show a - 1 < L.length by have := HLL.out; omega)]; rfl, HB0.out.symm⟩)
            clear hw1 ei q0 q0'
            have HBQ := Lib.hid (show Below wo.heap.size wo (wr.drewN nq) by rw [HQ.out]; exact below_dN (below_dN (Below.refl _ _) _) _)
            have x0q : (wr.drewN nq).cell? ⟨w.heap.size, 0, none⟩ = some (.int .i64 m) := x0'
            have x1q : (wr.drewN nq).cell? ⟨w.heap.size, 1, none⟩ = some (.slice (some ad) l.length c) := x1'
            have p0q := pw_cell_below HBQ.out p0
            have p1q := pw_cell_below HBQ.out p1
            have p2q := pw_cell_below HBQ.out p2
            have p3q := pw_cell_below HBQ.out p3
            obtain ⟨hto, hCto, A3, hfr, hCfr⟩ := CUT.out (some ad2) c1 L a (by rw [HLL.out]; exact ha) hc1
            have HCTO := Lib.hid hCto; have HCFR := Lib.hid hCfr
            have HCQ := Lib.hid (Kd.C_below HC1.out HBQ.out)
            have hLk : (L.length : Int) ≤ 1000000 := by have := HLL.out; omega
            have hLk2 : L.length ≤ 1000000 := by omega
            have haL : (a : Int) ≤ (L.length : Int) := by have := HLL.out; omega
            have haL2 : a ≤ L.length := by omega
            clear hCto hCfr x0' x1' p0' p0 p1 p2 p3 x0 x1
            generalize hwq : wr.drewN nq = wq at HBQ x0q x1q p0q p1q p2q p3q HCQ ⊢
            clear hwq
            go_wp2_with (first | (at_builtin; refine Kd.R_append_rows kRu (w0 := wq) (W := wq) wq.heap.size rfl (.tmp 35) (.tmp 38) 26 37 _ 40 rfl (by kernel_rfl) rules_info rfl (by decide) (by decide) (.slice none 0 0) [] (L.take a) (some ad2) a c1 (fun _ => True) (fun _ => False) rfl rfl (Kd.R_nil _ _ _ _ _) (HCTO.out _ HCQ.out) (fun x cs h => by rw [kRu_K h]; exact kRu_M) (fun _ h => h.elim) (fun _ _ => trivial) (Below.refl _ _) (Nat.le_refl _) (by simp; omega) ?_; intro v5 w5 hR5 hB5 hg5 hat5; have HR5 := Lib.hid hR5; have HB5 := Lib.hid hB5; clear hR5 hB5 hg5 hat5; have y1 := pw_cell_below HB5.out x1q; have o0 := pw_cell_below HB5.out p0q; have o1 := pw_cell_below HB5.out p1q; have o2 := pw_cell_below HB5.out p2q; have o3 := pw_cell_below HB5.out p3q) | (at_builtin; refine Kd.R_append kRu (w0 := wq) (W := w5) wq.heap.size rfl (.tmp 40) (.tmp 46) 26 37 _ 40 rfl (by kernel_rfl) rules_info rfl (by decide) (by decide) v5 ([] ++ L.take a) r r.cells (fun _ => True) (fun _ => False) rfl rfl kRu_M (fun _ h => h.elim) (fun _ _ => trivial) HR5.out HB5.out HB5.out.size (by simp; omega) ?_; intro v6 w6 hR6 hB6 hg6 hat6; have HR6 := Lib.hid hR6; have HB6 := Lib.hid hB6; clear hR6 hB6 hg6 hat6 y1 o0 o1 o2 o3) | (at_builtin; refine Kd.R_append_rows kRu (w0 := wq) (W := w6) wq.heap.size rfl (.tmp 48) (.tmp 51) 26 37 _ 40 rfl (by kernel_rfl) rules_info rfl (by decide) (by decide) v6 ([] ++ L.take a ++ [r]) (L.drop a) A3 (L.length - a) (c1 - a) (fun _ => True) (fun _ => False) rfl rfl HR6.out (HCFR.out _ (Kd.C_below HCQ.out HB6.out)) (fun x cs h => by rw [kRu_K h]; exact kRu_M) (fun _ h => h.elim) (fun _ _ => trivial) HB6.out HB6.out.size (by simp; omega) ?_; intro v7 w7 hR7 hB7 hg7 hat7; have HR7 := Lib.hid hR7; have HB7 := Lib.hid hB7; clear hR7 hB7 hg7 hat7))
            have hins := SortedR.insert HL.out a haL2 HJ1.out HST.out
            rw [HRR.out, ← rule_take hlt, ← HRR.out] at hins
            have hbq := HBQ.out.size
            have hbo := HBEL.out.size
            have hR8 := Kd.R_lower HR7.out (base' := W.heap.size) (by omega)
            rw [List.nil_append] at hR8
            have hb8 := HBEL.out.trans ((HBQ.out.trans (HB7.out.mono hbq)).mono hbo)
            go_roundw
            case rel => exact ⟨k + 1, by go_num, by omega, ⟨hb8, _, hins, hR8⟩⟩
            case measure => simp [intOf]; omega
        · have haz : ¬ (0 : Int) < (a : Int) := by omega
          have HST := Lib.hid (show a = 0 ∨ ∃ y, L[a - 1]? = some y ∧ ltR r y = false from .inl (by omega))
          have hb0 : decide ((0 : Int) < (a : Int)) = false := decide_eq_false haz
          have hb0' : decide (0 < a) = false := decide_eq_false (by omega)
          go_wp2
          go_quiet (fail)
          have HBQ := Lib.hid (show Below wo.heap.size wo (wr.drewN nq) by rw [HQ.out]; exact below_dN (below_dN (Below.refl _ _) _) _)
          have x0q : (wr.drewN nq).cell? ⟨w.heap.size, 0, none⟩ = some (.int .i64 m) := x0'
          have x1q : (wr.drewN nq).cell? ⟨w.heap.size, 1, none⟩ = some (.slice (some ad) l.length c) := x1'
          have p0q := pw_cell_below HBQ.out p0
          have p1q := pw_cell_below HBQ.out p1
          have p2q := pw_cell_below HBQ.out p2
          have p3q := pw_cell_below HBQ.out p3
          obtain ⟨hto, hCto, A3, hfr, hCfr⟩ := CUT.out V1 c1 L a (by rw [HLL.out]; exact ha) hc1
          have HCTO := Lib.hid hCto; have HCFR := Lib.hid hCfr
          have HCQ := Lib.hid (Kd.C_below HC1.out HBQ.out)
          have hLk : (L.length : Int) ≤ 1000000 := by have := HLL.out; omega
          have hLk2 : L.length ≤ 1000000 := by omega
          have haL : (a : Int) ≤ (L.length : Int) := by have := HLL.out; omega
          have haL2 : a ≤ L.length := by omega
          clear hCto hCfr x0' x1' p0' p0 p1 p2 p3 x0 x1
          generalize hwq : wr.drewN nq = wq at HBQ x0q x1q p0q p1q p2q p3q HCQ ⊢
          clear hwq
          go_wp2_with (first | (at_builtin; refine Kd.R_append_rows kRu (w0 := wq) (W := wq) wq.heap.size rfl (.tmp 35) (.tmp 38) 26 37 _ 40 rfl (by kernel_rfl) rules_info rfl (by decide) (by decide) (.slice none 0 0) [] (L.take a) V1 a c1 (fun _ => True) (fun _ => False) rfl rfl (Kd.R_nil _ _ _ _ _) (HCTO.out _ HCQ.out) (fun x cs h => by rw [kRu_K h]; exact kRu_M) (fun _ h => h.elim) (fun _ _ => trivial) (Below.refl _ _) (Nat.le_refl _) (by simp; omega) ?_; intro v5 w5 hR5 hB5 hg5 hat5; have HR5 := Lib.hid hR5; have HB5 := Lib.hid hB5; clear hR5 hB5 hg5 hat5; have y1 := pw_cell_below HB5.out x1q; have o0 := pw_cell_below HB5.out p0q; have o1 := pw_cell_below HB5.out p1q; have o2 := pw_cell_below HB5.out p2q; have o3 := pw_cell_below HB5.out p3q) | (at_builtin; refine Kd.R_append kRu (w0 := wq) (W := w5) wq.heap.size rfl (.tmp 40) (.tmp 46) 26 37 _ 40 rfl (by kernel_rfl) rules_info rfl (by decide) (by decide) v5 ([] ++ L.take a) r r.cells (fun _ => True) (fun _ => False) rfl rfl kRu_M (fun _ h => h.elim) (fun _ _ => trivial) HR5.out HB5.out HB5.out.size (by simp; omega) ?_; intro v6 w6 hR6 hB6 hg6 hat6; have HR6 := Lib.hid hR6; have HB6 := Lib.hid hB6; clear hR6 hB6 hg6 hat6 y1 o0 o1 o2 o3) | (at_builtin; refine Kd.R_append_rows kRu (w0 := wq) (W := w6) wq.heap.size rfl (.tmp 48) (.tmp 51) 26 37 _ 40 rfl (by kernel_rfl) rules_info rfl (by decide) (by decide) v6 ([] ++ L.take a ++ [r]) (L.drop a) A3 (L.length - a) (c1 - a) (fun _ => True) (fun _ => False) rfl rfl HR6.out (HCFR.out _ (Kd.C_below HCQ.out HB6.out)) (fun x cs h => by rw [kRu_K h]; exact kRu_M) (fun _ h => h.elim) (fun _ _ => trivial) HB6.out HB6.out.size (by simp; omega) ?_; intro v7 w7 hR7 hB7 hg7 hat7; have HR7 := Lib.hid hR7; have HB7 := Lib.hid hB7; clear hR7 hB7 hg7 hat7))
          have hins := SortedR.insert HL.out a haL2 HJ1.out HST.out
          rw [HRR.out, ← rule_take hlt, ← HRR.out] at hins
          have hbq := HBQ.out.size
          have hbo := HBEL.out.size
          have hR8 := Kd.R_lower HR7.out (base' := W.heap.size) (by omega)
          rw [List.nil_append] at hR8
          have hb8 := HBEL.out.trans ((HBQ.out.trans (HB7.out.mono hbq)).mono hbo)
          go_roundw
          case rel => exact ⟨k + 1, by go_num, by omega, ⟨hb8, _, hins, hR8⟩⟩
          case measure => simp [intOf]; omega
    · have hltz : ¬ (k : Int) < (l.length : Int) := by omega
      have B2 := HT2.out.below HBEL.out HT2.out.lt
      have HB2 := Lib.hid B2
      have f10 := HB1.out.free 0
      have f11 := HB1.out.free 1
      have z20 := B2.cell_at 0 (.int .i64 0) rfl
      have z21 := B2.cell_at 1 (.slice none 0 0) rfl
      have f20 := B2.free 0
      have f21 := B2.free 1
      clear B2
      have HLF := Lib.hid (show SortedR L l by have := HL.out; rwa [List.take_of_length_le (by omega)] at this)
      have hbo := HBEL.out.size
      have hsw := HSW.out
      have HSW' := Lib.hid hsw; clear hsw
      go_wp2
      have hsw := HSW'.out
      have L4 := ((HB2.out.far (b' := w.heap.size) (by omega) 1 (.slice V1 L.length c1)).set 0 (.int .i64 m)).set 1 (.slice V1 L.length c1)
      have m0 := L4.cell_at 0 (.int .i64 m) (by simp)
      have m1 := L4.cell_at 1 (.slice V1 L.length c1) (by simp)
      have bl0 := HBW.out.trans (HBEL.out.mono HBW.out.size)
      have bl1 := below_grown bl0 bl0.size (grown_set wr w.heap.size 1 (.slice V1 L.length c1)) (Nat.le_refl _)
      have bl := below_set2 (b := w.heap.size + 1) bl1 (by omega) (.int .i64 m) (.slice V1 L.length c1)
      have hR := R_low (R_low (R_low HR.out (b := w.heap.size) (by omega) 1 (.slice V1 L.length c1)) (b := w.heap.size + 1) (by omega) 0 (.int .i64 m)) (b := w.heap.size + 1) (by omega) 1 (.slice V1 L.length c1)
      exact bodyPost_ret (v := .agg #[.int .i64 m, .slice V1 L.length c1]) (by simp [results, Tryz.results22, go_sem, m0, m1]) rfl ⟨L, V1, c1, HLF.out, rfl, Kd.R_lower hR HBW.out.size, bl⟩
end Go.Proofs.YtamhpnenpoamhaaGreat

/- The reference's Split as a plain function over what is left of the text, and that it is words.Split's. -/
namespace Go.Proofs.YtamhpnenpoamhaaGreat
open Go.RowKit Go.Proofs.YtamhpnenpoamhaaGreatW.PrintWords

/-- Where the reference stands: the lines, the line's words, the word's bytes, line and column. -/
structure Sq where
  out : List (List Wd)
  row : List Wd
  cur : List Int
  l : Nat
  c : Nat
namespace Sq
def keep (q : Sq) : List Wd := if q.cur = [] then q.row else q.row ++ [⟨strOfNums q.cur, q.l, q.c - q.cur.length⟩]
def laid (q : Sq) : List (List Wd) := if Sp.some? q.keep then q.out ++ [q.keep] else q.out
def put (q : Sq) (b : Int) : Sq :=
  if Sp.kind b = 0 then { q with cur := q.cur ++ [b], c := q.c + 1 } else if Sp.kind b = 2 then ⟨q.laid, [], [], q.l + 1, 1⟩ else { q with row := q.keep, cur := [], c := q.c + 1 }
def run : List Int → Sq → List (List Wd) ⊕ (Nat × Nat)
  | [], q => .inl q.laid
  | b :: r, q => if Sp.kind b = 3 then .inr (q.l, q.c) else run r (q.put b)
def first : Sq := ⟨[], [], [], 1, 1⟩
/-- The states that stand for one another. -/
structure Sim (xs : List Int) (s : Sp) (q : Sq) : Prop where
  out : q.out = s.out
  row : q.row = s.row
  l : q.l = s.l
  c : q.c = s.c
  cur : q.cur = if s.was = 0 then (xs.take s.k).drop s.fr else []
  fr : s.was = 0 → s.fr < s.k
theorem Sim.keep {xs : List Int} {s : Sp} {q : Sq} (h : Sim xs s q) (hk : s.k ≤ xs.length) : q.keep = (s.keep xs).row := by
  obtain ⟨h1, h2, h3, h4, h5, h6⟩ := h
  unfold Sq.keep Sp.keep
  by_cases hw : s.was = 0
  · rw [if_pos hw] at h5
    have hl : q.cur.length = s.k - s.fr := by rw [h5, List.length_drop, List.length_take]; omega
    have hne : q.cur ≠ [] := fun e => by rw [e] at hl; have := h6 hw; simp at hl; omega
    rw [if_neg hne, if_pos hw]
    simp only [Sp.word, Sp.cut, h2, h3, h4, hl]
    rw [h5]
  · rw [if_neg hw] at h5
    rw [if_pos h5, if_neg hw, h2]
theorem Sim.laid {xs : List Int} {s : Sp} {q : Sq} (h : Sim xs s q) (hk : s.k ≤ xs.length) : q.laid = (s.keep xs).lay.out := by
  unfold Sq.laid
  rw [h.keep hk, h.out]
  simp only [Sp.lay, (Sp.keep_fields xs s).1]
theorem Sim.put {xs : List Int} {s : Sp} {q : Sq} (h : Sim xs s q) (b : Int) (hb : xs[s.k]? = some b) (h3 : Sp.kind b ≠ 3) : Sim xs (s.put xs (Sp.kind b)) (q.put b) := by
  obtain ⟨hlt, hbb⟩ := List.getElem?_eq_some_iff.1 hb
  have hkp := h.keep (by omega)
  have hla := h.laid (by omega)
  have hf := Sp.keep_fields xs s
  obtain ⟨e1, e2, e3, e4, e5, e6⟩ := hf
  obtain ⟨h1, h2, h3', h4, h5, h6⟩ := h
  have ht : xs.take (s.k + 1) = xs.take s.k ++ [b] := by rw [List.take_succ_eq_append_getElem hlt, hbb]
  unfold Sq.put Sp.put
  by_cases k0 : Sp.kind b = 0
  · rw [if_pos k0, if_pos k0]
    unfold Sp.begin
    by_cases hw : s.was = 0
    · rw [if_pos hw] at h5
      rw [if_pos hw]
      have := h6 hw
      refine ⟨h1, h2, h3', by simp [Sp.ends, Sp.col, h4], ?_, fun _ => by simp [Sp.ends, Sp.col]; omega⟩
      simp only [Sp.ends, Sp.col, if_true, ht, h5]
      rw [List.drop_append_of_le_length (by rw [List.length_take]; omega)]
    · rw [if_neg hw] at h5
      rw [if_neg hw]
      refine ⟨h1, h2, h3', by simp [Sp.ends, Sp.col, h4], ?_, fun _ => by simp [Sp.ends, Sp.col]⟩
      simp only [Sp.ends, Sp.col, if_true, ht, h5]
      rw [List.drop_append_of_le_length (by rw [List.length_take]; omega), List.drop_of_length_le (by rw [List.length_take]; omega)]
  · rw [if_neg k0, if_neg k0]
    by_cases k2 : Sp.kind b = 2
    · rw [if_pos k2, if_pos k2]
      refine ⟨?_, rfl, ?_, rfl, ?_, fun h => by simp [Sp.ends] at h⟩
      · rw [hla]; rfl
      · simp only [Sp.ends, Sp.line, Sp.lay, Sp.col, h3', e4]
      · simp [Sp.ends, Sp.line]
    · rw [if_neg k2, if_neg k2]
      refine ⟨by rw [h1]; exact e1.symm, hkp, by rw [h3']; exact e4.symm, ?_, ?_, fun h => absurd h k0⟩
      · simp only [Sp.ends, Sp.col, h4, e5]
      · rw [if_neg (show ¬ (((s.keep xs).col.ends (Sp.kind b)).was = 0) from k0)]
theorem Sim.run {xs : List Int} : ∀ (rest : List Int) (s : Sp) (q : Sq), Sim xs s q → xs.drop s.k = rest → s.k ≤ xs.length → Sp.run xs rest s = Sq.run rest q
  | [], s, q, h, hd, hk => by rw [Sp.run, Sq.run, h.laid hk]
  | b :: r, s, q, h, hd, hk => by
    have hb : xs[s.k]? = some b := by
      have := congrArg (·[0]?) hd
      simpa [List.getElem?_drop] using this
    have hlt := (List.getElem?_eq_some_iff.1 hb).1
    rw [Sp.run, Sq.run]
    by_cases k3 : Sp.kind b = 3
    · rw [if_pos k3, if_pos k3, h.l, h.c]
    · rw [if_neg k3, if_neg k3]
      have hkk : (s.put xs (Sp.kind b)).k = s.k + 1 := by
        unfold Sp.put
        split
        · unfold Sp.begin; split <;> rfl
        · split <;> simp [Sp.ends, Sp.line, Sp.lay, Sp.col, (Sp.keep_fields xs s).2.2.1]
      refine Sim.run r _ _ (h.put b hb k3) ?_ (by omega)
      rw [hkk, ← List.drop_drop, hd]; rfl
/-- The reference's lines are the program's. -/
theorem split_eq (xs : List Int) : Sp.split xs = run xs first :=
  Sim.run xs Sp.first first ⟨rfl, rfl, rfl, rfl, rfl, fun h => by simp [Sp.first] at h⟩ rfl (Nat.zero_le _)
/-- The state behind some bytes that may be. -/
def st (n : Nat) (ys : List Int) : Sq := ys.foldl put ⟨[], [], [], n, 1⟩
/-- The words of a line. -/
def line (n : Nat) (ys : List Int) : List Wd := if Sp.some? (st n ys).keep then (st n ys).keep else []
theorem st_snoc (n : Nat) (ys : List Int) (b : Int) : st n (ys ++ [b]) = (st n ys).put b := by simp [st]
theorem fold_fields : ∀ (r : List Int) (q : Sq), (∀ b ∈ r, Sp.kind b ≤ 1) → (r.foldl put q).out = q.out ∧ (r.foldl put q).l = q.l ∧ (r.foldl put q).c = q.c + r.length
  | [], q, _ => ⟨rfl, rfl, rfl⟩
  | b :: r, q, h => by
    obtain ⟨h1, h2, h3⟩ := fold_fields r (q.put b) (fun x hx => h x (by simp [hx]))
    have hb := h b (by simp)
    have hp : (q.put b).out = q.out ∧ (q.put b).l = q.l ∧ (q.put b).c = q.c + 1 := by
      unfold put
      split
      · exact ⟨rfl, rfl, rfl⟩
      · rw [if_neg (by omega)]; exact ⟨rfl, rfl, rfl⟩
    rw [List.foldl_cons, h1, h2, h3, hp.1, hp.2.1, hp.2.2, List.length_cons]
    exact ⟨rfl, rfl, by omega⟩
theorem st_fields (n : Nat) (ys : List Int) (h : ∀ b ∈ ys, Sp.kind b ≤ 1) : (st n ys).out = [] ∧ (st n ys).l = n ∧ (st n ys).c = ys.length + 1 := by
  obtain ⟨h1, h2, h3⟩ := fold_fields ys ⟨[], [], [], n, 1⟩ h
  exact ⟨h1, h2, by rw [st, h3]; show 1 + _ = _; omega⟩
theorem put_row (q : Sq) (b : Int) (hb : Sp.kind b ≤ 1) : ∃ t, (q.put b).row = q.row ++ t := by
  unfold put
  split
  · exact ⟨[], by simp⟩
  · rw [if_neg (by omega)]
    show ∃ t, q.keep = q.row ++ t
    unfold keep
    split
    · exact ⟨[], by simp⟩
    · exact ⟨_, rfl⟩
theorem fold_row : ∀ (r : List Int) (q : Sq), (∀ b ∈ r, Sp.kind b ≤ 1) → ∃ t, (r.foldl put q).keep = q.row ++ t
  | [], q, _ => by
    show ∃ t, q.keep = q.row ++ t
    unfold keep
    split
    · exact ⟨[], by simp⟩
    · exact ⟨_, rfl⟩
  | b :: r, q, h => by
    obtain ⟨t1, e1⟩ := put_row q b (h b (by simp))
    obtain ⟨t2, e2⟩ := fold_row r (q.put b) (fun x hx => h x (by simp [hx]))
    exact ⟨t1 ++ t2, by rw [List.foldl_cons, e2, e1, List.append_assoc]⟩
/-- Behind a word that has ended its row begins so. -/
theorem keep_mono (n : Nat) (ys : List Int) (j : Nat) (hj : j ≤ ys.length) (hk : ∀ b ∈ ys, Sp.kind b ≤ 1) (hb : j = ys.length ∨ Sp.kind (ys.getD j 0) = 1) : ∃ t, (st n ys).keep = (st n (ys.take j)).keep ++ t := by
  rcases Nat.lt_or_ge j ys.length with hlt | hge
  · have e : ys = ys.take j ++ (ys[j] :: ys.drop (j + 1)) := by rw [← List.drop_eq_getElem_cons hlt, List.take_append_drop]
    have k1 : Sp.kind ys[j] = 1 := by
      rcases hb with hb | hb
      · omega
      · rwa [List.getD_eq_getElem?_getD, List.getElem?_eq_getElem hlt] at hb
    obtain ⟨t, ht⟩ := fold_row (ys.drop (j + 1)) ((st n (ys.take j)).put ys[j]) (fun b hb => hk b (List.mem_of_mem_drop hb))
    refine ⟨t, ?_⟩
    have hr : ((st n (ys.take j)).put ys[j]).row = (st n (ys.take j)).keep := by
      unfold put; rw [if_neg (by omega), if_neg (by omega)]
    have e2 : st n ys = (ys.drop (j + 1)).foldl put ((st n (ys.take j)).put ys[j]) := by
      calc st n ys = st n (ys.take j ++ (ys[j] :: ys.drop (j + 1))) := congrArg (st n) e
        _ = _ := by unfold st; rw [List.foldl_append]; rfl
    rw [← hr, ← ht, e2]
  · rw [List.take_of_length_le hge]; exact ⟨[], by simp⟩
theorem strOf_head (b : Int) (r : List Int) (h0 : 0 ≤ b) (h1 : b ≤ 255) : bt (strOfNums (b :: r)) 0 = b := by
  unfold bt
  rw [dif_pos (by rw [strOfNums_size]; simp)]
  show ((UInt8.ofNat b.toNat).toNat : Int) = b
  rw [UInt8.toNat_ofNat']
  omega
end Sq
end Go.Proofs.YtamhpnenpoamhaaGreat

/- words.Split's closures: the end of a line. -/
namespace Go.Proofs.YtamhpnenpoamhaaGreat
open Go.RowKit Go.Proofs.YtamhpnenpoamhaaGreatW.PrintWords Go.Proofs.YtamhpnenpoamhaaGreatW.PrintLast

theorem SpAt.laid {w0 : World} {T : Value} {s : Sp} {vo vr vo' : Value} {out : List (List Wd)} {w w' : World} (h : SpAt w0 T s vo vr w) (hk : ∀ {b : Nat} {cs : Array Value} {t : TypeId}, b < w0.heap.size + 8 → b ≠ w0.heap.size + 2 → Blk w b cs t → Blk w' b cs t)
    (h2 : Blk w' (w0.heap.size + 2) #[vo'] 64) (hb : Below w0.heap.size w0 w') (hs : w0.heap.size + 8 ≤ w'.heap.size) (hR : (Kd.slice 76 kWd).R 74 w' (w0.heap.size + 8) (fun _ => True) vo' out) :
    SpAt w0 T { s with row := [], out := out } vo' (.slice none 0 0) (w'.setCell ⟨w0.heap.size + 3, 0, none⟩ (.slice none 0 0)) := by
  have k : ∀ {b : Nat} {cs : Array Value} {t : TypeId}, b < w0.heap.size + 8 → b ≠ w0.heap.size + 2 → b ≠ w0.heap.size + 3 → Blk w b cs t → Blk (w'.setCell ⟨w0.heap.size + 3, 0, none⟩ (.slice none 0 0)) b cs t := fun hlt hne hne' hb => (hk hlt hne hb).far (Ne.symm hne') 0 _
  refine ⟨below_grown hb (by omega) (grown_set w' (w0.heap.size + 3) 0 _) (by omega), ?_, k (by omega) (by omega) (by omega) h.b0, k (by omega) (by omega) (by omega) h.b1, h2.far (by omega) 0 _, ?_, k (by omega) (by omega) (by omega) h.b4, k (by omega) (by omega) (by omega) h.b5, k (by omega) (by omega) (by omega) h.b6, k (by omega) (by omega) (by omega) h.b7, ?_, Kd.R_nil _ _ _ _ _⟩
  · have : (w'.setCell ⟨w0.heap.size + 3, 0, none⟩ (.slice none 0 0)).heap.size = w'.heap.size := by simp [World.setCell]
    omega
  · have := (hk (by omega) (by omega) h.b3).set 0 (.slice none 0 0)
    simpa using this
  · exact R_low (Kd.R_mono hR (fun k _ => by simp [Value.ownBlock])) (by omega) 0 _

theorem rows_info : (Tryz.prog.info? 74).map (fun i => (i.zero, i.size, i.bytes)) = some (some (.slice none 0 0), 1, 24) := by kernel_rfl

theorem split_lay (w0 : World) (T : Value) (s : Sp) (vo vr : Value) (w : World) (ho : s.out.length ≤ 1048576) (hrow : ∀ x, x ∈ s.row → 0 < x.t.size) (h : SpAt w0 T s vo vr w) :
    Calls Tryz.prog 52 #[.pointer (some ⟨w0.heap.size + 3, 0, none⟩), .pointer (some ⟨w0.heap.size + 2, 0, none⟩)] w
      fun x w' => x = .returned (.tuple #[]) ∧ ∃ vo', SpAt w0 T s.lay vo' (.slice none 0 0) w' := by
  have r3 := h.b3.cell_at 0 _ rfl
  have r2 := h.b2.cell_at 0 _ rfl
  have f2 := h.b2.free 0
  have f3 := h.b3.free 0
  have hn := Lib.hid (h.laid (w' := w) (fun _ _ hb => hb) h.b2 h.bel h.size (Kd.R_mono h.out (fun _ _ => trivial)))
  cases hrw : s.row with
  | nil =>
    have he := h.row
    rw [hrw] at he
    obtain ⟨A, c, rfl⟩ := Kd.R_slice he
    have HE := Lib.hid (show s.lay = { s with row := [], out := s.out } by unfold Sp.lay; rw [hrw]; rfl)
    have H := Lib.hid h; clear h he hrow hrw
    go_enter Tryz.func52, Tryz.ntmps52
    go_wp2
    go_end0
    refine ⟨rfl, vo, ?_⟩
    rw [HE.out]
    exact hn.out
  | cons x l =>
    have he := h.row
    rw [hrw] at he
    obtain ⟨A, c, hv, hlc, hC⟩ := Kd.R_reads he
    subst hv
    obtain ⟨ad, cs, hA, hlen, hK, hcell⟩ := Kd.C_get hC x 0 (by omega) (by simp)
    subst hA
    obtain rfl := kWd_K hK
    have c0 := hcell 0 (.string x.t) rfl
    simp only [Int.toNat_zero, Nat.zero_mul, Nat.add_zero, addr_zero] at c0
    have hx := hrow x (by rw [hrw]; exact List.mem_cons_self)
    have hbt : (x.t[0].toNat : Int) = bt x.t 0 := bt_at x.t 0 hx
    clear hcell hrow
    have hR : kWd.R 76 w (w0.heap.size + 8) (fun k => True ∧ some k ≠ vo.ownBlock) (.slice (some ad) (x :: l).length c) (x :: l) := Kd.R_apart' he (fun k hk => Kd.R_typed h.out k hk) (by decide)
    have hlen : s.out.length + 1 ≤ 1048577 := by omega
    have hsz := h.size
    by_cases h35 : bt x.t 0 = 35
    · have hb : ((x.t[0].toNat : Int) != 35) = false := by rw [hbt, h35]; rfl
      have HE := Lib.hid (show s.lay = { s with row := [], out := s.out } by unfold Sp.lay Sp.some?; rw [hrw]; simp [h35])
      have H := Lib.hid h; clear h he hrw hbt h35 hR hC
      go_enter Tryz.func52, Tryz.ntmps52
      go_wp2
      go_end0
      refine ⟨rfl, vo, ?_⟩
      rw [HE.out]
      exact hn.out
    · have hb : ((x.t[0].toNat : Int) != 35) = true := by rw [hbt]; simpa using h35
      have HE := Lib.hid (show s.lay = { s with row := [], out := s.out ++ [x :: l] } by unfold Sp.lay Sp.some?; rw [hrw]; simp [h35])
      have H := Lib.hid h; clear h he hrw hbt h35 hC hn
      have HR := Lib.hid hR; clear hR
      go_enter Tryz.func52, Tryz.ntmps52
      go_wp2_with (at_builtin; refine Kd.R_append (Kd.slice 76 kWd) (w0 := w) (W := w) (w0.heap.size + 8) rfl (.tmp 13) (.tmp 15) 64 74 _ 24 rfl (by kernel_rfl) rows_info rfl (by decide) (by decide) vo s.out (x :: l) [.slice (some ad) (x :: l).length c] (fun _ => True) (fun k => True ∧ some k ≠ vo.ownBlock) rfl rfl ⟨_, rfl, HR.out⟩ (fun _ h => h) (fun _ _ => trivial) (Kd.R_mono H.out.out (fun _ _ => trivial)) (Below.refl _ _) hsz (by omega) ?_; intro v1 w2 hR2 hB2 hg2 hat; obtain ⟨A1, c1, hv1⟩ := Kd.R_slice hR2; subst hv1; have k2 := (H.out.b2.below hB2 (by omega)).cell_at 0 _ rfl; have g2 := (H.out.b2.below hB2 (by omega)).free 0; have k3 := (H.out.b3.below hB2 (by omega)).cell_at 0 _ rfl; have g3 := (H.out.b3.below hB2 (by omega)).free 0)
      go_end0
      have hs2 := hB2.size
      have hss : (w2.setCell ⟨w0.heap.size + 2, 0, none⟩ (.slice A1 (s.out ++ [x :: l]).length c1)).heap.size = w2.heap.size := by simp [World.setCell]
      have := H.out.laid (w' := w2.setCell ⟨w0.heap.size + 2, 0, none⟩ (.slice A1 (s.out ++ [x :: l]).length c1)) (fun hlt hne hb => (hb.below hB2 hlt).far (Ne.symm hne) 0 _) (by simpa using (H.out.b2.below hB2 (by omega)).set 0 (.slice A1 (s.out ++ [x :: l]).length c1))
        (below_grown (H.out.bel.trans (hB2.mono (by omega))) (by omega) (grown_set w2 (w0.heap.size + 2) 0 _) (by omega)) (by omega) (R_low hR2 (by omega) 0 _)
      refine ⟨rfl, .slice A1 (s.out ++ [x :: l]).length c1, ?_⟩
      rw [HE.out]
      rw [List.length_append] at this ⊢
      exact this
end Go.Proofs.YtamhpnenpoamhaaGreat

/- words.Split's loop: what holds at its labels. -/
namespace Go.Proofs.YtamhpnenpoamhaaGreat
open Go.RowKit Go.Proofs.YtamhpnenpoamhaaGreatW.PrintWords Go.Proofs.YtamhpnenpoamhaaGreatW.PrintLast

theorem words_kind (b : Int) (w : World) : Calls Tryz.prog 53 #[.int .u8 b] w fun x w' => x = .returned (.int .i64 (Sp.kind b)) ∧ w = w' := by
  have h10 : (b == 10) = decide (b = 10) := by rw [Bool.eq_iff_iff]; simp
  by_cases c1 : b = 10
  · have e : (b == 10) = true := by simp [c1]
    have HE := Lib.hid (show Sp.kind b = 2 by unfold Sp.kind; rw [if_pos c1])
    clear c1 h10
    go_enter Tryz.func53, Tryz.ntmps53
    go_wp2
    go_ret
    exact ⟨by rw [HE.out]; rfl, rfl⟩
  · have e : (b == 10) = false := by simp [c1]
    clear h10
    by_cases c2 : b = 32
    · have e2 : (b == 32) = true := by simp [c2]
      have HE := Lib.hid (show Sp.kind b = 1 by unfold Sp.kind; rw [if_neg c1, if_pos (.inl c2)])
      clear c1 c2
      go_enter Tryz.func53, Tryz.ntmps53
      go_wp2
      go_ret
      exact ⟨by rw [HE.out]; rfl, rfl⟩
    · have e2 : (b == 32) = false := by simp [c2]
      by_cases c3 : b = 9
      · have e3 : (b == 9) = true := by simp [c3]
        have HE := Lib.hid (show Sp.kind b = 1 by unfold Sp.kind; rw [if_neg c1, if_pos (.inr c3)])
        clear c1 c2 c3
        go_enter Tryz.func53, Tryz.ntmps53
        go_wp2
        go_ret
        exact ⟨by rw [HE.out]; rfl, rfl⟩
      · have e3 : (b == 9) = false := by simp [c3]
        by_cases c4 : 32 < b
        · by_cases c5 : b ≤ 126
          · have HE := Lib.hid (show Sp.kind b = 0 by unfold Sp.kind; rw [if_neg c1, if_neg (by omega), if_pos ⟨c4, c5⟩])
            clear c1 c2 c3
            go_enter Tryz.func53, Tryz.ntmps53
            go_wp2
            go_ret
            exact ⟨by rw [HE.out]; rfl, rfl⟩
          · have HE := Lib.hid (show Sp.kind b = 3 by unfold Sp.kind; rw [if_neg c1, if_neg (by omega), if_neg (by omega)])
            have c5 : decide (b ≤ 126) = false := decide_eq_false c5
            clear c1 c2 c3
            go_enter Tryz.func53, Tryz.ntmps53
            go_wp2
            go_ret
            exact ⟨by rw [HE.out]; rfl, rfl⟩
        · have HE := Lib.hid (show Sp.kind b = 3 by unfold Sp.kind; rw [if_neg c1, if_neg (by omega), if_neg (by omega)])
          have c4 : decide (32 < b) = false := decide_eq_false c4
          clear c1 c2 c3
          go_enter Tryz.func53, Tryz.ntmps53
          go_wp2
          go_ret
          exact ⟨by rw [HE.out]; rfl, rfl⟩

theorem SpAt.set4 {w0 : World} {T : Value} {s : Sp} {vo vr : Value} {w : World} (h : SpAt w0 T s vo vr w) (q : Nat) : SpAt w0 T { s with fr := q } vo vr (w.setCell ⟨w0.heap.size + 4, 0, none⟩ (.int .i64 q)) := by
  have hs := h.size
  have hss : (w.setCell ⟨w0.heap.size + 4, 0, none⟩ (.int .i64 q)).heap.size = w.heap.size := by simp [World.setCell]
  exact ⟨below_grown h.bel (by omega) (grown_set w (w0.heap.size + 4) 0 _) (by omega), by omega, h.b0.far (by omega) 0 _, h.b1.far (by omega) 0 _, h.b2.far (by omega) 0 _, h.b3.far (by omega) 0 _, by simpa using h.b4.set 0 (.int .i64 q), h.b5.far (by omega) 0 _, h.b6.far (by omega) 0 _, h.b7.far (by omega) 0 _, R_low h.out (by omega) 0 _, R_low h.row (by omega) 0 _⟩

theorem SpAt.set5 {w0 : World} {T : Value} {s : Sp} {vo vr : Value} {w : World} (h : SpAt w0 T s vo vr w) (q : Nat) : SpAt w0 T { s with k := q } vo vr (w.setCell ⟨w0.heap.size + 5, 0, none⟩ (.int .i64 q)) := by
  have hs := h.size
  have hss : (w.setCell ⟨w0.heap.size + 5, 0, none⟩ (.int .i64 q)).heap.size = w.heap.size := by simp [World.setCell]
  exact ⟨below_grown h.bel (by omega) (grown_set w (w0.heap.size + 5) 0 _) (by omega), by omega, h.b0.far (by omega) 0 _, h.b1.far (by omega) 0 _, h.b2.far (by omega) 0 _, h.b3.far (by omega) 0 _, h.b4.far (by omega) 0 _, by simpa using h.b5.set 0 (.int .i64 q), h.b6.far (by omega) 0 _, h.b7.far (by omega) 0 _, R_low h.out (by omega) 0 _, R_low h.row (by omega) 0 _⟩

theorem SpAt.set6 {w0 : World} {T : Value} {s : Sp} {vo vr : Value} {w : World} (h : SpAt w0 T s vo vr w) (l c : Nat) : SpAt w0 T { s with l := l, c := c } vo vr (w.setCell ⟨w0.heap.size + 6, 0, none⟩ (.complex .f64 (Fl.F l) (Fl.F c))) := by
  have hs := h.size
  have hss : (w.setCell ⟨w0.heap.size + 6, 0, none⟩ (.complex .f64 (Fl.F l) (Fl.F c))).heap.size = w.heap.size := by simp [World.setCell]
  exact ⟨below_grown h.bel (by omega) (grown_set w (w0.heap.size + 6) 0 _) (by omega), by omega, h.b0.far (by omega) 0 _, h.b1.far (by omega) 0 _, h.b2.far (by omega) 0 _, h.b3.far (by omega) 0 _, h.b4.far (by omega) 0 _, h.b5.far (by omega) 0 _, by simpa using h.b6.set 0 (.complex .f64 (Fl.F l) (Fl.F c)), h.b7.far (by omega) 0 _, R_low h.out (by omega) 0 _, R_low h.row (by omega) 0 _⟩

theorem SpAt.set7 {w0 : World} {T : Value} {s : Sp} {vo vr : Value} {w : World} (h : SpAt w0 T s vo vr w) (q : Nat) : SpAt w0 T { s with was := q } vo vr (w.setCell ⟨w0.heap.size + 7, 0, none⟩ (.int .i64 q)) := by
  have hs := h.size
  have hss : (w.setCell ⟨w0.heap.size + 7, 0, none⟩ (.int .i64 q)).heap.size = w.heap.size := by simp [World.setCell]
  exact ⟨below_grown h.bel (by omega) (grown_set w (w0.heap.size + 7) 0 _) (by omega), by omega, h.b0.far (by omega) 0 _, h.b1.far (by omega) 0 _, h.b2.far (by omega) 0 _, h.b3.far (by omega) 0 _, h.b4.far (by omega) 0 _, h.b5.far (by omega) 0 _, h.b6.far (by omega) 0 _, by simpa using h.b7.set 0 (.int .i64 q), R_low h.out (by omega) 0 _, R_low h.row (by omega) 0 _⟩

/-- At a label: 1: the next byte; 0: the end. -/
def SpJ (w0 : World) (A : Option Addr) (c : Nat) (xs : List Int) (l : Nat) (a : Act) (w : World) : Prop :=
  ∃ (s : Sp) (vo vr T : Value), T = .slice A xs.length c ∧ SpAt w0 T s vo vr w ∧ s.Good xs ∧ Sp.run xs (xs.drop s.k) s = Sp.split xs ∧ (l = 1 ∨ (l = 0 ∧ s.k = xs.length)) ∧
    ∃ (u8 u14 u15 u16 u17 u18 u19 u20 u21 u22 u23 u24 u25 u26 u27 u28 u29 u30 u31 u32 u33 u34 u35 u36 u37 u38 u39 u40 u41 u42 u43 u44 u45 u46 u47 u48 u49 u50 u51 u52 u53 u54 u55 u56 u57 u58 u59 u60 u61 u62 u63 u64 : Value), a = { tmps := #[T, .pointer (some ⟨w0.heap.size, 0, none⟩), .slice none 0 0, .int .u16 0, .pointer (some ⟨w0.heap.size + 1, 0, none⟩), .pointer (some ⟨w0.heap.size + 2, 0, none⟩), .pointer (some ⟨w0.heap.size + 3, 0, none⟩), .pointer (some ⟨w0.heap.size + 4, 0, none⟩), u8, .pointer (some ⟨w0.heap.size + 5, 0, none⟩), .pointer (some ⟨w0.heap.size + 6, 0, none⟩), .pointer (some ⟨w0.heap.size + 7, 0, none⟩), .func (.func 50) #[] #[.pointer (some ⟨w0.heap.size + 7, 0, none⟩), .pointer (some ⟨w0.heap.size + 6, 0, none⟩), .pointer (some ⟨w0.heap.size + 5, 0, none⟩), .pointer (some ⟨w0.heap.size + 4, 0, none⟩), .pointer (some ⟨w0.heap.size + 3, 0, none⟩), .pointer (some ⟨w0.heap.size, 0, none⟩)], .func (.func 52) #[] #[.pointer (some ⟨w0.heap.size + 3, 0, none⟩), .pointer (some ⟨w0.heap.size + 2, 0, none⟩)], u14, u15, u16, u17, u18, u19, u20, u21, u22, u23, u24, u25, u26, u27, u28, u29, u30, u31, u32, u33, u34, u35, u36, u37, u38, u39, u40, u41, u42, u43, u44, u45, u46, u47, u48, u49, u50, u51, u52, u53, u54, u55, u56, u57, u58, u59, u60, u61, u62, u63, u64], defers := [] }
theorem SpJ.mk {w0 : World} {A : Option Addr} {c : Nat} {xs : List Int} {l : Nat} {w : World} {s : Sp} {vo vr T : Value} (hT : T = .slice A xs.length c) (h : SpAt w0 T s vo vr w) (g : s.Good xs) (hr : Sp.run xs (xs.drop s.k) s = Sp.split xs) (hl : l = 1 ∨ (l = 0 ∧ s.k = xs.length))
    {u8 u14 u15 u16 u17 u18 u19 u20 u21 u22 u23 u24 u25 u26 u27 u28 u29 u30 u31 u32 u33 u34 u35 u36 u37 u38 u39 u40 u41 u42 u43 u44 u45 u46 u47 u48 u49 u50 u51 u52 u53 u54 u55 u56 u57 u58 u59 u60 u61 u62 u63 u64 : Value} : SpJ w0 A c xs l { tmps := #[T, .pointer (some ⟨w0.heap.size, 0, none⟩), .slice none 0 0, .int .u16 0, .pointer (some ⟨w0.heap.size + 1, 0, none⟩), .pointer (some ⟨w0.heap.size + 2, 0, none⟩), .pointer (some ⟨w0.heap.size + 3, 0, none⟩), .pointer (some ⟨w0.heap.size + 4, 0, none⟩), u8, .pointer (some ⟨w0.heap.size + 5, 0, none⟩), .pointer (some ⟨w0.heap.size + 6, 0, none⟩), .pointer (some ⟨w0.heap.size + 7, 0, none⟩), .func (.func 50) #[] #[.pointer (some ⟨w0.heap.size + 7, 0, none⟩), .pointer (some ⟨w0.heap.size + 6, 0, none⟩), .pointer (some ⟨w0.heap.size + 5, 0, none⟩), .pointer (some ⟨w0.heap.size + 4, 0, none⟩), .pointer (some ⟨w0.heap.size + 3, 0, none⟩), .pointer (some ⟨w0.heap.size, 0, none⟩)], .func (.func 52) #[] #[.pointer (some ⟨w0.heap.size + 3, 0, none⟩), .pointer (some ⟨w0.heap.size + 2, 0, none⟩)], u14, u15, u16, u17, u18, u19, u20, u21, u22, u23, u24, u25, u26, u27, u28, u29, u30, u31, u32, u33, u34, u35, u36, u37, u38, u39, u40, u41, u42, u43, u44, u45, u46, u47, u48, u49, u50, u51, u52, u53, u54, u55, u56, u57, u58, u59, u60, u61, u62, u63, u64], defers := [] } w := ⟨s, vo, vr, T, hT, h, g, hr, hl, u8, _, _, _, _, _, _, _, _, _, _, _, _, _, _, _, _, _, _, _, _, _, _, _, _, _, _, _, _, _, _, _, _, _, _, _, _, _, _, _, _, _, _, _, _, _, _, _, _, _, _, _, rfl⟩
/-- What is left to read. -/
def SpLeft (n : Nat) (l : Nat) (w0 w : World) : Nat := match l, w.cell? ⟨w0.heap.size + 5, 0, none⟩ with | 1, some (.int _ k) => n - k.toNat + 1 | _, _ => 0
end Go.Proofs.YtamhpnenpoamhaaGreat
