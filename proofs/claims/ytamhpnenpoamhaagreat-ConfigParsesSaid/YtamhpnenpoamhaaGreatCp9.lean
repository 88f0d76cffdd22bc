/- The row of ConfigParses: at every input the law returns true, and what came in reads as it did. -/
import Derived.Test.YtamhpnenpoamhaaGreatCp8
import Derived.Test.YtamhpnenpoamhaaGreatCp7
import Derived.Lib.SlBytesConst
import Derived.Test.YtamhpnenpoamhaaGreatRows
import Derived.Test.YtamhpnenpoamhaaGreatWSized
import Derived.ProofKit
import Derived.OpenShut
import Derived.ShutString
import Derived.ChangeOld
import Derived.Below
import Derived.SizedLaws
import Derived.Deep.Slices
import Derived.Deep.Fields
import Derived.ChangeSame
set_option linter.unusedSimpArgs false
set_option linter.unusedVariables false
/- tollerlaw12.Policy: rules out of numbers; they are right. -/
namespace Go.Proofs.YtamhpnenpoamhaaGreat
open Go.RowKit Go.Proofs.YtamhpnenpoamhaaGreatW.PrintWords Go.Proofs.YtamhpnenpoamhaaGreatW.PrintLast

/-- The numbers of a rule. -/
structure Nu where
  p : List Int
  e : Int
  u : Int
  k : Int
def Nu.zero : Nu := ⟨[], 0, 0, 0⟩
def kNu : Kd Nu := Kd.iso (Kd.pair (Kd.slice 5 (Kd.int .u8)) (Kd.pair (Kd.int .u32) (Kd.pair (Kd.int .u16) (Kd.int .u8)))) fun x => (x.p, (x.e, (x.u, x.k)))
def Nu.Ok (x : Nu) : Prop := (∀ b ∈ x.p, 0 ≤ b ∧ b ≤ 255) ∧ (0 ≤ x.e ∧ x.e ≤ 4294967295) ∧ (0 ≤ x.u ∧ x.u ≤ 65535) ∧ (0 ≤ x.k ∧ x.k ≤ 255)
theorem kNu_K {w : World} {x : Nu} {cs : List Value} (h : kNu.K w x cs) : ∃ A c, cs = [.slice A x.p.length c, .int .u32 x.e, .int .u16 x.u, .int .u8 x.k] ∧ x.p.length ≤ c ∧ (Kd.int .u8).C w A x.p.length x.p := by
  obtain ⟨c0, c1, rfl, ⟨A, c, h0, hl, hC⟩, c2, c3, rfl, h2, c4, c5, rfl, h4, h5⟩ := h
  have e2 : c2 = [.int .u32 x.e] := h2
  have e4 : c4 = [.int .u16 x.u] := h4
  have e5 : c5 = [.int .u8 x.k] := h5
  subst e2 e4 e5
  subst h0
  exact ⟨A, c, rfl, hl, hC⟩
theorem nu_cells {w : World} {A : Option Addr} {l : List Nu} (h : kNu.C w A l.length l) (i : Nat) (hi : i < l.length) : ∃ ad A0 c0, A = some ad ∧ w.cell? (ad.add (i * 4)) = some (.slice A0 (l.getD i Nu.zero).p.length c0) ∧ w.cell? ⟨(ad.add (i * 4)).block, (ad.add (i * 4)).off + 1, none⟩ = some (.int .u32 (l.getD i Nu.zero).e) ∧
    w.cell? ⟨(ad.add (i * 4)).block, (ad.add (i * 4)).off + 2, none⟩ = some (.int .u16 (l.getD i Nu.zero).u) ∧ w.cell? ⟨(ad.add (i * 4)).block, (ad.add (i * 4)).off + 3, none⟩ = some (.int .u8 (l.getD i Nu.zero).k) ∧ (l.getD i Nu.zero).p.length ≤ c0 ∧ (Kd.int .u8).C w A0 (l.getD i Nu.zero).p.length (l.getD i Nu.zero).p := by
  obtain ⟨ad, cs, hA, _, hK, hc⟩ := Kd.C_get h Nu.zero i (by omega) (by omega)
  rw [Int.toNat_natCast] at hc hK
  obtain ⟨A0, c0, rfl, hl, hC⟩ := kNu_K hK
  have h0 := hc 0 _ rfl
  have h1 := hc (0 + 1) _ rfl
  have h2 := hc (1 + 1) _ rfl
  have h3 := hc (2 + 1) _ rfl
  change w.cell? (ad.add (i * 4 + (0 + 1))) = _ at h1
  change w.cell? (ad.add (i * 4 + (1 + 1))) = _ at h2
  change w.cell? (ad.add (i * 4 + (2 + 1))) = _ at h3
  rw [addr_next] at h1 h2 h3
  exact ⟨ad, A0, c0, hA, h0, h1, h2, h3, hl, hC⟩
/-- Rules that are right, the default one among them, each prefix once. -/
structure PolOk (m : Int) (l : List Ru) : Prop where
  m1 : 1 ≤ m
  m2 : m ≤ 50
  few : l.length ≤ 13
  right : ∀ r ∈ l, Rl.right r.p r.e r.u r.k = 0
  typed : ∀ r ∈ l, Cr.Typed r ∧ 0 ≤ r.k ∧ r.k ≤ 255
  once : (l.map (·.p)).Nodup
  dflt : (⟨#[]⟩ : ByteArray) ∈ l.map (·.p)
def PolPost (w : World) (x : Ending) (w' : World) : Prop := ∃ m V vc l, x = .returned (.agg #[.int .i64 m, .slice V l.length vc]) ∧ PolOk m l ∧ kRu.R 37 w' w.heap.size (fun _ => True) (.slice V l.length vc) l ∧ Below w.heap.size w w'
/-- A rule of these numbers. -/
def RuOk (r : Ru) : Prop := Rl.right r.p r.e r.u r.k = 0 ∧ Cr.Typed r ∧ 0 ≤ r.k ∧ r.k ≤ 255
theorem ruOk {p : ByteArray} {e u k : Int} (hp : p.toList.isEmpty = true ∨ Ky.right p.data.toList = true) (hs : p.size ≤ 12) (he : 1 ≤ e ∧ e ≤ 4294967296) (hu : 1 ≤ u ∧ u ≤ 65536) (hk : 1 ≤ k ∧ k ≤ 3) : RuOk ⟨p, e, u, k⟩ := by
  have hm : e * u ≤ 4294967296 * 65536 := Int.mul_le_mul he.2 hu.2 (by omega) (by decide)
  have hm0 : 0 ≤ e * u := Int.mul_nonneg (by omega) (by omega)
  have hM : Nm.mul e u = e * u := by unfold Nm.mul; rw [if_pos (by omega)]
  refine ⟨?_, ⟨by show p.size ≤ _; omega, by show 0 ≤ e ∧ e ≤ _; omega, by show 0 ≤ u ∧ u ≤ _; omega⟩, by show 0 ≤ k; omega, by show k ≤ 255; omega⟩
  have ho : Rl.okP p = true := by
    unfold Rl.okP
    rw [Bool.or_eq_true]; exact hp
  show Rl.right p e u k = 0
  unfold Rl.right
  rw [if_neg (by rw [ho]; decide), if_neg (by omega), if_neg (by omega), if_neg (by rw [hM]; omega), if_neg (not_not_intro hk)]
def fresh (l : List Ru) (p : ByteArray) (i : Nat) : Bool := (l.take i).all fun r => decide (r.p ≠ p)
theorem fresh_next {l : List Ru} {p : ByteArray} {i : Nat} (hi : i < l.length) : fresh l p (i + 1) = (fresh l p i && decide ((l.getD i Ru.zero).p ≠ p)) := by
  unfold fresh
  rw [rule_take hi, List.all_append]; simp
theorem PolOk.snoc {m : Int} {l : List Ru} (h : PolOk m l) (hf : l.length ≤ 12) {r : Ru} (hr : RuOk r) (hfr : fresh l r.p l.length = true) : PolOk m (l ++ [r]) := by
  obtain ⟨h1, h2, h3, h4, h5, h6, h7⟩ := h
  refine ⟨h1, h2, by simp; omega, fun x hx => ?_, fun x hx => ?_, ?_, ?_⟩
  · rcases List.mem_append.1 hx with hx | hx
    · exact h4 x hx
    · rw [List.mem_singleton.1 hx]; exact hr.1
  · rcases List.mem_append.1 hx with hx | hx
    · exact h5 x hx
    · rw [List.mem_singleton.1 hx]; exact hr.2
  · rw [List.map_append]
    refine List.nodup_append.2 ⟨h6, by simp, ?_⟩
    intro a ha b hb e
    simp only [List.map_cons, List.map_nil, List.mem_singleton] at hb
    subst hb
    obtain ⟨x, hx, hxe⟩ := List.mem_map.1 ha
    unfold fresh at hfr
    rw [List.take_length, List.all_eq_true] at hfr
    have := hfr x hx
    simp only [decide_eq_true_iff] at this
    exact this (hxe.trans e)
  · rw [List.map_append]; exact List.mem_append_left _ h7
/-- Where Policy stands: its rules, in the block b. -/
structure PolAt (w : World) (m : Int) (v : Value) (l : List Ru) (wr : World) : Prop where
  bel : Below w.heap.size w wr
  size : w.heap.size + 2 ≤ wr.heap.size
  t4 : Blk wr w.heap.size #[.int .i64 0, .slice none 0 0] 28
  t5 : Blk wr (w.heap.size + 1) #[.int .i64 m, v] 28
  row : kRu.R 37 wr (w.heap.size + 2) (fun _ => True) v l
  ok : PolOk m l
theorem PolAt.step {w : World} {m : Int} {v : Value} {l : List Ru} {wr w' : World} (h : PolAt w m v l wr) (hb : Below wr.heap.size wr w') : PolAt w m v l w' :=
  ⟨h.bel.trans (hb.mono h.bel.size), Nat.le_trans h.size hb.size, h.t4.below hb h.t4.lt, h.t5.below hb h.t5.lt, Kd.R_below h.row hb, h.ok⟩

theorem nm5 (k : Int) (h1 : 1 ≤ k) (h3 : k ≤ 3) : RuOk ⟨⟨#[]⟩, 1000, 5, k⟩ := ruOk (.inl (by rw [Lib.toList_data]; rfl)) (by decide) (by decide) (by decide) ⟨h1, h3⟩
theorem pol_first {m k : Int} (h1 : 1 ≤ m) (h2 : m ≤ 50) (k1 : 1 ≤ k) (k3 : k ≤ 3) : PolOk m [⟨⟨#[]⟩, 1000, 5, k⟩] := by
  have h := nm5 k k1 k3
  refine ⟨h1, h2, by simp, fun r hr => ?_, fun r hr => ?_, by simp, by simp⟩
  · rw [List.mem_singleton.1 hr]; exact h.1
  · rw [List.mem_singleton.1 hr]; exact h.2
set_option maxHeartbeats 8000000 in
set_option maxRecDepth 100000 in
theorem law_policy (most : Int) (A : Option Addr) (c : Nat) (l : List Nu) (w : World) (hC : kNu.C w A l.length l) (hm : 0 ≤ most ∧ most ≤ 65535) (hu : ∀ x ∈ l, Nu.Ok x) :
    Calls Tryz.prog 7 #[.int .u16 most, .slice A l.length c] w (PolPost w) := by
  have hmax := Kd.C_max hC
  have HC := Lib.hid hC; have HU := Lib.hid hu
  obtain ⟨hm0, hm1⟩ := hm
  have hc1 : IntKind.i64.wrap (most % 50) = most % 50 := by rw [IntKind.wrap_i64]; omega
  have hc2 : IntKind.u8.wrap (most % 3) = most % 3 := by rw [IntKind.wrap_u8]; omega
  clear hC hu
  obtain ⟨W, hW⟩ : ∃ W, W = (w.alloc (.cells #[.int .i64 0, .slice none 0 0] 28)).alloc (.cells #[.int .i64 (1 + most % 50), .slice none 0 0] 28) := ⟨_, rfl⟩
  have HBW := Lib.hid (show Below w.heap.size w W by rw [hW]; exact parse_below _ _ _)
  have hsW : W.heap.size = w.heap.size + 2 := by rw [hW]; simp
  have HT4 := Lib.hid (show Blk W w.heap.size #[.int .i64 0, .slice none 0 0] 28 by rw [hW]; exact (Blk.new _ _ _).alloc _)
  have HT5 := Lib.hid (show Blk W (w.heap.size + 1) #[.int .i64 (1 + most % 50), .slice none 0 0] 28 by rw [hW]; exact Blk.new_at (by simp))
  have HW := Lib.hid hW; have HSW := Lib.hid hsW
  clear hW hsW
  go_enter Tryz.func7, Tryz.ntmps7
  go_wp2_with (at_builtin; rw [← HW.out]; refine Kd.R_append kRu (w0 := W) (W := W) W.heap.size rfl (.tmp 16) (.tmp 22) 26 37 _ 40 rfl (by kernel_rfl) rules_info rfl (by decide) (by decide) (.slice none 0 0) [] ⟨⟨#[]⟩, 1000, 5, 1 + most % 3⟩ (Ru.cells ⟨⟨#[]⟩, 1000, 5, 1 + most % 3⟩) (fun _ => True) (fun _ => False) rfl (by rw [HSW.out]; rfl) kRu_M (fun _ h => h.elim) (fun _ _ => trivial) (Kd.R_nil _ _ _ _ _) (Below.refl _ _) (Nat.le_refl _) (by simp) ?_; intro v0 w1 hR1 hB1 hg1 hat1; obtain ⟨V0, c0, hv0⟩ := Kd.R_slice hR1; subst hv0; have D5 := HT5.out.below hB1 HT5.out.lt; have y0 := D5.cell_at 0 (.int .i64 (1 + most % 50)) rfl; have y1 := D5.cell_at 1 (.slice none 0 0) rfl; have g0 := D5.free 0; have g1 := D5.free 1; have HR1 := Lib.hid hR1; have HB1 := Lib.hid hB1; have HD5 := Lib.hid D5; clear D5 hR1 hB1 hg1 hat1)
  have P0 := Lib.hid (show PolAt w (1 + most % 50) (.slice V0 1 c0) [⟨⟨#[]⟩, 1000, 5, 1 + most % 3⟩] (w1.setCell ⟨w.heap.size + 1, 1, none⟩ (.slice V0 1 c0)) from by
    have hs1 := HB1.out.size
    have hsw := HSW.out
    refine ⟨below_grown (HBW.out.trans (HB1.out.mono HBW.out.size)) (by omega) (grown_set w1 (w.heap.size + 1) 1 _) (by omega), by rw [size_set]; omega, (HT4.out.below HB1.out HT4.out.lt).far (by omega) 1 _, by simpa using HD5.out.set 1 (.slice V0 1 c0), ?_, pol_first (by omega) (by omega) (by omega) (by omega)⟩
    have := R_low HR1.out (b := w.heap.size + 1) (by omega) 1 (.slice V0 1 c0)
    rw [hsw] at this
    exact this)
  clear y0 y1 g0 g1 HD5 HR1 HB1
  go_loopw [6] (fun kv wr => ∃ (k : Nat) (v : Value) (L : List Ru), kv = .int .i64 k ∧ k ≤ 12 ∧ L.length ≤ k + 1 ∧ Aside1 (PolAt w (1 + most % 50) v L wr)) (fun kv _ => 12 - (intOf kv).toNat)
  case atStart => exact ⟨0, _, _, rfl, by omega, Nat.le_refl _, ⟨P0.out⟩⟩
  case round =>
    clear P0
    obtain ⟨k, v, L, rfl, hk, hLk, HI⟩ := hrel
    have HI := Lib.hid HI.out
    obtain ⟨VL, cL, hv⟩ := Kd.R_slice HI.out.row
    subst hv
    generalize hmq : 1 + most % 50 = mq at HI ⊢
    have x0 := HI.out.t5.cell_at 0 (.int .i64 mq) rfl
    have x1 := HI.out.t5.cell_at 1 (.slice VL L.length cL) rfl
    clear hmq
    by_cases hgo : k < l.length ∧ k < 12
    · obtain ⟨h1, h2⟩ := hgo
      have h1z : (k : Int) < (l.length : Int) := by omega
      have h2z : (k : Int) < 12 := by omega
      obtain ⟨ad, A0, ca, hA, p0, p1, p2, p3, hca, hCp⟩ := nu_cells (Kd.C_below HC.out HI.out.bel) k h1
      subst hA
      obtain ⟨r, hr⟩ : ∃ r, r = l.getD k Nu.zero := ⟨_, rfl⟩
      have hok : Nu.Ok r := HU.out r (by rw [hr, List.getD_eq_getElem?_getD, List.getElem?_eq_getElem h1]; exact List.getElem_mem h1)
      rw [← hr] at p0 p1 p2 p3 hca hCp
      clear hr
      obtain ⟨rp, re, ru, rk⟩ := r
      obtain ⟨ok1, ⟨ok2, ok3⟩, ⟨ok4, ok5⟩, ⟨ok6, ok7⟩⟩ := hok
      simp only at p0 p1 p2 p3 hca hCp ok1 ok2 ok3 ok4 ok5 ok6 ok7
      have KY := Lib.hid (fun w' (hb : Below wr.heap.size wr w') => law_key A0 ca rp w' (Kd.C_below hCp hb) ok1)
      have e1 : IntKind.u64.wrap re = re := by rw [IntKind.wrap_u64]; omega
      have e2 : IntKind.u64.wrap (1 + re) = 1 + re := by rw [IntKind.wrap_u64]; omega
      have e3 : IntKind.u64.wrap ru = ru := by rw [IntKind.wrap_u64]; omega
      have e4 : IntKind.u64.wrap (1 + ru) = 1 + ru := by rw [IntKind.wrap_u64]; omega
      have e5 : IntKind.u8.wrap (1 + rk % 3) = 1 + rk % 3 := by rw [IntKind.wrap_u8]; omega
      have e6 : rk.tmod 3 = rk % 3 := Int.tmod_eq_emod_of_nonneg ok6
      clear ok1 hCp
      go_wp2_with fail
      have hs2 := HI.out.size
      refine startM 30 (fun w' => Below wr.heap.size wr w') [29] (by kernel_rfl) rfl (by kernel_rfl) (Below.drew (Below.refl _ _)) (fun hHeld => ?_)
      refine takeM 0 (v := ?_) (a' := ?_) rfl rfl (by kernel_rfl) (fun _ _ _ h => h) (Or.inl ⟨by rfl, ?_⟩) hHeld ?_ ?_; rotate_left; (rintro w' hbw; have s0 := pw_cell_below hbw p0; have s1 := pw_cell_below hbw p1; have s2 := pw_cell_below hbw p2; have s3 := pw_cell_below hbw p3; go_simp; with_reducible rfl); rotate_left; (simp only [Act.put, List.setIfInBounds_toArray, List.set_cons_zero, List.set_cons_succ]; rfl)
      refine takeM 1 (v := ?_) (a' := ?_) rfl rfl (by kernel_rfl) (fun _ _ _ h => h) (Or.inl ⟨by rfl, ?_⟩) hHeld ?_ ?_; rotate_left; (rintro w' hbw; have s0 := pw_cell_below hbw p0; have s1 := pw_cell_below hbw p1; have s2 := pw_cell_below hbw p2; have s3 := pw_cell_below hbw p3; go_simp; with_reducible rfl); rotate_left; (simp only [Act.put, List.setIfInBounds_toArray, List.set_cons_zero, List.set_cons_succ]; rfl)
      refine takeM 2 (v := ?_) (a' := ?_) rfl rfl (by kernel_rfl) (fun _ _ _ h => h) (Or.inl ⟨by rfl, ?_⟩) hHeld ?_ ?_; rotate_left; (rintro w' hbw; have s0 := pw_cell_below hbw p0; have s1 := pw_cell_below hbw p1; have s2 := pw_cell_below hbw p2; have s3 := pw_cell_below hbw p3; go_simp; with_reducible rfl); rotate_left; (simp only [Act.put, List.setIfInBounds_toArray, List.set_cons_zero, List.set_cons_succ]; rfl)
      refine takeM 3 (v := ?_) (a' := ?_) rfl rfl (by kernel_rfl) (fun _ _ _ h => h) (Or.inl ⟨by rfl, ?_⟩) hHeld ?_ ?_; rotate_left; (rintro w' hbw; have s0 := pw_cell_below hbw p0; have s1 := pw_cell_below hbw p1; have s2 := pw_cell_below hbw p2; have s3 := pw_cell_below hbw p3; go_simp; with_reducible rfl); rotate_left; (simp only [Act.put, List.setIfInBounds_toArray, List.set_cons_zero, List.set_cons_succ]; rfl)
      refine takeM 4 (v := ?_) (a' := ?_) rfl rfl (by kernel_rfl) (fun _ _ _ h => h) (Or.inl ⟨by rfl, ?_⟩) hHeld ?_ ?_; rotate_left; (rintro w' hbw; have s0 := pw_cell_below hbw p0; have s1 := pw_cell_below hbw p1; have s2 := pw_cell_below hbw p2; have s3 := pw_cell_below hbw p3; go_simp; with_reducible rfl); rotate_left; (simp only [Act.put, List.setIfInBounds_toArray, List.set_cons_zero, List.set_cons_succ]; rfl)
      refine takeM 6 (v := ?_) (a' := ?_) rfl rfl (by kernel_rfl) (fun _ _ _ h => h) (Or.inl ⟨by rfl, ?_⟩) hHeld ?_ ?_; rotate_left; (rintro w' hbw; have s0 := pw_cell_below hbw p0; have s1 := pw_cell_below hbw p1; have s2 := pw_cell_below hbw p2; have s3 := pw_cell_below hbw p3; go_simp; with_reducible rfl); rotate_left; (simp only [Act.put, List.setIfInBounds_toArray, List.set_cons_zero, List.set_cons_succ]; rfl)
      refine takeM 7 (v := ?_) (a' := ?_) rfl rfl (by kernel_rfl) (fun _ _ _ h => h) (Or.inl ⟨by rfl, ?_⟩) hHeld ?_ ?_; rotate_left; (rintro w' hbw; have s0 := pw_cell_below hbw p0; have s1 := pw_cell_below hbw p1; have s2 := pw_cell_below hbw p2; have s3 := pw_cell_below hbw p3; go_simp; with_reducible rfl); rotate_left; (simp only [Act.put, List.setIfInBounds_toArray, List.set_cons_zero, List.set_cons_succ]; rfl)
      refine takeM 8 (v := ?_) (a' := ?_) rfl rfl (by kernel_rfl) (fun _ _ _ h => h) (Or.inl ⟨by rfl, ?_⟩) hHeld ?_ ?_; rotate_left; (rintro w' hbw; have s0 := pw_cell_below hbw p0; have s1 := pw_cell_below hbw p1; have s2 := pw_cell_below hbw p2; have s3 := pw_cell_below hbw p3; go_simp; with_reducible rfl); rotate_left; (simp only [Act.put, List.setIfInBounds_toArray, List.set_cons_zero, List.set_cons_succ]; rfl)
      refine takeM 9 (v := ?_) (a' := ?_) rfl rfl (by kernel_rfl) (fun _ _ _ h => h) (Or.inl ⟨by rfl, ?_⟩) hHeld ?_ ?_; rotate_left; (rintro w' hbw; have s0 := pw_cell_below hbw p0; have s1 := pw_cell_below hbw p1; have s2 := pw_cell_below hbw p2; have s3 := pw_cell_below hbw p3; go_simp; with_reducible rfl); rotate_left; (simp only [Act.put, List.setIfInBounds_toArray, List.set_cons_zero, List.set_cons_succ]; rfl)
      refine takeM 10 (v := ?_) (a' := ?_) rfl rfl (by kernel_rfl) (fun _ _ _ h => h) (Or.inl ⟨by rfl, ?_⟩) hHeld ?_ ?_; rotate_left; (rintro w' hbw; have s0 := pw_cell_below hbw p0; have s1 := pw_cell_below hbw p1; have s2 := pw_cell_below hbw p2; have s3 := pw_cell_below hbw p3; go_simp; with_reducible rfl); rotate_left; (simp only [Act.put, List.setIfInBounds_toArray, List.set_cons_zero, List.set_cons_succ]; rfl)
      refine takeM 11 (v := ?_) (a' := ?_) rfl rfl (by kernel_rfl) (fun _ _ _ h => h) (Or.inl ⟨by rfl, ?_⟩) hHeld ?_ ?_; rotate_left; (rintro w' hbw; have s0 := pw_cell_below hbw p0; have s1 := pw_cell_below hbw p1; have s2 := pw_cell_below hbw p2; have s3 := pw_cell_below hbw p3; go_simp; with_reducible rfl); rotate_left; (simp only [Act.put, List.setIfInBounds_toArray, List.set_cons_zero, List.set_cons_succ]; rfl)
      refine takeM 12 (v := ?_) (a' := ?_) rfl rfl (by kernel_rfl) (fun _ _ _ h => h) (Or.inl ⟨by rfl, ?_⟩) hHeld ?_ ?_; rotate_left; (rintro w' hbw; have s0 := pw_cell_below hbw p0; have s1 := pw_cell_below hbw p1; have s2 := pw_cell_below hbw p2; have s3 := pw_cell_below hbw p3; go_simp; with_reducible rfl); rotate_left; (simp only [Act.put, List.setIfInBounds_toArray, List.set_cons_zero, List.set_cons_succ]; rfl)
      refine takeM 13 (v := ?_) (a' := ?_) rfl rfl (by kernel_rfl) (fun _ _ _ h => h) (Or.inl ⟨by rfl, ?_⟩) hHeld ?_ ?_; rotate_left; (rintro w' hbw; have s0 := pw_cell_below hbw p0; have s1 := pw_cell_below hbw p1; have s2 := pw_cell_below hbw p2; have s3 := pw_cell_below hbw p3; go_simp; with_reducible rfl); rotate_left; (simp only [Act.put, List.setIfInBounds_toArray, List.set_cons_zero, List.set_cons_succ]; rfl)
      refine takeM 14 (v := ?_) (a' := ?_) rfl rfl (by kernel_rfl) (fun _ _ _ h => h) (Or.inl ⟨by rfl, ?_⟩) hHeld ?_ ?_; rotate_left; (rintro w' hbw; have s0 := pw_cell_below hbw p0; have s1 := pw_cell_below hbw p1; have s2 := pw_cell_below hbw p2; have s3 := pw_cell_below hbw p3; go_simp; with_reducible rfl); rotate_left; (simp only [Act.put, List.setIfInBounds_toArray, List.set_cons_zero, List.set_cons_succ]; rfl)
      refine takeM 15 (v := ?_) (a' := ?_) rfl rfl (by kernel_rfl) (fun _ _ _ h => h) (Or.inl ⟨by rfl, ?_⟩) hHeld ?_ ?_; rotate_left; (rintro w' hbw; have s0 := pw_cell_below hbw p0; have s1 := pw_cell_below hbw p1; have s2 := pw_cell_below hbw p2; have s3 := pw_cell_below hbw p3; go_simp; with_reducible rfl); rotate_left; (simp only [Act.put, List.setIfInBounds_toArray, List.set_cons_zero, List.set_cons_succ]; rfl)
      refine takeM 16 (v := ?_) (a' := ?_) rfl rfl (by kernel_rfl) (fun _ _ _ h => h) (Or.inl ⟨by rfl, ?_⟩) hHeld ?_ ?_; rotate_left; (rintro w' hbw; have s0 := pw_cell_below hbw p0; have s1 := pw_cell_below hbw p1; have s2 := pw_cell_below hbw p2; have s3 := pw_cell_below hbw p3; go_simp; with_reducible rfl); rotate_left; (simp only [Act.put, List.setIfInBounds_toArray, List.set_cons_zero, List.set_cons_succ]; rfl)
      refine takeM 17 (v := ?_) (a' := ?_) rfl rfl (by kernel_rfl) (fun _ _ _ h => h) (Or.inl ⟨by rfl, ?_⟩) hHeld ?_ ?_; rotate_left; (rintro w' hbw; have s0 := pw_cell_below hbw p0; have s1 := pw_cell_below hbw p1; have s2 := pw_cell_below hbw p2; have s3 := pw_cell_below hbw p3; go_simp; with_reducible rfl); rotate_left; (simp only [Act.put, List.setIfInBounds_toArray, List.set_cons_zero, List.set_cons_succ]; rfl)
      refine takeM 18 (v := ?_) (a' := ?_) rfl rfl (by kernel_rfl) (fun _ _ _ h => h) (Or.inl ⟨by rfl, ?_⟩) hHeld ?_ ?_; rotate_left; (rintro w' hbw; have s0 := pw_cell_below hbw p0; have s1 := pw_cell_below hbw p1; have s2 := pw_cell_below hbw p2; have s3 := pw_cell_below hbw p3; go_simp; with_reducible rfl); rotate_left; (simp only [Act.put, List.setIfInBounds_toArray, List.set_cons_zero, List.set_cons_succ]; rfl)
      refine takeM 19 (v := ?_) (a' := ?_) rfl rfl (by kernel_rfl) (fun _ _ _ h => h) (Or.inl ⟨by rfl, ?_⟩) hHeld ?_ ?_; rotate_left; (rintro w' hbw; have s0 := pw_cell_below hbw p0; have s1 := pw_cell_below hbw p1; have s2 := pw_cell_below hbw p2; have s3 := pw_cell_below hbw p3; go_simp; with_reducible rfl); rotate_left; (simp only [Act.put, List.setIfInBounds_toArray, List.set_cons_zero, List.set_cons_succ]; rfl)
      refine takeM 20 (v := ?_) (a' := ?_) rfl rfl (by kernel_rfl) (fun _ _ _ h => h) (Or.inl ⟨by rfl, ?_⟩) hHeld ?_ ?_; rotate_left; (rintro w' hbw; have s0 := pw_cell_below hbw p0; have s1 := pw_cell_below hbw p1; have s2 := pw_cell_below hbw p2; have s3 := pw_cell_below hbw p3; go_simp; with_reducible rfl); rotate_left; (simp only [Act.put, List.setIfInBounds_toArray, List.set_cons_zero, List.set_cons_succ]; rfl)
      refine takeM 21 (v := ?_) (a' := ?_) rfl rfl (by kernel_rfl) (fun _ _ _ h => h) (Or.inl ⟨by rfl, ?_⟩) hHeld ?_ ?_; rotate_left; (rintro w' hbw; have s0 := pw_cell_below hbw p0; have s1 := pw_cell_below hbw p1; have s2 := pw_cell_below hbw p2; have s3 := pw_cell_below hbw p3; go_simp; with_reducible rfl); rotate_left; (simp only [Act.put, List.setIfInBounds_toArray, List.set_cons_zero, List.set_cons_succ]; rfl)
      refine takeM 22 (v := ?_) (a' := ?_) rfl rfl (by kernel_rfl) (fun _ _ _ h => h) (Or.inl ⟨by rfl, ?_⟩) hHeld ?_ ?_; rotate_left; (rintro w' hbw; have s0 := pw_cell_below hbw p0; have s1 := pw_cell_below hbw p1; have s2 := pw_cell_below hbw p2; have s3 := pw_cell_below hbw p3; go_simp; with_reducible rfl); rotate_left; (simp only [Act.put, List.setIfInBounds_toArray, List.set_cons_zero, List.set_cons_succ]; rfl)
      refine takeM 23 (v := ?_) (a' := ?_) rfl rfl (by kernel_rfl) (fun _ _ _ h => h) (Or.inl ⟨by rfl, ?_⟩) hHeld ?_ ?_; rotate_left; (rintro w' hbw; have s0 := pw_cell_below hbw p0; have s1 := pw_cell_below hbw p1; have s2 := pw_cell_below hbw p2; have s3 := pw_cell_below hbw p3; go_simp; with_reducible rfl); rotate_left; (simp only [Act.put, List.setIfInBounds_toArray, List.set_cons_zero, List.set_cons_succ]; rfl)
      refine takeM 24 (v := ?_) (a' := ?_) rfl rfl (by kernel_rfl) (fun _ _ _ h => h) (Or.inl ⟨by rfl, ?_⟩) hHeld ?_ ?_; rotate_left; (rintro w' hbw; have s0 := pw_cell_below hbw p0; have s1 := pw_cell_below hbw p1; have s2 := pw_cell_below hbw p2; have s3 := pw_cell_below hbw p3; go_simp; with_reducible rfl); rotate_left; (simp only [Act.put, List.setIfInBounds_toArray, List.set_cons_zero, List.set_cons_succ]; rfl)
      refine takeM 25 (v := ?_) (a' := ?_) rfl rfl (by kernel_rfl) (fun _ _ _ h => h) (Or.inl ⟨by rfl, ?_⟩) hHeld ?_ ?_; rotate_left; (rintro w' hbw; have s0 := pw_cell_below hbw p0; have s1 := pw_cell_below hbw p1; have s2 := pw_cell_below hbw p2; have s3 := pw_cell_below hbw p3; go_simp; with_reducible rfl); rotate_left; (simp only [Act.put, List.setIfInBounds_toArray, List.set_cons_zero, List.set_cons_succ]; rfl)
      refine takeM 26 (v := ?_) (a' := ?_) rfl rfl (by kernel_rfl) (fun _ _ _ h => h) (Or.inl ⟨by rfl, ?_⟩) hHeld ?_ ?_; rotate_left; (rintro w' hbw; have s0 := pw_cell_below hbw p0; have s1 := pw_cell_below hbw p1; have s2 := pw_cell_below hbw p2; have s3 := pw_cell_below hbw p3; go_simp; with_reducible rfl); rotate_left; (simp only [Act.put, List.setIfInBounds_toArray, List.set_cons_zero, List.set_cons_succ]; rfl)
      refine join_ (σ := ByteArray × Nat) 1 (mrk 30 [28, 27, 5, 26, 25, 24, 23, 22, 21, 20, 19, 18, 17, 16, 15, 14, 13, 12, 11, 10, 9, 8, 7, 6, 4, 3, 2, 1, 0]) (fun s => [(40, .string s.1), (62, .agg #[.string s.1, .int .u64 (1 + re), .int .u64 (1 + ru), .int .u8 (1 + rk % 3)]), (7, .pointer (some ⟨s.2, 0, none⟩))]) (fun s w' => Below wr.heap.size wr w' ∧ Ky.right s.1.data.toList = true ∧ s.1.size ≤ 12 ∧ wr.heap.size ≤ s.2 ∧ Blk w' s.2 #[.string ⟨#[]⟩, .int .u64 0, .int .u64 0, .int .u8 0] 37) ?_ ?_
      · rintro ⟨ks, b⟩ w' ⟨hb, hk1, hk2, hb2, hB⟩
        have hbs := hb.size
        have hB' := hB
        have f0 := hB.free 0
        have f1 := hB.free 1
        have f2 := hB.free 2
        have f3 := hB.free 3
        have z0 := hB.cell_at 0 (.string ⟨#[]⟩) rfl
        have z1 := hB.cell_at 1 (.int .u64 0) rfl
        have z2 := hB.cell_at 2 (.int .u64 0) rfl
        have z3 := hB.cell_at 3 (.int .u8 0) rfl
        have hB4 := (((hB.set 0 (.string ks)).set 1 (.int .u64 (1 + re))).set 2 (.int .u64 (1 + ru))).set 3 (.int .u8 (1 + rk % 3))
        have hbl := below_grown (below_grown (below_grown (below_grown hb hbs (grown_set w' b 0 (.string ks)) hb2) (by rw [size_set]; exact hbs) (grown_set _ b 1 (.int .u64 (1 + re))) hb2) (by rw [size_set, size_set]; exact hbs) (grown_set _ b 2 (.int .u64 (1 + ru))) hb2) (by rw [size_set, size_set, size_set]; exact hbs) (grown_set _ b 3 (.int .u8 (1 + rk % 3))) hb2
        have HB4 := Lib.hid hB4; have HBL := Lib.hid hbl; have HBB := Lib.hid hb
        have HPB := Lib.hid p2
        clear hB hB' hB4 hbl hb hHeld KY
        simp only [putAll, Act.put, List.setIfInBounds_toArray, List.set_cons_zero, List.set_cons_succ]
        refine lastM 29 rfl rfl (by kernel_rfl) rfl (fun K hK => ?_)
        go_simp
        refine hK.out _ _ ?_
        refine done_ (by kernel_rfl) ?_
        clear f0 f1 f2 f3 z0 z1 z2 z3 hK
        have HB9 := Lib.hid (show Blk ((((w'.setCell ⟨b, 0, none⟩ (.string ks)).setCell ⟨b, 1, none⟩ (.int .u64 (1 + re))).setCell ⟨b, 2, none⟩ (.int .u64 (1 + ru))).setCell ⟨b, 3, none⟩ (.int .u8 (1 + rk % 3))) b #[.string ks, .int .u64 (1 + re), .int .u64 (1 + ru), .int .u8 (1 + rk % 3)] 37 from by simpa using HB4.out)
        generalize (((w'.setCell ⟨b, 0, none⟩ (.string ks)).setCell ⟨b, 1, none⟩ (.int .u64 (1 + re))).setCell ⟨b, 2, none⟩ (.int .u64 (1 + ru))).setCell ⟨b, 3, none⟩ (.int .u8 (1 + rk % 3)) = W10 at HBL HB9 ⊢
        clear HB4 HBB
        have o0 := pw_cell_below HBL.out p0; have o1 := pw_cell_below HBL.out p1; have o2 := pw_cell_below HBL.out p2; have o3 := pw_cell_below HBL.out p3
        have hbn : w.heap.size + 2 ≤ b := by omega
        have c0 := HB9.out.cell_at 1 (.int .u64 (1 + re)) rfl
        have c0' := HB9.out.cell_at 2 (.int .u64 (1 + ru)) rfl
        have f1 := HB9.out.free 1
        have f2 := HB9.out.free 2
        clear p0 p1 p2 p3 x0 x1
        have PA0 := Lib.hid (HI.out.step HBL.out)
        have x0 := PA0.out.t5.cell_at 0 (.int .i64 mq) rfl
        have x1 := PA0.out.t5.cell_at 1 (.slice VL L.length cL) rfl
        by_cases hk200 : 200 ≤ rk
        · have q1 : IntKind.u64.wrap (re % 50) = re % 50 := by rw [IntKind.wrap_u64]; omega
          have q2 : IntKind.u64.wrap (1 + re % 50) = 1 + re % 50 := by rw [IntKind.wrap_u64]; omega
          have q3 : IntKind.u64.wrap (ru % 9) = ru % 9 := by rw [IntKind.wrap_u64]; omega
          have q4 : IntKind.u64.wrap (1 + ru % 9) = 1 + ru % 9 := by rw [IntKind.wrap_u64]; omega
          have o1f : (W10.setCell ⟨b, 1, none⟩ (.int .u64 (1 + re % 50))).cell? ⟨(ad.add (k * 4)).block, (ad.add (k * 4)).off + 2, none⟩ = some (.int .u16 ru) := by
            rw [World.cell?_setCell_far _ _ _ _ (Ne.symm (Nat.ne_of_lt (Nat.lt_of_lt_of_le (World.block_lt_of_cell? wr _ HPB.out) hb2)))]; exact o2
          have z1f : (W10.setCell ⟨b, 1, none⟩ (.int .u64 (1 + re % 50))).cell? ⟨b, 2, none⟩ = some (.int .u64 (1 + ru)) := (HB9.out.set 1 _).cell_at 2 _ (by simp)
          go_wp2_with fail
          have HB7 := Lib.hid (show Blk ((W10.setCell ⟨b, 1, none⟩ (.int .u64 (1 + re % 50))).setCell ⟨b, 2, none⟩ (.int .u64 (1 + ru % 9))) b #[.string ks, .int .u64 (1 + re % 50), .int .u64 (1 + ru % 9), .int .u8 (1 + rk % 3)] 37 from by simpa using (HB9.out.set 1 (.int .u64 (1 + re % 50))).set 2 (.int .u64 (1 + ru % 9)))
          have hs10 := HBL.out.size
          have HBW11 := Lib.hid (below_grown (below_grown HBL.out hs10 (grown_set W10 b 1 (.int .u64 (1 + re % 50))) hb2) (by rw [size_set]; exact hs10) (grown_set _ b 2 (.int .u64 (1 + ru % 9))) hb2)
          generalize (W10.setCell ⟨b, 1, none⟩ (.int .u64 (1 + re % 50))).setCell ⟨b, 2, none⟩ (.int .u64 (1 + ru % 9)) = W11 at HB7 HBW11 ⊢
          clear o1f z1f
          have HOK := Lib.hid (ruOk (p := ks) (e := 1 + re % 50) (u := 1 + ru % 9) (k := 1 + rk % 3) (.inr hk1) hk2 (by omega) (by omega) (by omega))
          obtain ⟨r, hr⟩ : ∃ r : Ru, r = ⟨ks, 1 + re % 50, 1 + ru % 9, 1 + rk % 3⟩ := ⟨_, rfl⟩
          have HR7 := Lib.hid (show Blk W11 b #[.string r.p, .int .u64 r.e, .int .u64 r.u, .int .u8 r.k] 37 by rw [hr]; exact HB7.out)
          rw [← hr] at HOK
          have PA := Lib.hid (HI.out.step HBW11.out)
          clear hr HB7
          go_loopw [8, 9] (fun bv iv w3 => ∃ (i : Nat), iv = .int .i64 i ∧ bv = .bool (fresh L r.p i) ∧ i ≤ L.length ∧ Aside1 (∃ q, w3 = W11.drewN q)) (fun _ iv _ => L.length - (intOf iv).toNat)
          case atStart => exact ⟨0, rfl, rfl, Nat.zero_le _, ⟨0, rfl⟩⟩
          case round =>
            obtain ⟨i, rfl, rfl, hi, HJ⟩ := hrel
            have HJ := Lib.hid HJ.out
            have HBJ := Lib.hid (show Below W11.heap.size W11 wr from by obtain ⟨q, hq⟩ := HJ.out; rw [hq]; exact below_dN (Below.refl _ _) _)
            have PJ := Lib.hid (PA.out.step HBJ.out)
            have B7 := HR7.out.below HBJ.out HR7.out.lt
            have z0 := B7.cell_at 0 (.string r.p) rfl
            have y0 := PJ.out.t5.cell_at 0 (.int .i64 mq) rfl
            have y1 := PJ.out.t5.cell_at 1 (.slice VL L.length cL) rfl
            obtain ⟨VM, cM, hvM, hcM, hCM⟩ := Kd.R_reads PJ.out.row
            injection hvM with ev1 ev2 ev3
            subst ev1 ev3
            clear ev2
            by_cases hil : i < L.length
            · have hilz : (i : Int) < (L.length : Int) := by omega
              obtain ⟨ad2, hA2, o0, _⟩ := rule_cells hCM i hil
              subst hA2
              have HFN := Lib.hid (fresh_next (p := r.p) hil)
              obtain ⟨x, hx⟩ : ∃ x, x = L.getD i Ru.zero := ⟨_, rfl⟩
              rw [← hx] at o0 HFN
              clear hx B7 hCM
              generalize hfr : fresh L r.p i = fb at HFN ⊢
              clear hfr
              cases fb with
              | true =>
                by_cases hxp : x.p = r.p
                · have hb : (x.p.toList == r.p.toList) = true := by rw [hxp]; simp
                  have HF2 := Lib.hid (show fresh L r.p (i + 1) = false by rw [HFN.out, hxp]; simp)
                  clear hxp
                  go_wp2
                  go_quiet (fail)
                  go_wp2
                  go_roundw
                  case rel => exact ⟨i + 1, by go_num, by rw [HF2.out], by omega, ⟨drewn_more HJ.out _⟩⟩
                  case measure => simp [intOf]; omega
                · have hb : (x.p.toList == r.p.toList) = false := by rw [bytes_beq]; exact decide_eq_false hxp
                  have HF2 := Lib.hid (show fresh L r.p (i + 1) = true by rw [HFN.out, Bool.true_and]; exact decide_eq_true hxp)
                  clear hxp
                  go_wp2
                  go_quiet (fail)
                  go_wp2
                  go_roundw
                  case rel => exact ⟨i + 1, by go_num, by rw [HF2.out], by omega, ⟨drewn_more HJ.out _⟩⟩
                  case measure => simp [intOf]; omega
              | false =>
                have HF2 := Lib.hid (show fresh L r.p (i + 1) = false by rw [HFN.out]; rfl)
                go_wp2
                go_quiet (fail)
                go_wp2
                go_roundw
                case rel => exact ⟨i + 1, by go_num, by rw [HF2.out], by omega, ⟨drewn_more HJ.out _⟩⟩
                case measure => simp [intOf]; omega
            · have hilz : ¬ (i : Int) < (L.length : Int) := by omega
              obtain rfl : i = L.length := by omega
              have z1 := B7.cell_at 1 (.int .u64 r.e) rfl
              have z2 := B7.cell_at 2 (.int .u64 r.u) rfl
              have z3 := B7.cell_at 3 (.int .u8 r.k) rfl
              have HB7 := Lib.hid B7
              clear B7 hCM
              generalize hfr : fresh L r.p L.length = fb at ⊢
              cases fb with
              | true =>
                have HFR := Lib.hid hfr; clear hfr
                have hps := PJ.out.size
                go_wp2_with (at_builtin; refine Kd.R_append kRu (w0 := wr) (W := wr) (w.heap.size + 2) rfl (.tmp 108) (.tmp 110) 26 37 _ 40 rfl (by kernel_rfl) rules_info rfl (by decide) (by decide) (.slice VL L.length cL) L r r.cells (fun _ => True) (fun _ => False) rfl rfl kRu_M (fun _ h => h.elim) (fun _ _ => trivial) PJ.out.row (Below.refl _ _) hps (by omega) ?_; intro v8 w8 hR8 hB8 hg8 hat8; obtain ⟨V8, c8, hv8⟩ := Kd.R_slice hR8; subst hv8; have D5 := PJ.out.t5.below hB8 (by omega); have k0 := D5.cell_at 0 (.int .i64 mq) rfl; have k1 := D5.cell_at 1 (.slice VL L.length cL) rfl; have g0 := D5.free 0; have g1 := D5.free 1; have HR8 := Lib.hid hR8; have HB8 := Lib.hid hB8; have HD5 := Lib.hid D5; clear D5 hR8 hB8 hg8 hat8)
                have PN := Lib.hid (show PolAt w mq (.slice V8 (L ++ [r]).length c8) (L ++ [r]) (w8.setCell ⟨w.heap.size + 1, 1, none⟩ (.slice V8 (L ++ [r]).length c8)) from by
                  have hs8 := HB8.out.size
                  refine ⟨below_grown (PJ.out.bel.trans (HB8.out.mono (by omega))) (by omega) (grown_set w8 (w.heap.size + 1) 1 _) (by omega), by rw [size_set]; omega, (PJ.out.t4.below HB8.out (by omega)).far (by omega) 1 _, by simpa using HD5.out.set 1 (.slice V8 (L ++ [r]).length c8), R_low HR8.out (b := w.heap.size + 1) (by omega) 1 _, PJ.out.ok.snoc (by omega) HOK.out HFR.out⟩)
                go_roundw
                case rel => exact ⟨k + 1, _, L ++ [r], by go_num, by omega, by simp; omega, ⟨by have h := PN.out; rw [show (L ++ [r]).length = L.length + 1 by simp] at h; exact h⟩⟩
                case measure => simp [intOf]; omega
              | false =>
                clear hfr
                go_wp2
                go_roundw
                case rel => exact ⟨k + 1, _, L, by go_num, by omega, by omega, ⟨PJ.out⟩⟩
                case measure => simp [intOf]; omega
        · have HB7 := Lib.hid HB9.out
          have HBW10 := Lib.hid HBL.out
          have HOK := Lib.hid (ruOk (p := ks) (e := 1 + re) (u := 1 + ru) (k := 1 + rk % 3) (.inr hk1) hk2 (by omega) (by omega) (by omega))
          obtain ⟨r, hr⟩ : ∃ r : Ru, r = ⟨ks, 1 + re, 1 + ru, 1 + rk % 3⟩ := ⟨_, rfl⟩
          have HR7 := Lib.hid (show Blk W10 b #[.string r.p, .int .u64 r.e, .int .u64 r.u, .int .u8 r.k] 37 by rw [hr]; exact HB7.out)
          rw [← hr] at HOK
          have PA := Lib.hid (HI.out.step HBW10.out)
          clear hr HB7
          go_wp2
          go_loopw [8, 9] (fun bv iv w3 => ∃ (i : Nat), iv = .int .i64 i ∧ bv = .bool (fresh L r.p i) ∧ i ≤ L.length ∧ Aside1 (∃ q, w3 = W10.drewN q)) (fun _ iv _ => L.length - (intOf iv).toNat)
          case atStart => exact ⟨0, rfl, rfl, Nat.zero_le _, ⟨0, rfl⟩⟩
          case round =>
            obtain ⟨i, rfl, rfl, hi, HJ⟩ := hrel
            have HJ := Lib.hid HJ.out
            have HBJ := Lib.hid (show Below W10.heap.size W10 wr from by obtain ⟨q, hq⟩ := HJ.out; rw [hq]; exact below_dN (Below.refl _ _) _)
            have PJ := Lib.hid (PA.out.step HBJ.out)
            have B7 := HR7.out.below HBJ.out HR7.out.lt
            have z0 := B7.cell_at 0 (.string r.p) rfl
            have y0 := PJ.out.t5.cell_at 0 (.int .i64 mq) rfl
            have y1 := PJ.out.t5.cell_at 1 (.slice VL L.length cL) rfl
            obtain ⟨VM, cM, hvM, hcM, hCM⟩ := Kd.R_reads PJ.out.row
            injection hvM with ev1 ev2 ev3
            subst ev1 ev3
            clear ev2
            by_cases hil : i < L.length
            · have hilz : (i : Int) < (L.length : Int) := by omega
              obtain ⟨ad2, hA2, o0, _⟩ := rule_cells hCM i hil
              subst hA2
              have HFN := Lib.hid (fresh_next (p := r.p) hil)
              obtain ⟨x, hx⟩ : ∃ x, x = L.getD i Ru.zero := ⟨_, rfl⟩
              rw [← hx] at o0 HFN
              clear hx B7 hCM
              generalize hfr : fresh L r.p i = fb at HFN ⊢
              clear hfr
              cases fb with
              | true =>
                by_cases hxp : x.p = r.p
                · have hb : (x.p.toList == r.p.toList) = true := by rw [hxp]; simp
                  have HF2 := Lib.hid (show fresh L r.p (i + 1) = false by rw [HFN.out, hxp]; simp)
                  clear hxp
                  go_wp2
                  go_quiet (fail)
                  go_wp2
                  go_roundw
                  case rel => exact ⟨i + 1, by go_num, by rw [HF2.out], by omega, ⟨drewn_more HJ.out _⟩⟩
                  case measure => simp [intOf]; omega
                · have hb : (x.p.toList == r.p.toList) = false := by rw [bytes_beq]; exact decide_eq_false hxp
                  have HF2 := Lib.hid (show fresh L r.p (i + 1) = true by rw [HFN.out, Bool.true_and]; exact decide_eq_true hxp)
                  clear hxp
                  go_wp2
                  go_quiet (fail)
                  go_wp2
                  go_roundw
                  case rel => exact ⟨i + 1, by go_num, by rw [HF2.out], by omega, ⟨drewn_more HJ.out _⟩⟩
                  case measure => simp [intOf]; omega
              | false =>
                have HF2 := Lib.hid (show fresh L r.p (i + 1) = false by rw [HFN.out]; rfl)
                go_wp2
                go_quiet (fail)
                go_wp2
                go_roundw
                case rel => exact ⟨i + 1, by go_num, by rw [HF2.out], by omega, ⟨drewn_more HJ.out _⟩⟩
                case measure => simp [intOf]; omega
            · have hilz : ¬ (i : Int) < (L.length : Int) := by omega
              obtain rfl : i = L.length := by omega
              have z1 := B7.cell_at 1 (.int .u64 r.e) rfl
              have z2 := B7.cell_at 2 (.int .u64 r.u) rfl
              have z3 := B7.cell_at 3 (.int .u8 r.k) rfl
              have HB7 := Lib.hid B7
              clear B7 hCM
              generalize hfr : fresh L r.p L.length = fb at ⊢
              cases fb with
              | true =>
                have HFR := Lib.hid hfr; clear hfr
                have hps := PJ.out.size
                go_wp2_with (at_builtin; refine Kd.R_append kRu (w0 := wr) (W := wr) (w.heap.size + 2) rfl (.tmp 108) (.tmp 110) 26 37 _ 40 rfl (by kernel_rfl) rules_info rfl (by decide) (by decide) (.slice VL L.length cL) L r r.cells (fun _ => True) (fun _ => False) rfl rfl kRu_M (fun _ h => h.elim) (fun _ _ => trivial) PJ.out.row (Below.refl _ _) hps (by omega) ?_; intro v8 w8 hR8 hB8 hg8 hat8; obtain ⟨V8, c8, hv8⟩ := Kd.R_slice hR8; subst hv8; have D5 := PJ.out.t5.below hB8 (by omega); have k0 := D5.cell_at 0 (.int .i64 mq) rfl; have k1 := D5.cell_at 1 (.slice VL L.length cL) rfl; have g0 := D5.free 0; have g1 := D5.free 1; have HR8 := Lib.hid hR8; have HB8 := Lib.hid hB8; have HD5 := Lib.hid D5; clear D5 hR8 hB8 hg8 hat8)
                have PN := Lib.hid (show PolAt w mq (.slice V8 (L ++ [r]).length c8) (L ++ [r]) (w8.setCell ⟨w.heap.size + 1, 1, none⟩ (.slice V8 (L ++ [r]).length c8)) from by
                  have hs8 := HB8.out.size
                  refine ⟨below_grown (PJ.out.bel.trans (HB8.out.mono (by omega))) (by omega) (grown_set w8 (w.heap.size + 1) 1 _) (by omega), by rw [size_set]; omega, (PJ.out.t4.below HB8.out (by omega)).far (by omega) 1 _, by simpa using HD5.out.set 1 (.slice V8 (L ++ [r]).length c8), R_low HR8.out (b := w.heap.size + 1) (by omega) 1 _, PJ.out.ok.snoc (by omega) HOK.out HFR.out⟩)
                go_roundw
                case rel => exact ⟨k + 1, _, L ++ [r], by go_num, by omega, by simp; omega, ⟨by have h := PN.out; rw [show (L ++ [r]).length = L.length + 1 by simp] at h; exact h⟩⟩
                case measure => simp [intOf]; omega
              | false =>
                clear hfr
                go_wp2
                go_roundw
                case rel => exact ⟨k + 1, _, L, by go_num, by omega, by omega, ⟨PJ.out⟩⟩
                case measure => simp [intOf]; omega
      · intro hcont
        refine two_ (i := 5) (j := 28) (Ni := some 40) (Nj := some 7) (mrk 30 [5, 26, 25, 24, 23, 22, 21, 20, 19, 18, 17, 16, 15, 14, 13, 12, 11, 10, 9, 8, 7, 6, 4, 3, 2, 1, 0]) (mrk 30 [28, 26, 25, 24, 23, 22, 21, 20, 19, 18, 17, 16, 15, 14, 13, 12, 11, 10, 9, 8, 7, 6, 4, 3, 2, 1, 0]) rfl rfl rfl rfl (by kernel_rfl) (by decide) (by decide) (fun K hK => ?_) (fun K hK => ?_)
        · go_simp
          refine (KY.out _ hHeld).mono ?_
          rintro x w5 ⟨ks, rfl, hk1, hk2, hb5⟩
          have hb15 := hHeld.trans (hb5.mono hHeld.size)
          refine hK.out _ _ hb15 (fun hH5 => ?_)
          refine takeM 27 (v := ?_) (a' := ?_) rfl rfl (by kernel_rfl) (fun _ _ _ h => h) (Or.inl ⟨by rfl, ?_⟩) hH5 ?_ ?_; rotate_left; (rintro w' hbw; have s0 := pw_cell_below hbw p0; have s1 := pw_cell_below hbw p1; have s2 := pw_cell_below hbw p2; have s3 := pw_cell_below hbw p3; go_simp; with_reducible rfl); rotate_left; (simp only [Act.put, List.setIfInBounds_toArray, List.set_cons_zero, List.set_cons_succ]; rfl)
          refine oneM 28 rfl rfl (by kernel_rfl) rfl (fun K2 hK2 => ?_)
          go_simp
          refine hK2.out _ _ (hH5.alloc hH5.size _) (fun hH6 => ?_)
          exact hcont ⟨ks, w5.heap.size⟩ _ ⟨hH6, hk1, hk2, hH5.size, Blk.new _ _ _⟩
        · go_simp
          refine hK.out _ _ (hHeld.alloc hHeld.size _) (fun hH5 => ?_)
          refine oneM 5 rfl rfl (by kernel_rfl) rfl (fun K2 hK2 => ?_)
          go_simp
          refine (KY.out _ hH5).mono ?_
          rintro x w5 ⟨ks, rfl, hk1, hk2, hb5⟩
          have hb15 := hH5.trans (hb5.mono hH5.size)
          refine hK2.out _ _ hb15 (fun hH6 => ?_)
          refine takeM 27 (v := ?_) (a' := ?_) rfl rfl (by kernel_rfl) (fun _ _ _ h => h) (Or.inl ⟨by rfl, ?_⟩) hH6 ?_ ?_; rotate_left; (rintro w' hbw; have s0 := pw_cell_below hbw p0; have s1 := pw_cell_below hbw p1; have s2 := pw_cell_below hbw p2; have s3 := pw_cell_below hbw p3; go_simp; with_reducible rfl); rotate_left; (simp only [Act.put, List.setIfInBounds_toArray, List.set_cons_zero, List.set_cons_succ]; rfl)
          exact hcont ⟨ks, wr.heap.size⟩ _ ⟨hb15, hk1, hk2, Nat.le_refl _, (Blk.new wr.drew _ _).below hb5 (by simp)⟩
    · have hd4 := HI.out.t4.cell_at 0 (.int .i64 0) rfl
      have hd5 := HI.out.t4.cell_at 1 (.slice none 0 0) rfl
      have f40 := HI.out.t4.free 0
      have f41 := HI.out.t4.free 1
      have hps := HI.out.size
      by_cases h1 : k < l.length
      · have h2 : ¬ k < 12 := fun h => hgo ⟨h1, h⟩
        have h1z : (k : Int) < (l.length : Int) := by omega
        have h2z : ¬ (k : Int) < 12 := by omega
        go_wp2
        have t4 := (HI.out.t4.set 0 (.int .i64 mq)).set 1 (.slice VL L.length cL)
        have bl := below_set2 (b := w.heap.size) HI.out.bel (Nat.le_refl _) (.int .i64 mq) (.slice VL L.length cL)
        have hR := Kd.R_lower (R_low (R_low HI.out.row (b := w.heap.size) (by omega) 0 (.int .i64 mq)) (b := w.heap.size) (by omega) 1 (.slice VL L.length cL)) (base' := w.heap.size) (by omega)
        have m0 := t4.cell_at 0 (.int .i64 mq) (by simp)
        have m1 := t4.cell_at 1 (.slice VL L.length cL) (by simp)
        exact bodyPost_ret (v := .agg #[.int .i64 mq, .slice VL L.length cL]) (by simp [results, Tryz.results7, go_sem, m0, m1]) rfl ⟨mq, VL, cL, L, rfl, HI.out.ok, hR, bl⟩
      · have h1z : ¬ (k : Int) < (l.length : Int) := by omega
        go_wp2
        have t4 := (HI.out.t4.set 0 (.int .i64 mq)).set 1 (.slice VL L.length cL)
        have bl := below_set2 (b := w.heap.size) HI.out.bel (Nat.le_refl _) (.int .i64 mq) (.slice VL L.length cL)
        have hR := Kd.R_lower (R_low (R_low HI.out.row (b := w.heap.size) (by omega) 0 (.int .i64 mq)) (b := w.heap.size) (by omega) 1 (.slice VL L.length cL)) (base' := w.heap.size) (by omega)
        have m0 := t4.cell_at 0 (.int .i64 mq) (by simp)
        have m1 := t4.cell_at 1 (.slice VL L.length cL) (by simp)
        exact bodyPost_ret (v := .agg #[.int .i64 mq, .slice VL L.length cL]) (by simp [results, Tryz.results7, go_sem, m0, m1]) rfl ⟨mq, VL, cL, L, rfl, HI.out.ok, hR, bl⟩
end Go.Proofs.YtamhpnenpoamhaaGreat

/- The reference's Same of two policies that read alike. -/
namespace Go.Proofs.YtamhpnenpoamhaaGreat
open Go.RowKit Go.Proofs.YtamhpnenpoamhaaGreatW.PrintWords Go.Proofs.YtamhpnenpoamhaaGreatW.PrintLast

set_option maxHeartbeats 4000000 in
set_option maxRecDepth 100000 in
theorem ref_same (m : Int) (V1 V2 : Option Addr) (c1 c2 : Nat) (l : List Ru) (w : World) (h1 : kRu.C w V1 l.length l) (h2 : kRu.C w V2 l.length l) :
    Calls Tryz.prog 14 #[.agg #[.int .i64 m, .slice V1 l.length c1], .agg #[.int .i64 m, .slice V2 l.length c2]] w fun x w' => x = .returned (.bool true) ∧ Below w.heap.size w w' := by
  have hmax := Kd.C_max h1
  obtain ⟨W, hW⟩ : ∃ W, W = (w.alloc (.cells #[.int .i64 m, .slice V1 l.length c1] 28)).alloc (.cells #[.int .i64 m, .slice V2 l.length c2] 28) := ⟨_, rfl⟩
  have HBW := Lib.hid (show Below w.heap.size w W by rw [hW]; exact parse_below _ _ _)
  have B1 := (show Blk W w.heap.size #[.int .i64 m, .slice V1 l.length c1] 28 by rw [hW]; exact (Blk.new _ _ _).alloc _)
  have B2 := (show Blk W (w.heap.size + 1) #[.int .i64 m, .slice V2 l.length c2] 28 by rw [hW]; exact Blk.new_at (by simp))
  have H1 := Lib.hid (Kd.C_below h1 HBW.out); have H2 := Lib.hid (Kd.C_below h2 HBW.out)
  have HB1 := Lib.hid B1; have HB2 := Lib.hid B2
  have hmm : (m != m) = false := by simp
  clear h1 h2 B1 B2
  go_enter Tryz.func14, Tryz.ntmps14
  go_wp2
  rw [← hW]
  clear hW
  go_loopw [5] (fun iv wr => ∃ (i : Nat), iv = .int .i64 i ∧ i ≤ l.length ∧ Aside1 (Below W.heap.size W wr)) (fun iv _ => l.length - (intOf iv).toNat)
  case atStart => exact ⟨0, rfl, Nat.zero_le _, ⟨Below.refl _ _⟩⟩
  case round =>
    obtain ⟨i, rfl, hi, HI⟩ := hrel
    have HI := Lib.hid HI.out
    have D1 := HB1.out.below HI.out HB1.out.lt
    have D2 := HB2.out.below HI.out HB2.out.lt
    have x0 := D1.cell_at 0 (.int .i64 m) rfl
    have x1 := D1.cell_at 1 (.slice V1 l.length c1) rfl
    have y0 := D2.cell_at 0 (.int .i64 m) rfl
    have y1 := D2.cell_at 1 (.slice V2 l.length c2) rfl
    clear D1 D2
    by_cases hlt : i < l.length
    · have hltz : (i : Int) < (l.length : Int) := by omega
      obtain ⟨ad, hA, p0, p1, p2, p3⟩ := rule_cells (Kd.C_below H1.out HI.out) i hlt
      obtain ⟨ad2, hA2, q0, q1, q2, q3⟩ := rule_cells (Kd.C_below H2.out HI.out) i hlt
      subst hA hA2
      generalize l.getD i Ru.zero = r at p0 p1 p2 p3 q0 q1 q2 q3
      go_wp2
      go_quiet (fail)
      go_wp2
      go_roundw
      case rel => exact ⟨i + 1, by go_num, by omega, ⟨below_dN HI.out _⟩⟩
      case measure => simp [intOf]; omega
    · have hltz : ¬ (i : Int) < (l.length : Int) := by omega
      go_wp2
      go_ret
      exact ⟨rfl, HBW.out.trans (HI.out.mono HBW.out.size)⟩
end Go.Proofs.YtamhpnenpoamhaaGreat

/- Both Parses of one text answer alike; tollerlaw12.parses is true. -/
namespace Go.Proofs.YtamhpnenpoamhaaGreat
open Go.RowKit Go.Proofs.YtamhpnenpoamhaaGreatW.PrintWords Go.Proofs.YtamhpnenpoamhaaGreatW.PrintLast

def ErrR (e : Int) : Prop := 0 ≤ e ∧ e ≤ 65535
theorem Dg.parse_err (l : List UInt8) : ErrR (Dg.parse l).2 := by
  unfold Dg.parse ErrR
  split
  · simp
  · split <;> simp
theorem Rl.step_err (kd : Nat) (r : Ru) (s : ByteArray) : ErrR (Rl.step kd r s).1 := by
  unfold Rl.step
  have hd := Dg.parse_err s.data.toList
  have hn : ∀ z, ErrR z → ErrR (Rl.numE z (Dg.parse s.data.toList)) := fun z hz => by unfold Rl.numE; split <;> assumption
  split
  · unfold Rl.prefixE ErrR; split <;> simp
  · split
    · exact hn 24 (by unfold ErrR; simp)
    · split
      · unfold Rl.burstE
        split
        · show ErrR 26; unfold ErrR; simp
        · exact hn 25 (by unfold ErrR; simp)
      · unfold Rl.namedE ErrR; split <;> simp
theorem Rl.run_err : ∀ (ks : List Nat) (ss : List ByteArray) (r : Ru) (n : Int), ErrR (Rl.run ks ss r n).2.1
  | [], _, _, _ => by rw [Rl.run]; exact ⟨by simp, by simp⟩; rintro _ _ _ _ e; cases e
  | _ :: _, [], _, _ => by rw [Rl.run]; exact ⟨by simp, by simp⟩; rintro _ _ _ _ _ e; cases e
  | kd :: ks, s :: ss, r, n => by
    rw [Rl.run]
    split
    · exact Rl.run_err ks ss _ _
    · exact Rl.step_err kd r s
theorem Rl.parse_err (ws : List ByteArray) : ErrR (Rl.parse ws).2.1 := by
  unfold Rl.parse
  split
  · exact Rl.run_err _ _ _ _
  · split
    · exact Rl.run_err _ _ _ _
    · exact ⟨by simp, by simp⟩
theorem Cf.line_err {m : Int} {l : List Ru} {row : List Wd} {e : Int × Wd} (h : Cf.line m l row = .inr e) : ErrR e.1 := by
  unfold Cf.line at h
  split at h
  · unfold Cf.sizeL at h
    split at h
    · cases h
    · rename_i e' he
      injection h with h
      subst h
      unfold Cf.size at he
      split at he
      · injection he with he; subst he; exact ⟨by simp, by simp⟩
      · split at he
        · injection he with he; subst he; exact ⟨by simp, by simp⟩
        · split at he
          · injection he with he; subst he; exact Dg.parse_err _
          · split at he
            · injection he with he; subst he; exact ⟨by simp, by simp⟩
            · cases he
  · unfold Cf.ruleL at h
    split at h
    · cases h
    · rename_i e' he
      injection h with h
      subst h
      unfold Cf.rule at he
      split at he
      · injection he with he; subst he; exact Rl.parse_err _
      · split at he
        · injection he with he; subst he; exact ⟨by simp, by simp⟩
        · split at he
          · injection he with he; subst he; exact ⟨by simp, by simp⟩
          · cases he
theorem Cf.lines_err : ∀ (rows : List (List Wd)) {m : Int} {l : List Ru} {e : Int × Wd}, Cf.lines m l rows = .inr e → ErrR e.1
  | [], _, _, _, h => by rw [Cf.lines] at h; cases h
  | row :: rows, m, l, e, h => by
    rw [Cf.lines] at h
    split at h
    · exact Cf.lines_err rows h
    · rename_i e' he
      injection h with h
      subst h
      exact Cf.line_err he
theorem Cf.ends_err {m : Int} {l : List Ru} {e : Int} (h : Cf.ends m l = some e) : ErrR e := by
  unfold Cf.ends at h
  split at h
  · injection h with h; subst h; exact ⟨by simp, by simp⟩
  · split at h
    · injection h with h; subst h; exact ⟨by simp, by simp⟩
    · cases h
/-- What the program's Parse answers, as data. -/
def ParseIs (xs : List Int) (m : Int) (L : List Ru) (e lq cq : Int) : Prop := ErrR e ∧
  if 1048576 < xs.length then (m, L, e, lq, cq) = (0, [], 21, 0, 0) else
  match Sp.split xs with
  | .inr (l, c) => (m, L, e, lq, cq) = (0, [], 20, (l : Int), (c : Int))
  | .inl rows => match Cf.lines 0 [] rows with
    | .inr (e', wd) => (m, L, e, lq, cq) = (0, [], e', (wd.l : Int), (wd.c : Int))
    | .inl (m', l) => match Cf.ends m' l with
      | some e' => (m, L, e, lq, cq) = (0, [], e', 0, 0)
      | none => SortedR L l ∧ (m, e, lq, cq) = (m', 0, 0, 0)
theorem ParseIs.unique {xs : List Int} {m m2 : Int} {L L2 : List Ru} {e lq cq e2 lq2 cq2 : Int} (h : ParseIs xs m L e lq cq) (h2 : ParseIs xs m2 L2 e2 lq2 cq2) : m = m2 ∧ L = L2 ∧ e = e2 ∧ lq = lq2 ∧ cq = cq2 := by
  obtain ⟨_, h⟩ := h
  obtain ⟨_, h2⟩ := h2
  have key : ∀ {a b : Int × List Ru × Int × Int × Int}, (m, L, e, lq, cq) = a → (m2, L2, e2, lq2, cq2) = b → a = b → m = m2 ∧ L = L2 ∧ e = e2 ∧ lq = lq2 ∧ cq = cq2 := fun x y z => by
    rw [z, ← y] at x
    simpa using x
  split at h
  · rename_i hb; rw [if_pos hb] at h2; exact key h h2 rfl
  · rename_i hb
    rw [if_neg hb] at h2
    split at h
    · rename_i hs; rw [hs] at h2; exact key h h2 rfl
    · rename_i hs
      rw [hs] at h2
      simp only at h2
      split at h
      · rename_i hl; rw [hl] at h2; exact key h h2 rfl
      · rename_i hl
        rw [hl] at h2
        simp only at h2
        split at h
        · rename_i he; rw [he] at h2; exact key h h2 rfl
        · rename_i he
          rw [he] at h2
          obtain ⟨s1, r1⟩ := h
          obtain ⟨s2, r2⟩ := h2
          have hL : L = L2 := St.unique swo_ltR s1.1 s2.1 (s1.2.trans s2.2.symm)
          simp only [Prod.mk.injEq] at r1 r2
          exact ⟨by rw [r1.1, r2.1], hL, by rw [r1.2.1, r2.2.1], by rw [r1.2.2.1, r2.2.2.1], by rw [r1.2.2.2, r2.2.2.2]⟩
theorem C_nil {α : Type} (d : Kd α) (w : World) : d.C w none 0 [] := ⟨rfl, Nat.zero_le _, fun h => by simp at h⟩
theorem parse_is {xs : List Int} {w0 : World} {x : Ending} {w' : World} (h : ParsePost xs w0 x w') : ∃ m V vc L e lq cq, ParseIs xs m L e lq cq ∧ kRu.C w' V L.length L ∧ L.length ≤ vc ∧ x = parsed m (.slice V L.length vc) e lq cq := by
  obtain ⟨_, h⟩ := h
  unfold ParseIs
  split at h
  · rename_i hb; exact ⟨0, none, 0, [], 21, 0, 0, ⟨⟨by simp, by simp⟩, by rw [if_pos hb]⟩, C_nil _ _, Nat.le_refl _, h⟩
  · rename_i hb
    split at h
    · rename_i l c hs; exact ⟨0, none, 0, [], 20, l, c, ⟨⟨by simp, by simp⟩, by rw [if_neg hb, hs]⟩, C_nil _ _, Nat.le_refl _, h⟩
    · rename_i rows hs
      split at h
      · rename_i e wd hl; exact ⟨0, none, 0, [], e, wd.l, wd.c, ⟨Cf.lines_err _ hl, by rw [if_neg hb, hs]; simp only [hl]⟩, C_nil _ _, Nat.le_refl _, h⟩
      · rename_i m l hl
        split at h
        · rename_i e he; exact ⟨0, none, 0, [], e, 0, 0, ⟨Cf.ends_err he, by rw [if_neg hb, hs]; simp only [hl, he]⟩, C_nil _ _, Nat.le_refl _, h⟩
        · rename_i he
          obtain ⟨v, l', hso, hR, hx⟩ := h
          obtain ⟨V, vc, rfl, hvc, hC⟩ := Kd.R_reads hR
          exact ⟨m, V, vc, l', 0, 0, 0, ⟨⟨by simp, by simp⟩, by rw [if_neg hb, hs]; simp only [hl, he]; exact ⟨hso, trivial⟩⟩, hC, hvc, hx⟩
theorem rparse_is {xs : List Int} {w0 : World} {x : Ending} {w' : World} (h : RParsePost xs w0 x w') : ∃ m V vc L e lq cq, ParseIs xs m L e lq cq ∧ kRu.C w' V L.length L ∧ L.length ≤ vc ∧ x = rparsed m (.slice V L.length vc) e lq cq := by
  obtain ⟨_, h⟩ := h
  unfold ParseIs
  split at h
  · rename_i hb; exact ⟨0, none, 0, [], 21, 0, 0, ⟨⟨by simp, by simp⟩, by rw [if_pos hb]⟩, C_nil _ _, Nat.le_refl _, h⟩
  · rename_i hb
    split at h
    · rename_i l c hs; exact ⟨0, none, 0, [], 20, l, c, ⟨⟨by simp, by simp⟩, by rw [if_neg hb, hs]⟩, C_nil _ _, Nat.le_refl _, h⟩
    · rename_i rows hs
      split at h
      · rename_i e wd hl; exact ⟨0, none, 0, [], e, wd.l, wd.c, ⟨Cf.lines_err _ hl, by rw [if_neg hb, hs]; simp only [hl]⟩, C_nil _ _, Nat.le_refl _, h⟩
      · rename_i m l hl
        split at h
        · rename_i e he; exact ⟨0, none, 0, [], e, 0, 0, ⟨Cf.ends_err he, by rw [if_neg hb, hs]; simp only [hl, he]⟩, C_nil _ _, Nat.le_refl _, h⟩
        · rename_i he
          obtain ⟨V, vc, l', hso, hC, hvc, hx⟩ := h
          exact ⟨m, V, vc, l', 0, 0, 0, ⟨⟨by simp, by simp⟩, by rw [if_neg hb, hs]; simp only [hl, he]; exact ⟨hso, trivial⟩⟩, hC, hvc, hx⟩

set_option maxHeartbeats 4000000 in
set_option maxRecDepth 100000 in
theorem law_parses (A : Option Addr) (c : Nat) (xs : List Int) (w : World) (hc : (Kd.int .u8).C w A xs.length xs) (hle : xs.length ≤ c) :
    Calls Tryz.prog 10 #[.slice A xs.length c] w fun x w' => x = .returned (.bool true) ∧ Below w.heap.size w w' := by
  have CP := Lib.hid (config_parse w A c xs hc hle)
  have HC := Lib.hid hc
  clear hc
  go_enter Tryz.func10, Tryz.ntmps10
  go_wp2_with fail
  refine CP.out.mono ?_
  rintro x w1 hx
  have HB1 := Lib.hid hx.1
  obtain ⟨m, V1, vc1, L, e, lq, cq, hpi, hC1, hvc1, rfl⟩ := parse_is hx
  have hs1 := HB1.out.size
  obtain ⟨W1, hW1⟩ : ∃ W1, W1 = (w1.alloc (.cells #[.int .i64 m, .slice V1 L.length vc1] 28)).alloc (.cells #[.int .i64 lq, .int .i64 cq] 44) := ⟨_, rfl⟩
  have hb1 : Below w1.heap.size w1 W1 := by rw [hW1]; exact parse_below _ _ _
  have hsz1 : W1.heap.size = w1.heap.size + 2 := by rw [hW1]; simp
  have HT3 := Lib.hid (show Blk W1 w1.heap.size #[.int .i64 m, .slice V1 L.length vc1] 28 by rw [hW1]; exact (Blk.new _ _ _).alloc _)
  have HT5 := Lib.hid (show Blk W1 (w1.heap.size + 1) #[.int .i64 lq, .int .i64 cq] 44 by rw [hW1]; exact Blk.new_at (by simp))
  have HBW := Lib.hid (show Below w.heap.size w W1 from HB1.out.trans (hb1.mono hs1))
  have HC1 := Lib.hid (Kd.C_below hC1 hb1)
  have RP := Lib.hid (ref_parse A c xs W1 (Kd.C_below HC.out HBW.out) hle)
  have HPI := Lib.hid hpi; have HW1 := Lib.hid hW1; have HSZ1 := Lib.hid hsz1
  unfold parsed
  clear hx hpi hC1 hb1 hW1 hsz1 CP
  go_wp2_with fail
  rw [← HW1.out]
  refine RP.out.mono ?_
  rintro x w2 hx
  have HB2 := Lib.hid hx.1
  obtain ⟨m', V2, vc2, L', e', lq', cq', hpi, hC2, hvc2, rfl⟩ := rparse_is hx
  obtain ⟨rfl, rfl, rfl, rfl, rfl⟩ := HPI.out.unique hpi
  have hs2 := HB2.out.size
  obtain ⟨W2, hW2⟩ : ∃ W2, W2 = (w2.alloc (.cells #[.int .i64 m, .slice V2 L.length vc2] 28)).alloc (.cells #[.int .i64 lq, .int .i64 cq] 44) := ⟨_, rfl⟩
  have hb2 : Below w2.heap.size w2 W2 := by rw [hW2]; exact parse_below _ _ _
  have hb12 := HB2.out.trans (hb2.mono hs2)
  have B3 := HT3.out.below hb12 HT3.out.lt
  have B5 := HT5.out.below hb12 HT5.out.lt
  have B6 := (show Blk W2 w2.heap.size #[.int .i64 m, .slice V2 L.length vc2] 28 by rw [hW2]; exact (Blk.new _ _ _).alloc _)
  have B8 := (show Blk W2 (w2.heap.size + 1) #[.int .i64 lq, .int .i64 cq] 44 by rw [hW2]; exact Blk.new_at (by simp))
  have a0 := B3.cell_at 0 (.int .i64 m) rfl
  have a1 := B3.cell_at 1 (.slice V1 L.length vc1) rfl
  have b0 := B6.cell_at 0 (.int .i64 m) rfl
  have b1 := B6.cell_at 1 (.slice V2 L.length vc2) rfl
  have SA := Lib.hid (ref_same m V1 V2 vc1 vc2 L W2 (Kd.C_below HC1.out hb12) (Kd.C_below hC2 hb2))
  have HBW2 := Lib.hid (HBW.out.trans (hb12.mono HBW.out.size))
  have HB5 := Lib.hid B5; have HB8 := Lib.hid B8; have HW2 := Lib.hid hW2
  have her := HPI.out.1
  obtain ⟨her0, her1⟩ := her
  have hconv : IntKind.i64.wrap e = e := by rw [IntKind.wrap_i64]; omega
  unfold rparsed
  clear hx hpi hC2 hb2 hW2 hb12 B3 B5 B6 B8 RP
  rw [HW2.out] at a0 a1 b0 b1
  go_wp2_with fail
  rw [← HW2.out]
  refine SA.out.mono ?_
  rintro x w3 ⟨rfl, hb3⟩
  have D5 := HB5.out.below hb3 HB5.out.lt
  have D8 := HB8.out.below hb3 HB8.out.lt
  have d0 := D5.cell_at 0 (.int .i64 lq) rfl
  have d1 := D5.cell_at 1 (.int .i64 cq) rfl
  have e0 := D8.cell_at 0 (.int .i64 lq) rfl
  have e1 := D8.cell_at 1 (.int .i64 cq) rfl
  have HB3 := Lib.hid (HBW2.out.trans (hb3.mono HBW2.out.size))
  clear D5 D8 hb3
  go_wp2
  go_ret
  exact ⟨rfl, HB3.out⟩
end Go.Proofs.YtamhpnenpoamhaaGreat

/- tollerlaw12.known is true. -/
namespace Go.Proofs.YtamhpnenpoamhaaGreat
open Go.RowKit Go.Proofs.YtamhpnenpoamhaaGreatW.PrintWords Go.Proofs.YtamhpnenpoamhaaGreatW.PrintLast

/-- "size 2\ndefault 10 5 gcra\n", "size 0". -/
def kn1 : List Int := [115, 105, 122, 101, 32, 50, 10, 100, 101, 102, 97, 117, 108, 116, 32, 49, 48, 32, 53, 32, 103, 99, 114, 97, 10]
def kn2 : List Int := [115, 105, 122, 101, 32, 48]
def knR : Ru := ⟨⟨#[]⟩, 10, 5, 1⟩
def knRows1 : List (List Wd) := [[⟨⟨#[115, 105, 122, 101]⟩, 1, 1⟩, ⟨⟨#[50]⟩, 1, 6⟩], [⟨⟨#[100, 101, 102, 97, 117, 108, 116]⟩, 2, 1⟩, ⟨⟨#[49, 48]⟩, 2, 9⟩, ⟨⟨#[53]⟩, 2, 12⟩, ⟨⟨#[103, 99, 114, 97]⟩, 2, 14⟩]]
def knRows2 : List (List Wd) := [[⟨⟨#[115, 105, 122, 101]⟩, 1, 1⟩, ⟨⟨#[48]⟩, 1, 6⟩]]
theorem kn_split1 : Sp.split kn1 = .inl knRows1 := by kernel_rfl
theorem kn_split2 : Sp.split kn2 = .inl knRows2 := by kernel_rfl
theorem kn_lines1 : Cf.lines 0 [] knRows1 = .inl (2, [knR]) := by kernel_rfl
theorem kn_lines2 : Cf.lines 0 [] knRows2 = .inr (29, ⟨⟨#[48]⟩, 1, 6⟩) := by kernel_rfl
theorem kn_ends1 : Cf.ends 2 [knR] = none := by kernel_rfl
theorem kn_right : Cr.right 2 [knR] [knR] = 0 := by kernel_rfl
theorem sorted_one (r : Ru) : SortedR [r] [r] := ⟨List.pairwise_singleton _ _, St.SP.refl _⟩
theorem kn_is1 : ParseIs kn1 2 [knR] 0 0 0 := ⟨⟨by simp, by simp⟩, by
  rw [if_neg (by decide), kn_split1]
  simp only [kn_lines1, kn_ends1]
  exact ⟨sorted_one knR, trivial⟩⟩
theorem kn_is2 : ParseIs kn2 0 [] 29 1 6 := ⟨⟨by simp, by simp⟩, by
  rw [if_neg (by decide), kn_split2]
  simp only [kn_lines2]
  rfl⟩
theorem C_of_blk {w : World} {b t : Nat} {xs : List Int} {k : IntKind} {fr : Nat × Nat} (h : w.heap[b]? = some (.cells (xs.map (Value.int k)).toArray t fr)) (hl : xs.length ≤ 9223372036854775807) : (Kd.int k).C w (some ⟨b, 0, none⟩) xs.length xs := by
  refine ⟨rfl, hl, fun _ => ⟨_, rfl, fun j p hj => ⟨[.int k p], rfl, rfl, fun i u hu => ?_⟩⟩⟩
  have hi : i = 0 := by
    rcases i with _ | i
    · rfl
    · simp at hu
  subst hi
  have hu : u = .int k p := by simpa using hu.symm
  subst hu
  rw [show j * (Kd.int k).sz + 0 = j from by show j * 1 + 0 = j; omega, add_plain]
  rw [cell_of_row w b j _ t fr h, List.getElem?_toArray, List.getElem?_map, hj]; rfl
set_option maxHeartbeats 4000000 in
set_option maxRecDepth 100000 in
theorem law_known (w : World) : Calls Tryz.prog 6 #[] w fun x w' => x = .returned (.bool true) ∧ Below w.heap.size w w' := by
  have kc := fun (w : World) (C : Array Value) (n c : Nat) => Lib.run_convert_bytes_const (P := Tryz.prog) w 22 5 C n c Tryz.underlying22 Tryz.underlying5
  obtain ⟨W, hW⟩ : ∃ W, W = w.alloc (.cells (kn1.map (Value.int .u8)).toArray 5 (25, 26)) := ⟨_, rfl⟩
  have HBW := Lib.hid (show Below w.heap.size w W by rw [hW]; exact (Below.refl _ _).alloc (Nat.le_refl _) _)
  have C1 := Lib.hid (show (Kd.int .u8).C W (some ⟨w.heap.size, 0, none⟩) kn1.length kn1 from C_of_blk (by rw [hW]; exact heap_alloc_new _ _) (by decide))
  have CP := Lib.hid (config_parse W (some ⟨w.heap.size, 0, none⟩) 25 kn1 C1.out (by decide))
  have HW := Lib.hid hW
  clear hW
  go_enter Tryz.func6, Tryz.ntmps6
  go_wp2_with fail
  rw [show w.alloc (.cells #[.int .u8 115, .int .u8 105, .int .u8 122, .int .u8 101, .int .u8 32, .int .u8 50, .int .u8 10, .int .u8 100, .int .u8 101, .int .u8 102, .int .u8 97, .int .u8 117, .int .u8 108, .int .u8 116, .int .u8 32, .int .u8 49, .int .u8 48, .int .u8 32, .int .u8 53, .int .u8 32, .int .u8 103, .int .u8 99, .int .u8 114, .int .u8 97, .int .u8 10] 5 (25, 26)) = W from HW.out.symm]
  refine CP.out.mono ?_
  rintro x w1 hx
  have HB1 := Lib.hid (HBW.out.trans (hx.1.mono HBW.out.size))
  obtain ⟨m, V1, vc1, L, e, lq, cq, hpi, hC1, hvc1, rfl⟩ := parse_is hx
  obtain ⟨rfl, rfl, rfl, rfl, rfl⟩ := kn_is1.unique hpi
  unfold parsed
  have hs1 := HB1.out.size
  obtain ⟨W1, hW1⟩ : ∃ W1, W1 = (w1.alloc (.cells #[.int .i64 2, .slice V1 [knR].length vc1] 28)).alloc (.cells #[.int .i64 0, .int .i64 0] 44) := ⟨_, rfl⟩
  have hb1 : Below w1.heap.size w1 W1 := by rw [hW1]; exact parse_below _ _ _
  have hsz1 : W1.heap.size = w1.heap.size + 2 := by rw [hW1]; simp
  have HT1 := Lib.hid (show Blk W1 w1.heap.size #[.int .i64 2, .slice V1 1 vc1] 28 by rw [hW1]; exact (Blk.new _ _ _).alloc _)
  have HC1 := Lib.hid (Kd.C_below hC1 hb1)
  have HBW1 := Lib.hid (HB1.out.trans (hb1.mono hs1))
  obtain ⟨W2, hW2⟩ : ∃ W2, W2 = W1.alloc (.cells (kn2.map (Value.int .u8)).toArray 5 (6, 7)) := ⟨_, rfl⟩
  have hb2 : Below W1.heap.size W1 W2 := by rw [hW2]; exact (Below.refl _ _).alloc (Nat.le_refl _) _
  have C2 := Lib.hid (show (Kd.int .u8).C W2 (some ⟨W1.heap.size, 0, none⟩) kn2.length kn2 from C_of_blk (by rw [hW2]; exact heap_alloc_new _ _) (by decide))
  have CP2 := Lib.hid (config_parse W2 (some ⟨W1.heap.size, 0, none⟩) 6 kn2 C2.out (by decide))
  have HB2 := Lib.hid hb2
  rw [hsz1] at CP2
  have HW1 := Lib.hid hW1; have HW2 := Lib.hid hW2; have HS1 := Lib.hid hsz1
  have kc2 := fun (C : Array Value) (n c : Nat) => kc ((w1.alloc (.cells #[.int .i64 2, .slice V1 1 vc1] 28)).alloc (.cells #[.int .i64 0, .int .i64 0] 44)) C n c
  simp only [World.size_alloc] at kc2
  clear hx hpi hC1 hvc1 hb1 hb2 hW1 hW2 hsz1 C1 CP C2 HW
  go_wp2_with fail
  rw [show ((w1.alloc (.cells #[.int .i64 2, .slice V1 1 vc1] 28)).alloc (.cells #[.int .i64 0, .int .i64 0] 44)).alloc (.cells #[.int .u8 115, .int .u8 105, .int .u8 122, .int .u8 101, .int .u8 32, .int .u8 48] 5 (6, 7)) = W2 by rw [HW2.out, HW1.out]; rfl]
  refine CP2.out.mono ?_
  rintro x w2 hx
  have HB3 := Lib.hid (HB2.out.trans (hx.1.mono HB2.out.size))
  obtain ⟨m, V2, vc2, L, e, lq, cq, hpi, hC2, hvc2, rfl⟩ := parse_is hx
  obtain ⟨rfl, rfl, rfl, rfl, rfl⟩ := kn_is2.unique hpi
  unfold parsed
  have hs2 := HB3.out.size
  obtain ⟨W3, hW3⟩ : ∃ W3, W3 = (w2.alloc (.cells #[.int .i64 0, .slice V2 0 vc2] 28)).alloc (.cells #[.int .i64 1, .int .i64 6] 44) := ⟨_, rfl⟩
  have hb3 : Below w2.heap.size w2 W3 := by rw [hW3]; exact parse_below _ _ _
  have hb13 := HB3.out.trans (hb3.mono hs2)
  have B1 := HT1.out.below hb13 HT1.out.lt
  have a0 := B1.cell_at 0 (.int .i64 2) rfl
  have a1 := B1.cell_at 1 (.slice V1 1 vc1) rfl
  have B6 := (show Blk W3 (w2.heap.size + 1) #[.int .i64 1, .int .i64 6] 44 by rw [hW3]; exact Blk.new_at (by simp))
  have b0 := B6.cell_at 0 (.int .i64 1) rfl
  have b1 := B6.cell_at 1 (.int .i64 6) rfl
  have CR := Lib.hid (config_right 2 V1 vc1 [knR] W3 (Kd.C_below HC1.out hb13) (fun r hr => by rw [List.mem_singleton.1 hr]; exact ⟨by decide, by decide, by decide⟩))
  have HBE := Lib.hid (HBW1.out.trans (hb13.mono HBW1.out.size))
  have HW3 := Lib.hid hW3
  clear hx hpi hC2 hvc2 hb3 hb13 hW3 B1 B6 CP2 kc kc2
  rw [HW3.out] at a0 a1 b0 b1
  go_wp2_with fail
  rw [← HW3.out]
  refine CR.out.mono ?_
  rintro x w3 ⟨l', hso, rfl, hb⟩
  have hl' : l' = [knR] := St.unique swo_ltR hso.1 (sorted_one knR).1 (hso.2.trans (sorted_one knR).2.symm)
  subst hl'
  have HBF := Lib.hid (HBE.out.trans (hb.mono HBE.out.size))
  rw [kn_right]
  clear hb hso
  go_wp2
  go_ret
  exact ⟨rfl, HBF.out⟩
end Go.Proofs.YtamhpnenpoamhaaGreat

/- tollerlaw12.Bent: a text of rules with something else in it; it is small. -/
namespace Go.Proofs.YtamhpnenpoamhaaGreat
open Go.RowKit Go.Proofs.YtamhpnenpoamhaaGreatW.PrintWords Go.Proofs.YtamhpnenpoamhaaGreatW.PrintLast

def BPost (B : Nat) (w : World) (x : Ending) (w' : World) : Prop := ∃ (v : Value) (bs : List Int), x = .returned v ∧ (Kd.int .u8).R 5 w' w.heap.size (fun _ => True) v bs ∧ bs.length ≤ B ∧ Below w.heap.size w w'
/-- How the reference's Print ends, as bytes. -/
theorem text_bytes {m : Int} {l : List Ru} {w : World} {x : Ending} {w' : World} (h : TextPost m l w x w') : ∃ A c ts e, x = .returned (.tuple #[.slice A ts.length c, .int .i64 e]) ∧ (Kd.int .u8).C w' A ts.length ts ∧ ts.length ≤ c ∧ ts.length ≤ 1000000 ∧ Below w.heap.size w w' := by
  obtain ⟨hb, h⟩ := h
  rcases h with ⟨_, hx⟩ | ⟨h0, l', v, hso, hx, hR⟩
  · exact ⟨none, 0, [], _, hx, C_nil _ _, Nat.le_refl _, Nat.zero_le _, hb⟩
  · obtain ⟨A, c, rfl, hc, hC⟩ := Kd.R_reads hR
    obtain ⟨_, _, hl, hr⟩ := Cp.rightR_zero h0
    have hlr := Cp.rules_right hr
    exact ⟨A, c, _, 0, hx, hC, hc, Cp.lines_join (fun r hr => hlr r (hso.2.mem.1 hr)) (by rw [hso.len]; exact hl), hb⟩

set_option maxHeartbeats 8000000 in
set_option maxRecDepth 100000 in
theorem law_bent (m : Int) (V : Option Addr) (vc : Nat) (l : List Ru) (at_ b : Int) (s : ByteArray) (w : World) (hc : kRu.C w V l.length l) (hle : l.length ≤ vc) (ht : ∀ r ∈ l, Cr.Typed r) (ha : 0 ≤ at_ ∧ at_ ≤ 65535) (hb : 0 ≤ b ∧ b ≤ 255) (hs : s.size ≤ 1000000) :
    Calls Tryz.prog 9 #[.agg #[.int .i64 m, .slice V l.length vc], .int .u16 at_, .int .u8 b, .string s] w (BPost 3000001 w) := by
  obtain ⟨ha0, ha1⟩ := ha
  obtain ⟨hb0, hb1⟩ := hb
  obtain ⟨W, hW⟩ : ∃ W, W = w.alloc (.cells #[.int .i64 m, .slice V l.length vc] 28) := ⟨_, rfl⟩
  have HBW := Lib.hid (show Below w.heap.size w W by rw [hW]; exact (Below.refl _ _).alloc (Nat.le_refl _) _)
  have TP := Lib.hid (ref_text m V vc l W (Kd.C_below hc HBW.out) hle ht)
  have HW := Lib.hid hW
  have hcv : IntKind.i64.wrap at_ = at_ := by rw [IntKind.wrap_i64]; omega
  obtain ⟨iu, hiu, hsu⟩ := Option.map_eq_some_iff.1 (show (Tryz.prog.info? 5).map (fun i => i.size) = some 1 by kernel_rfl)
  have CUT := Lib.hid (cut_CT (P := Tryz.prog) (Kd.int .u8) 22 5 (by kernel_rfl) hiu hsu)
  clear hc ht hW hiu hsu
  go_enter Tryz.func9, Tryz.ntmps9
  go_wp2_with fail
  rw [← HW.out]
  refine TP.out.mono ?_
  rintro x w1 hx
  obtain ⟨A, c, ts, e, rfl, hC, hcc, hts, hb1w⟩ := text_bytes hx
  have HB1 := Lib.hid (HBW.out.trans (hb1w.mono HBW.out.size))
  obtain ⟨i, hi⟩ : ∃ i : Nat, at_ % ((ts.length : Int) + 1) = (i : Int) := ⟨(at_ % ((ts.length : Int) + 1)).toNat, by have := Int.emod_nonneg at_ (show (ts.length : Int) + 1 ≠ 0 by omega); omega⟩
  have hil : i ≤ ts.length := by have := Int.emod_lt_of_pos at_ (show (0 : Int) < (ts.length : Int) + 1 by omega); omega
  have hmod : at_.tmod ((ts.length : Int) + 1) = (i : Int) := by rw [Int.tmod_eq_emod_of_nonneg ha0]; exact hi
  obtain ⟨hto, hCto, A3, hfr, hCfr⟩ := CUT.out A c ts i hil hcc
  have HCTO := Lib.hid hCto; have HCFR := Lib.hid hCfr; have HCT := Lib.hid hC
  have htsz : (ts.length : Int) ≤ 1000000 := by omega
  clear hx hb1w hC hCto hCfr
  have HTK := Lib.hid (show ([] ++ ts.take i).length ≤ 1000000 by rw [List.nil_append, List.length_take]; omega)
  by_cases h3 : b % 3 = 0
  · have h3b : (b % 3 == 0) = true := by rw [h3]; rfl
    clear h3
    go_wp2_with (first | (at_builtin; refine Kd.R_append_rows (Kd.int .u8) (w0 := w1) (W := w1) w1.heap.size rfl (.tmp 25) (.tmp 28) 22 5 _ 1 rfl (by kernel_rfl) u8_info rfl (by decide) (by decide) (.slice none 0 0) [] (ts.take i) A i c (fun _ => True) (fun _ => False) rfl rfl (Kd.R_nil _ _ _ _ _) (HCTO.out _ HCT.out) (fun x cs h => h) (fun _ h => h.elim) (fun _ _ => trivial) (Below.refl _ _) (Nat.le_refl _) (by simp; omega) ?_; intro v2 w2 hR2 hB2 hg2 hat2; have HR2 := Lib.hid hR2; have HB2 := Lib.hid hB2; clear hR2 hB2 hg2 hat2) | (at_builtin; refine Kd.R_append (Kd.int .u8) (w0 := w1) (W := w2) w1.heap.size rfl (.tmp 33) (.tmp 35) 22 5 _ 1 rfl (by kernel_rfl) u8_info rfl (by decide) (by decide) v2 ([] ++ ts.take i) b [.int .u8 b] (fun _ => True) (fun _ => False) rfl rfl rfl (fun _ h => h.elim) (fun _ _ => trivial) HR2.out HB2.out HB2.out.size (by have := HTK.out; omega) ?_; intro v3 w3 hR3 hB3 hg3 hat3; have HR3 := Lib.hid hR3; have HB3 := Lib.hid hB3; clear hR3 hB3 hg3 hat3))
    go_loopw [12, 13] (fun v jv wr => ∃ (j : Nat) (ys : List Int), jv = .int .i64 j ∧ j ≤ s.size ∧ ys.length ≤ 1000001 + j ∧ Aside1 (Below w1.heap.size w1 wr ∧ (Kd.int .u8).R 5 wr w1.heap.size (fun _ => True) v ys)) (fun _ jv _ => s.size - (intOf jv).toNat)
    case atStart => exact ⟨0, _, rfl, Nat.zero_le _, by rw [List.length_append, List.length_singleton]; have := HTK.out; omega, ⟨HB3.out, HR3.out⟩⟩
    case round =>
      obtain ⟨j, ys, rfl, hj, hys, HJ⟩ := hrel
      have HJ := Lib.hid HJ.out
      by_cases hjl : j < s.size
      · have hjz : (j : Int) < (s.size : Int) := by omega
        go_wp2_with (at_builtin; refine Kd.R_append (Kd.int .u8) (w0 := w1) (W := wr) w1.heap.size rfl (.tmp 43) (.tmp 47) 22 5 _ 1 rfl (by kernel_rfl) u8_info rfl (by decide) (by decide) u12 ys (s[j].toNat : Int) [.int .u8 (s[j].toNat : Int)] (fun _ => True) (fun _ => False) rfl rfl rfl (fun _ h => h.elim) (fun _ _ => trivial) HJ.out.2 HJ.out.1 HJ.out.1.size (by omega) ?_; intro v4 w4 hR4 hB4 hg4 hat4)
        go_roundw
        case rel => exact ⟨j + 1, _, by go_num, by omega, by rw [List.length_append, List.length_singleton]; omega, ⟨hB4, hR4⟩⟩
        case measure => simp [intOf]; omega
      · have hjz : ¬ (j : Int) < (s.size : Int) := by omega
        by_cases h5 : b % 5 = 1
        · have h5b : (b % 5 == 1) = true := by rw [h5]; rfl
          clear h5
          by_cases hit : i < ts.length
          · have hitz : (i : Int) < (ts.length : Int) := by omega
            obtain ⟨_, _, A4, hfr4, hCfr4⟩ := CUT.out A c ts (i + 1) hit hcc
            have HCF4 := Lib.hid hCfr4; clear hCfr4
            have hfr5 : ∀ W, (Instr.slice 22 (.slice A ts.length c) (some (.int .i64 ((i : Int) + 1))) none none).run Tryz.prog W = .ok (.slice A4 (ts.length - (i + 1)) (c - (i + 1))) W := hfr4
            clear hfr4
            go_wp2_with (at_builtin; refine Kd.R_append_rows (Kd.int .u8) (w0 := w1) (W := wr) w1.heap.size rfl (.tmp 60) (.tmp 63) 22 5 _ 1 rfl (by kernel_rfl) u8_info rfl (by decide) (by decide) u12 ys (ts.drop (i + 1)) A4 (ts.length - (i + 1)) (c - (i + 1)) (fun _ => True) (fun _ => False) rfl rfl HJ.out.2 (HCF4.out _ (Kd.C_below HCT.out HJ.out.1)) (fun x cs h => h) (fun _ h => h.elim) (fun _ _ => trivial) HJ.out.1 HJ.out.1.size (by omega) ?_; intro v5 w5 hR5 hB5 hg5 hat5)
            go_ret
            exact ⟨v5, _, rfl, Kd.R_lower hR5 HB1.out.size, by rw [List.length_append, List.length_drop]; omega, HB1.out.trans (hB5.mono HB1.out.size)⟩
          · have hitz : ¬ (i : Int) < (ts.length : Int) := by omega
            go_wp2_with (at_builtin; refine Kd.R_append_rows (Kd.int .u8) (w0 := w1) (W := wr) w1.heap.size rfl (.tmp 60) (.tmp 63) 22 5 _ 1 rfl (by kernel_rfl) u8_info rfl (by decide) (by decide) u12 ys (ts.drop i) A3 (ts.length - i) (c - i) (fun _ => True) (fun _ => False) rfl rfl HJ.out.2 (HCFR.out _ (Kd.C_below HCT.out HJ.out.1)) (fun x cs h => h) (fun _ h => h.elim) (fun _ _ => trivial) HJ.out.1 HJ.out.1.size (by omega) ?_; intro v5 w5 hR5 hB5 hg5 hat5)
            go_ret
            exact ⟨v5, _, rfl, Kd.R_lower hR5 HB1.out.size, by rw [List.length_append, List.length_drop]; omega, HB1.out.trans (hB5.mono HB1.out.size)⟩
        · have h5b : (b % 5 == 1) = false := beq_eq_false_iff_ne.2 h5
          clear h5
          go_wp2_with (at_builtin; refine Kd.R_append_rows (Kd.int .u8) (w0 := w1) (W := wr) w1.heap.size rfl (.tmp 60) (.tmp 63) 22 5 _ 1 rfl (by kernel_rfl) u8_info rfl (by decide) (by decide) u12 ys (ts.drop i) A3 (ts.length - i) (c - i) (fun _ => True) (fun _ => False) rfl rfl HJ.out.2 (HCFR.out _ (Kd.C_below HCT.out HJ.out.1)) (fun x cs h => h) (fun _ h => h.elim) (fun _ _ => trivial) HJ.out.1 HJ.out.1.size (by omega) ?_; intro v5 w5 hR5 hB5 hg5 hat5)
          go_ret
          exact ⟨v5, _, rfl, Kd.R_lower hR5 HB1.out.size, by rw [List.length_append, List.length_drop]; omega, HB1.out.trans (hB5.mono HB1.out.size)⟩
  · have h3b : (b % 3 == 0) = false := beq_eq_false_iff_ne.2 h3
    clear h3
    go_wp2_with (at_builtin; refine Kd.R_append_rows (Kd.int .u8) (w0 := w1) (W := w1) w1.heap.size rfl (.tmp 25) (.tmp 28) 22 5 _ 1 rfl (by kernel_rfl) u8_info rfl (by decide) (by decide) (.slice none 0 0) [] (ts.take i) A i c (fun _ => True) (fun _ => False) rfl rfl (Kd.R_nil _ _ _ _ _) (HCTO.out _ HCT.out) (fun x cs h => h) (fun _ h => h.elim) (fun _ _ => trivial) (Below.refl _ _) (Nat.le_refl _) (by simp; omega) ?_; intro v2 w2 hR2 hB2 hg2 hat2; have HR2 := Lib.hid hR2; have HB2 := Lib.hid hB2; clear hR2 hB2 hg2 hat2)
    go_loopw [12, 13] (fun v jv wr => ∃ (j : Nat) (ys : List Int), jv = .int .i64 j ∧ j ≤ s.size ∧ ys.length ≤ 1000001 + j ∧ Aside1 (Below w1.heap.size w1 wr ∧ (Kd.int .u8).R 5 wr w1.heap.size (fun _ => True) v ys)) (fun _ jv _ => s.size - (intOf jv).toNat)
    case atStart => exact ⟨0, _, rfl, Nat.zero_le _, by have := HTK.out; omega, ⟨HB2.out, HR2.out⟩⟩
    case round =>
      obtain ⟨j, ys, rfl, hj, hys, HJ⟩ := hrel
      have HJ := Lib.hid HJ.out
      by_cases hjl : j < s.size
      · have hjz : (j : Int) < (s.size : Int) := by omega
        go_wp2_with (at_builtin; refine Kd.R_append (Kd.int .u8) (w0 := w1) (W := wr) w1.heap.size rfl (.tmp 43) (.tmp 47) 22 5 _ 1 rfl (by kernel_rfl) u8_info rfl (by decide) (by decide) u12 ys (s[j].toNat : Int) [.int .u8 (s[j].toNat : Int)] (fun _ => True) (fun _ => False) rfl rfl rfl (fun _ h => h.elim) (fun _ _ => trivial) HJ.out.2 HJ.out.1 HJ.out.1.size (by omega) ?_; intro v4 w4 hR4 hB4 hg4 hat4)
        go_roundw
        case rel => exact ⟨j + 1, _, by go_num, by omega, by rw [List.length_append, List.length_singleton]; omega, ⟨hB4, hR4⟩⟩
        case measure => simp [intOf]; omega
      · have hjz : ¬ (j : Int) < (s.size : Int) := by omega
        by_cases h5 : b % 5 = 1
        · have h5b : (b % 5 == 1) = true := by rw [h5]; rfl
          clear h5
          by_cases hit : i < ts.length
          · have hitz : (i : Int) < (ts.length : Int) := by omega
            obtain ⟨_, _, A4, hfr4, hCfr4⟩ := CUT.out A c ts (i + 1) hit hcc
            have HCF4 := Lib.hid hCfr4; clear hCfr4
            have hfr5 : ∀ W, (Instr.slice 22 (.slice A ts.length c) (some (.int .i64 ((i : Int) + 1))) none none).run Tryz.prog W = .ok (.slice A4 (ts.length - (i + 1)) (c - (i + 1))) W := hfr4
            clear hfr4
            go_wp2_with (at_builtin; refine Kd.R_append_rows (Kd.int .u8) (w0 := w1) (W := wr) w1.heap.size rfl (.tmp 60) (.tmp 63) 22 5 _ 1 rfl (by kernel_rfl) u8_info rfl (by decide) (by decide) u12 ys (ts.drop (i + 1)) A4 (ts.length - (i + 1)) (c - (i + 1)) (fun _ => True) (fun _ => False) rfl rfl HJ.out.2 (HCF4.out _ (Kd.C_below HCT.out HJ.out.1)) (fun x cs h => h) (fun _ h => h.elim) (fun _ _ => trivial) HJ.out.1 HJ.out.1.size (by omega) ?_; intro v5 w5 hR5 hB5 hg5 hat5)
            go_ret
            exact ⟨v5, _, rfl, Kd.R_lower hR5 HB1.out.size, by rw [List.length_append, List.length_drop]; omega, HB1.out.trans (hB5.mono HB1.out.size)⟩
          · have hitz : ¬ (i : Int) < (ts.length : Int) := by omega
            go_wp2_with (at_builtin; refine Kd.R_append_rows (Kd.int .u8) (w0 := w1) (W := wr) w1.heap.size rfl (.tmp 60) (.tmp 63) 22 5 _ 1 rfl (by kernel_rfl) u8_info rfl (by decide) (by decide) u12 ys (ts.drop i) A3 (ts.length - i) (c - i) (fun _ => True) (fun _ => False) rfl rfl HJ.out.2 (HCFR.out _ (Kd.C_below HCT.out HJ.out.1)) (fun x cs h => h) (fun _ h => h.elim) (fun _ _ => trivial) HJ.out.1 HJ.out.1.size (by omega) ?_; intro v5 w5 hR5 hB5 hg5 hat5)
            go_ret
            exact ⟨v5, _, rfl, Kd.R_lower hR5 HB1.out.size, by rw [List.length_append, List.length_drop]; omega, HB1.out.trans (hB5.mono HB1.out.size)⟩
        · have h5b : (b % 5 == 1) = false := beq_eq_false_iff_ne.2 h5
          clear h5
          go_wp2_with (at_builtin; refine Kd.R_append_rows (Kd.int .u8) (w0 := w1) (W := wr) w1.heap.size rfl (.tmp 60) (.tmp 63) 22 5 _ 1 rfl (by kernel_rfl) u8_info rfl (by decide) (by decide) u12 ys (ts.drop i) A3 (ts.length - i) (c - i) (fun _ => True) (fun _ => False) rfl rfl HJ.out.2 (HCFR.out _ (Kd.C_below HCT.out HJ.out.1)) (fun x cs h => h) (fun _ h => h.elim) (fun _ _ => trivial) HJ.out.1 HJ.out.1.size (by omega) ?_; intro v5 w5 hR5 hB5 hg5 hat5)
          go_ret
          exact ⟨v5, _, rfl, Kd.R_lower hR5 HB1.out.size, by rw [List.length_append, List.length_drop]; omega, HB1.out.trans (hB5.mono HB1.out.size)⟩
end Go.Proofs.YtamhpnenpoamhaaGreat

/- tollerlaw12.ConfigParses is true of all that it is called with. -/
namespace Go.Proofs.YtamhpnenpoamhaaGreat
open Go.RowKit Go.Proofs.YtamhpnenpoamhaaGreatW.PrintWords Go.Proofs.YtamhpnenpoamhaaGreatW.PrintLast

def wordT : List ByteArray := [⟨#[10, 115, 105, 122, 101, 32, 53, 10]⟩, ⟨#[10, 100, 101, 102, 97, 117, 108, 116, 32, 49, 32, 49, 32, 108, 101, 97, 107, 121, 10]⟩, ⟨#[10, 114, 117, 108, 101, 32, 97, 32, 53, 32, 53, 32, 103, 99, 114, 97, 10]⟩, ⟨#[10, 114, 117, 108, 101, 32, 98, 32, 48, 32, 49, 32, 103, 99, 114, 97, 10]⟩, ⟨#[10, 114, 117, 108, 101, 32, 122, 32, 57, 57, 57, 57, 57, 57, 57, 57, 57, 57, 32, 57, 57, 57, 57, 57, 57, 57, 57, 57, 57, 32, 103, 99, 114, 97, 10]⟩, ⟨#[32, 55, 32]⟩, ⟨#[10, 35, 120, 10]⟩, ⟨#[10, 115, 105, 122, 101, 10]⟩]
def wordS (q : Nat) : ByteArray := wordT.getD q ⟨#[]⟩
theorem lt8 {q : Nat} (h : q < 8) : q = 0 ∨ q = 1 ∨ q = 2 ∨ q = 3 ∨ q = 4 ∨ q = 5 ∨ q = 6 ∨ q = 7 := by omega
theorem wordS_size (q : Nat) (h : q < 8) : (wordS q).size ≤ 100 := by
  rcases lt8 h with rfl | rfl | rfl | rfl | rfl | rfl | rfl | rfl <;> decide
theorem wordT_at (q : Nat) (h : q < 8) : (wordT.map Value.string)[q]? = some (.string (wordS q)) := by
  rcases lt8 h with rfl | rfl | rfl | rfl | rfl | rfl | rfl | rfl <;> rfl

set_option maxHeartbeats 8000000 in
set_option maxRecDepth 100000 in
theorem config_parses (A0 : Option Addr) (c0 : Nat) (xs : List Int) (most : Int) (A1 : Option Addr) (c1 : Nat) (l : List Nu) (at_ b : Int) (s : ByteArray) (A2 : Option Addr) (c2 : Nat) (cs : List Int) (w : World)
    (hx : (Kd.int .u8).C w A0 xs.length xs) (hxc : xs.length ≤ c0) (hxl : xs.length ≤ 140737488351232) (hm : 0 ≤ most ∧ most ≤ 65535) (hl : kNu.C w A1 l.length l) (hlu : ∀ x ∈ l, Nu.Ok x) (ha : 0 ≤ at_ ∧ at_ ≤ 65535) (hb : 0 ≤ b ∧ b ≤ 255)
    (hs : s.size ≤ 140737488351232) (hcs : (Kd.int .u8).C w A2 cs.length cs) (hcu : ∀ x ∈ cs, 0 ≤ x ∧ x ≤ 255) :
    Calls Tryz.prog 3 #[.slice A0 xs.length c0, .int .u16 most, .slice A1 l.length c1, .int .u16 at_, .int .u8 b, .string s, .slice A2 cs.length c2] w fun x w' => x = .returned (.bool true) ∧ Below w.heap.size w w' := by
  have KN := Lib.hid (fun w => law_known w)
  by_cases hbig : 400 < xs.length + s.size
  · have hbz : (400 : Int) < (xs.length : Int) + (s.size : Int) := by omega
    clear hx hl hlu hcs hcu
    go_enter Tryz.func3, Tryz.ntmps3
    go_wp2_with fail
    refine (KN.out _).mono ?_
    rintro x w1 ⟨rfl, hb1⟩
    go_wp2
    go_ret
    exact ⟨rfl, hb1⟩
  · have hbz : (xs.length : Int) + (s.size : Int) ≤ 400 := by omega
    have hs4 : s.size ≤ 1000000 := by omega
    have HX := Lib.hid hx; have HLU := Lib.hid hlu; have HCU := Lib.hid hcu; have HL := Lib.hid hl; have HCS := Lib.hid hcs
    have HA := Lib.hid ha; have HBR := Lib.hid hb; have HM := Lib.hid hm
    obtain ⟨hb0, hb1⟩ := hb
    obtain ⟨q, hq⟩ : ∃ q : Nat, b % 8 = (q : Int) := ⟨(b % 8).toNat, by omega⟩
    have hq8 : q < 8 := by omega
    have hqz : (q : Int) < 8 := by omega
    have HWS := Lib.hid (wordS_size q hq8)
    have HWT := Lib.hid (wordT_at q hq8)
    clear hx hl hlu hcs hcu ha hm hbig
    go_enter Tryz.func3, Tryz.ntmps3
    go_wp2_with fail
    refine (KN.out _).mono ?_
    rintro x w0 ⟨rfl, hb0'⟩
    have HB0 := Lib.hid hb0'; clear hb0'
    have PO := Lib.hid (law_policy most A1 c1 l w0 (Kd.C_below HL.out HB0.out) HM.out HLU.out)
    go_wp2_with fail
    refine PO.out.mono ?_
    rintro x w1 ⟨m, V, vc, L, rfl, hok, hR1, hB1⟩
    obtain ⟨V', vc', hv', hvc, hC1⟩ := Kd.R_reads hR1
    injection hv' with ev1 ev2 ev3
    subst ev1 ev3
    clear ev2
    obtain ⟨W1, hW1⟩ : ∃ W1, W1 = w1.alloc (.cells #[.int .i64 m, .slice V L.length vc] 28) := ⟨_, rfl⟩
    have hbA : Below w1.heap.size w1 W1 := by rw [hW1]; exact (Below.refl _ _).alloc (Nat.le_refl _) _
    have HT := Lib.hid (show Blk W1 w1.heap.size #[.int .i64 m, .slice V L.length vc] 28 by rw [hW1]; exact Blk.new _ _ _)
    have hB01 := HB0.out.trans (hB1.mono HB0.out.size)
    have HBW := Lib.hid (hB01.trans (hbA.mono hB01.size))
    have HCL := Lib.hid (Kd.C_below hC1 hbA)
    have HTY := Lib.hid (fun r (hr : r ∈ L) => (hok.typed r hr).1)
    have HX1 := Lib.hid (Kd.C_below HX.out HBW.out); have HCS1 := Lib.hid (Kd.C_below HCS.out HBW.out)
    have TX := Lib.hid (fun w' (hb : Below W1.heap.size W1 w') => law_text A2 c2 cs w' (Kd.C_below HCS1.out hb) HCU.out)
    have BE := Lib.hid (fun w' (hb : Below W1.heap.size W1 w') at_ b s (ha : 0 ≤ at_ ∧ at_ ≤ 65535) (hb' : 0 ≤ b ∧ b ≤ 255) hs => law_bent m V vc L at_ b s w' (Kd.C_below HCL.out hb) hvc HTY.out ha hb' hs)
    have PX := Lib.hid (fun w' (hb : Below W1.heap.size W1 w') => law_parses A0 c0 xs w' (Kd.C_below HX1.out hb) hxc)
    have HW1 := Lib.hid hW1
    clear hok hR1 hB1 hC1 hbA hB01 hW1 PO HX HL HCS HM HLU HCU HX1 HCS1 HCL HTY KN
    go_wp2_with fail
    rw [← HW1.out]
    refine (TX.out _ (Below.refl _ _)).mono ?_
    rintro x w2 ⟨v2, bs2, rfl, hR2, hl2, _, hB2⟩
    have HR2 := Lib.hid hR2; have HB2 := Lib.hid hB2
    clear hR2 hB2
    have T2 := HT.out.below HB2.out HT.out.lt
    have t0 := T2.cell_at 0 (.int .i64 m) rfl
    have t1 := T2.cell_at 1 (.slice V L.length vc) rfl
    clear T2
    go_wp2_with fail
    refine (BE.out _ HB2.out _ _ _ HA.out (by decide) (by decide)).mono ?_
    rintro x w3 ⟨v3, bs3, rfl, hR3, hl3, hB3⟩
    obtain ⟨A3, c3, hv3, hc3, hC3⟩ := Kd.R_reads hR3
    subst hv3
    have HR3 := Lib.hid (Kd.R_below HR2.out hB3); have HB3 := Lib.hid (HB2.out.trans (hB3.mono HB2.out.size)); have HC3 := Lib.hid hC3
    clear hR3 hC3 hB3 t0 t1
    go_wp2_with (at_builtin; refine Kd.R_append_rows (Kd.int .u8) (w0 := W1) (W := w3) W1.heap.size rfl (.tmp 34) (.tmp 37) 22 5 _ 1 rfl (by kernel_rfl) u8_info rfl (by decide) (by decide) v2 bs2 bs3 A3 bs3.length c3 (fun _ => True) (fun _ => False) rfl rfl HR3.out HC3.out (fun x cs h => h) (fun _ h => h.elim) (fun _ _ => trivial) HB3.out HB3.out.size (by omega) ?_; intro v4 w4 hR4 hB4 hg4 hat4; obtain ⟨A4, c4, hv4, hc4, hC4⟩ := Kd.R_reads hR4; obtain ⟨ys, hys⟩ : ∃ ys, ys = bs2 ++ bs3 := ⟨_, rfl⟩; rw [← hys] at hv4 hc4 hC4; subst hv4; have HC4 := Lib.hid hC4; have HB4 := Lib.hid hB4; clear hR4 hB4 hg4 hat4 hC4 hys; have c5 := ((Blk.new w4 (wordT.map Value.string).toArray 9).cell q).trans ((List.getElem?_toArray).trans HWT.out); have c5' : (w4.alloc (.cells #[.string ⟨#[10, 115, 105, 122, 101, 32, 53, 10]⟩, .string ⟨#[10, 100, 101, 102, 97, 117, 108, 116, 32, 49, 32, 49, 32, 108, 101, 97, 107, 121, 10]⟩, .string ⟨#[10, 114, 117, 108, 101, 32, 97, 32, 53, 32, 53, 32, 103, 99, 114, 97, 10]⟩, .string ⟨#[10, 114, 117, 108, 101, 32, 98, 32, 48, 32, 49, 32, 103, 99, 114, 97, 10]⟩, .string ⟨#[10, 114, 117, 108, 101, 32, 122, 32, 57, 57, 57, 57, 57, 57, 57, 57, 57, 57, 32, 57, 57, 57, 57, 57, 57, 57, 57, 57, 57, 32, 103, 99, 114, 97, 10]⟩, .string ⟨#[32, 55, 32]⟩, .string ⟨#[10, 35, 120, 10]⟩, .string ⟨#[10, 115, 105, 122, 101, 10]⟩] 9)).cell? ⟨w4.heap.size, q, none⟩ = some (.string (wordS q)) := c5; clear c5)
    have HB5 := Lib.hid (HB4.out.alloc HB4.out.size (.cells #[.string ⟨#[10, 115, 105, 122, 101, 32, 53, 10]⟩, .string ⟨#[10, 100, 101, 102, 97, 117, 108, 116, 32, 49, 32, 49, 32, 108, 101, 97, 107, 121, 10]⟩, .string ⟨#[10, 114, 117, 108, 101, 32, 97, 32, 53, 32, 53, 32, 103, 99, 114, 97, 10]⟩, .string ⟨#[10, 114, 117, 108, 101, 32, 98, 32, 48, 32, 49, 32, 103, 99, 114, 97, 10]⟩, .string ⟨#[10, 114, 117, 108, 101, 32, 122, 32, 57, 57, 57, 57, 57, 57, 57, 57, 57, 57, 32, 57, 57, 57, 57, 57, 57, 57, 57, 57, 57, 32, 103, 99, 114, 97, 10]⟩, .string ⟨#[32, 55, 32]⟩, .string ⟨#[10, 35, 120, 10]⟩, .string ⟨#[10, 115, 105, 122, 101, 10]⟩] 9))
    have HE5 := Lib.hid ((Below.refl w4.heap.size w4).alloc (Nat.le_refl _) (.cells #[.string ⟨#[10, 115, 105, 122, 101, 32, 53, 10]⟩, .string ⟨#[10, 100, 101, 102, 97, 117, 108, 116, 32, 49, 32, 49, 32, 108, 101, 97, 107, 121, 10]⟩, .string ⟨#[10, 114, 117, 108, 101, 32, 97, 32, 53, 32, 53, 32, 103, 99, 114, 97, 10]⟩, .string ⟨#[10, 114, 117, 108, 101, 32, 98, 32, 48, 32, 49, 32, 103, 99, 114, 97, 10]⟩, .string ⟨#[10, 114, 117, 108, 101, 32, 122, 32, 57, 57, 57, 57, 57, 57, 57, 57, 57, 57, 32, 57, 57, 57, 57, 57, 57, 57, 57, 57, 57, 32, 103, 99, 114, 97, 10]⟩, .string ⟨#[32, 55, 32]⟩, .string ⟨#[10, 35, 120, 10]⟩, .string ⟨#[10, 115, 105, 122, 101, 10]⟩] 9))
    generalize hwq : wordS q = wd at HWS c5' ⊢
    clear hwq c5'
    have hwd := HWS.out
    refine (PX.out _ HB5.out).mono ?_
    rintro x w6 ⟨rfl, hb⟩
    have HB6 := Lib.hid (HB5.out.trans (hb.mono HB5.out.size)); have HE6 := Lib.hid (HE5.out.trans (hb.mono HE5.out.size)); clear hb HB5 HE5
    have T := HT.out.below HB6.out HT.out.lt
    have t0 := T.cell_at 0 (.int .i64 m) rfl
    have t1 := T.cell_at 1 (.slice V L.length vc) rfl
    clear T
    go_wp2_with fail
    refine (BE.out _ HB6.out _ _ _ HA.out HBR.out hs4).mono ?_
    rintro x w7 ⟨v, bs, rfl, hR, hlb, hb⟩
    obtain ⟨Av, cv, hv, hcv, hCv⟩ := Kd.R_reads hR
    subst hv
    have HB7 := Lib.hid (HB6.out.trans (hb.mono HB6.out.size)); have HE7 := Lib.hid (HE6.out.trans (hb.mono HE6.out.size))
    clear hb hR t0 t1
    have PB := Lib.hid (law_parses Av cv bs w7 hCv hcv)
    clear hCv hcv
    go_wp2_with fail
    refine PB.out.mono ?_
    rintro x w8 ⟨rfl, hb⟩
    have HB8 := Lib.hid (HB7.out.trans (hb.mono HB7.out.size)); have HE8 := Lib.hid (HE7.out.trans (hb.mono HE7.out.size))
    clear hb PB HB6 HE6 HB7 HE7
    have T := HT.out.below HB8.out HT.out.lt
    have t0 := T.cell_at 0 (.int .i64 m) rfl
    have t1 := T.cell_at 1 (.slice V L.length vc) rfl
    clear T
    go_wp2_with fail
    refine (BE.out _ HB8.out _ _ _ HA.out HBR.out (by omega)).mono ?_
    rintro x w9 ⟨v, bs, rfl, hR, hlb, hb⟩
    obtain ⟨Av, cv, hv, hcv, hCv⟩ := Kd.R_reads hR
    subst hv
    have HB9 := Lib.hid (HB8.out.trans (hb.mono HB8.out.size)); have HE9 := Lib.hid (HE8.out.trans (hb.mono HE8.out.size))
    clear hb hR t0 t1
    have PB := Lib.hid (law_parses Av cv bs w9 hCv hcv)
    clear hCv hcv
    go_wp2_with fail
    refine PB.out.mono ?_
    rintro x w10 ⟨rfl, hb⟩
    have HB10 := Lib.hid (HB9.out.trans (hb.mono HB9.out.size)); have HE10 := Lib.hid (HE9.out.trans (hb.mono HE9.out.size))
    clear hb PB HB8 HE8 HB9 HE9
    have T := HT.out.below HB10.out HT.out.lt
    have t0 := T.cell_at 0 (.int .i64 m) rfl
    have t1 := T.cell_at 1 (.slice V L.length vc) rfl
    clear T
    go_wp2_with fail
    refine (BE.out _ HB10.out _ _ _ (by decide) (by decide) (by omega)).mono ?_
    rintro x w11 ⟨v, bs, rfl, hR, hlb, hb⟩
    obtain ⟨Av, cv, hv, hcv, hCv⟩ := Kd.R_reads hR
    subst hv
    have HB11 := Lib.hid (HB10.out.trans (hb.mono HB10.out.size)); have HE11 := Lib.hid (HE10.out.trans (hb.mono HE10.out.size))
    clear hb hR t0 t1
    have PB := Lib.hid (law_parses Av cv bs w11 hCv hcv)
    clear hCv hcv
    go_wp2_with fail
    refine PB.out.mono ?_
    rintro x w12 ⟨rfl, hb⟩
    have HB12 := Lib.hid (HB11.out.trans (hb.mono HB11.out.size)); have HE12 := Lib.hid (HE11.out.trans (hb.mono HE11.out.size))
    clear hb PB HB10 HE10 HB11 HE11
    go_wp2_with fail
    refine (TX.out _ HB12.out).mono ?_
    rintro x w13 ⟨v, bs, rfl, hR, hlb, _, hb⟩
    obtain ⟨Av, cv, hv, hcv, hCv⟩ := Kd.R_reads hR
    subst hv
    have HB13 := Lib.hid (HB12.out.trans (hb.mono HB12.out.size)); have HE13 := Lib.hid (HE12.out.trans (hb.mono HE12.out.size))
    clear hb hR
    have PB := Lib.hid (law_parses Av cv bs w13 hCv hcv)
    clear hCv hcv
    go_wp2_with fail
    refine PB.out.mono ?_
    rintro x w14 ⟨rfl, hb⟩
    have HB14 := Lib.hid (HB13.out.trans (hb.mono HB13.out.size)); have HE14 := Lib.hid (HE13.out.trans (hb.mono HE13.out.size))
    clear hb PB HB12 HE12 HB13 HE13
    have PY := Lib.hid (law_parses A4 c4 ys w14 (Kd.C_below HC4.out HE14.out) hc4)
    go_wp2_with fail
    refine PY.out.mono ?_
    rintro x w15 ⟨rfl, hb⟩
    have HF := Lib.hid (HBW.out.trans ((HB14.out.trans (hb.mono HB14.out.size)).mono HBW.out.size))
    clear hb
    go_wp2
    go_ret
    exact ⟨rfl, HF.out⟩
end Go.Proofs.YtamhpnenpoamhaaGreat

/- What the rows of this seat's laws read: whole numbers, strings, slices of them, and the numbers of rules. -/
namespace Go.Proofs.YtamhpnenpoamhaaGreat.LRow
open Go.ChangeShapes Go.WideShapes Go.ChangeAt Go.RowKit Go.Deep Go.Proofs.YtamhpnenpoamhaaGreatW.PrintWords
open Go.ChangeMaps (open_string shut_string)

theorem own : ownKnob Tryz.prog.godebug = none := by kernel_rfl
theorem laidOut : laidOutB Tryz.prog = true := by kernel_rfl
theorem wf_u8 {n : Int} (h : (Lit.int .u8 n).wf = true) : 0 ≤ n ∧ n ≤ 255 := by
  simp [Lit.wf, IntKind.min, IntKind.max, IntKind.bits, IntKind.signed] at h; omega
theorem wf_u16 {n : Int} (h : (Lit.int .u16 n).wf = true) : 0 ≤ n ∧ n ≤ 65535 := by
  simp [Lit.wf, IntKind.min, IntKind.max, IntKind.bits, IntKind.signed] at h; omega
theorem wf_u32 {n : Int} (h : (Lit.int .u32 n).wf = true) : 0 ≤ n ∧ n ≤ 4294967295 := by
  simp [Lit.wf, IntKind.min, IntKind.max, IntKind.bits, IntKind.signed] at h; omega
set_option maxRecDepth 100000 in
/-- An argument of bytes. -/
theorem open_bytes {H : Type} {enc : TypeId × Value → H} {W : World} {base : Nat} {held : Bool} {fuel : Nat} {v : Value} {x : DataW H × List MemPlace} (h : DataW.trod enc Tryz.prog W base (fun _ => true) held fuel 22 [v] = some x) :
    ∃ (a : Option Addr) (c : Nat) (xs : List Int), v = .slice a xs.length c ∧ xs.length ≤ c ∧ (Kd.int .u8).C W a xs.length xs ∧ ∀ n ∈ xs, 0 ≤ n ∧ n ≤ 255 := by
  rcases open_ints Tryz.underlying22 Tryz.underlying5 (by kernel_rfl) h with ⟨hcs, _⟩ | ⟨a, l, c, zs, hcs, _, hl, hm, hz, _, hcell, hwz⟩
  · refine ⟨none, 0, [], by simpa using hcs, Nat.le_refl _, C_nil _ _, fun n hn => by simp at hn⟩
  · obtain ⟨xs, rfl, hr, hmx, hw, hc⟩ := ReadsInt.ofRowC (k := .u8) (w := W) (a := some a) (len := l) (cap := c) (zs := zs) (.inr ⟨a, rfl, hl, hm, by simpa using hz, hcell, hwz⟩)
    exact ⟨some a, c, xs, by simpa using hcs, hc, Kd.C_of_reads (d := (0 : Int)) (h1 := fun _ => rfl) hr, fun n hn => wf_u8 (hw n hn)⟩
noncomputable def numF : Array Field := (match Tryz.prog.underlying 54 with | some (.struct fs) => fs | _ => #[])
instance : Inhabited Nu := ⟨Nu.zero⟩
set_option maxRecDepth 100000 in
/-- An argument of numbers of rules. -/
theorem open_numbers {H : Type} {enc : TypeId × Value → H} {W : World} {base : Nat} {held : Bool} {fuel : Nat} {v : Value} {x : DataW H × List MemPlace} (h : DataW.trod enc Tryz.prog W base (fun _ => true) held fuel 24 [v] = some x) :
    ∃ (a : Option Addr) (c : Nat) (l : List Nu), v = .slice a l.length c ∧ l.length ≤ c ∧ kNu.C W a l.length l ∧ ∀ r ∈ l, Nu.Ok r := by
  rcases open_slice Tryz.underlying24 h with ⟨hcs, _⟩ | ⟨a, len, cap, m, n, D, Pl, hcs, _, hl, hm, hmm, _, hi⟩
  · exact ⟨none, 0, [], by simpa using hcs, Nat.le_refl _, C_nil _ _, fun n hn => by simp at hn⟩
  · have hmc : m = cap := by simpa using hmm
    have hE : Tryz.prog.cellsOf 54 = 4 := by kernel_rfl
    -- field j of element i: one cell, and what it reads as
    have part : ∀ i, i < m → ∃ k : Nat, ∀ (j : Nat) (f : Field), numF[j]? = some f → ∃ (u : Value) (y : DataW H × List MemPlace), W.cell? (a.add (i * 4 + j)) = some u ∧ DataW.trod enc Tryz.prog W base (fun _ => true) held k f.type [u] = some y := by
      intro i hi'
      obtain ⟨row, hrow, hread⟩ := hi i hi'
      rw [hE] at hrow
      obtain ⟨ys, k, _, _, _, hyl, hfield⟩ := DataW.trod_struct Tryz.underlying54 hread
      obtain ⟨_, hlen, hcells⟩ := World.cells?_some hrow
      refine ⟨k, fun j f hj => ?_⟩
      obtain ⟨off, size⟩ := hone_of (P := Tryz.prog) (fs := numF) (by kernel_rfl) j f hj
      have hj4 : j < 4 := (Array.getElem?_eq_some_iff.1 hj).1
      have e := hfield j f hj
      have hjr : j < row.length := by omega
      rw [off, size, List.drop_eq_getElem_cons hjr] at e
      have hjy : j < ys.length := by rw [hyl]; exact hj4
      refine ⟨row[j], ys[j], ?_, e.trans (List.getElem?_eq_getElem hjy)⟩
      rw [← Go.Deep.add_add, hcells j hj4, List.getElem?_eq_getElem hjr]
    have each : ∀ i, i < len → ∃ r : Nu, Nu.Ok r ∧ ∃ cs, kNu.K W r cs ∧ cs.length = 4 ∧ ∀ j u, cs[j]? = some u → W.cell? (a.add (i * 4 + j)) = some u := by
      intro i him
      obtain ⟨n, hf⟩ := part i (by omega)
      obtain ⟨v0, y0, c0, t0⟩ := hf 0 _ rfl
      obtain ⟨v1, y1, c1, t1⟩ := hf 1 _ rfl
      obtain ⟨v2, y2, c2, t2⟩ := hf 2 _ rfl
      obtain ⟨v3, y3, c3, t3⟩ := hf 3 _ rfl
      obtain ⟨ab, cb, bs, rfl, hcb, hCb, hub⟩ := open_bytes t0
      obtain ⟨e, he, _, we⟩ := DataW.trod_int Tryz.underlying52 t1
      obtain ⟨u, hu, _, wu⟩ := DataW.trod_int Tryz.underlying23 t2
      obtain ⟨k, hk, _, wk⟩ := DataW.trod_int Tryz.underlying5 t3
      have he : v1 = .int .u32 e := by simpa using he
      have hu : v2 = .int .u16 u := by simpa using hu
      have hk : v3 = .int .u8 k := by simpa using hk
      subst he hu hk
      refine ⟨⟨bs, e, u, k⟩, ⟨hub, wf_u32 we, wf_u16 wu, wf_u8 wk⟩, [.slice ab bs.length cb, .int .u32 e, .int .u16 u, .int .u8 k], ⟨[.slice ab bs.length cb], _, rfl, ⟨ab, cb, rfl, hcb, hCb⟩, [.int .u32 e], _, rfl, rfl, [.int .u16 u], [.int .u8 k], rfl, rfl, rfl⟩, rfl, ?_⟩
      intro j z hz
      rcases j with _ | _ | _ | _ | j
      · have : z = .slice ab bs.length cb := by simpa using hz.symm
        subst this; exact c0
      · have : z = .int .u32 e := by simpa using hz.symm
        subst this; exact c1
      · have : z = .int .u16 u := by simpa using hz.symm
        subst this; exact c2
      · have : z = .int .u8 k := by simpa using hz.symm
        subst this; exact c3
      · simp at hz
    obtain ⟨f, hf⟩ := choose_lt each
    have hll : ((List.range len).map f).length = len := by simp
    refine ⟨some a, cap, (List.range len).map f, by rw [hll]; simpa using hcs, by rw [hll]; exact hl, ?_, fun r hr => ?_⟩
    · refine ⟨rfl, by rw [hll]; unfold maxLen at hm; omega, fun _ => ⟨a, rfl, fun j p hj => ?_⟩⟩
      have hjl : j < len := by
        have := (List.getElem?_eq_some_iff.1 hj).1
        rwa [hll] at this
      have hp : p = f j := by
        rw [List.getElem?_map, List.getElem?_range hjl] at hj
        simpa using hj.symm
      subst hp
      obtain ⟨_, cs, hK, hc4, hcell⟩ := hf j hjl
      exact ⟨cs, hc4, hK, hcell⟩
    · obtain ⟨j, hj, rfl⟩ := List.mem_map.1 hr
      exact (hf j (List.mem_range.1 hj)).1
end Go.Proofs.YtamhpnenpoamhaaGreat.LRow

/- The row of ConfigParses: at every input the law returns true, and what came in reads as it did. -/
namespace Go.Proofs.YtamhpnenpoamhaaGreat.configParses
open Go.ChangeShapes Go.WideShapes Go.ChangeAt Go.RowKit Go.Deep Go.Proofs.YtamhpnenpoamhaaGreatW.PrintWords Go.Proofs.YtamhpnenpoamhaaGreat.LRow
open Go.ChangeMaps (open_string shut_string)

set_option maxRecDepth 100000 in
theorem lifted (os : Os) (started : os.Started) (H : Type) (enc : TypeId × Value → H) :
    ReturnsInHanded {} Tryz.checked os 3 .any (Rows.configParsesSpec.pre6 enc Tryz.prog Tryz.f3 Rows.configParsesRow.domain false) (Rows.configParsesSpec.post enc Tryz.prog Tryz.f3 false true false false) := by
  refine returnsInHanded_of_change_sized (C := Tryz.checked) own started (by kernel_rfl) Tryz.func3
    (ChangeSpec.witness6 (enc := enc) (C := Tryz.checked) false ⟨#[], #[.slice none 0 0, .int .u16 0, .slice none 0 0, .int .u16 0, .int .u8 0, .string ByteArray.empty, .slice none 0 0], []⟩ 8 (by kernel_rfl) (by kernel_rfl) (by kernel_rfl) (by kernel_rfl)) ?_
  intro W base args ds gs before hval0 hW hcnd hsz0 _
  have hsz : (DataW.weightsEach Tryz.prog (Tryz.f3.params.toList ++ Rows.configParsesSpec.plain.varTypes Tryz.prog) (ds ++ gs)).all (· ≤ reachBytes) = true := hsz0
  have hval : ∀ (j : Nat) t v, Tryz.f3.params[j]? = some t → args[j]? = some v → Value.okWide Tryz.prog W .any base t v := hval0
  have hW' := hW
  obtain ⟨p, q, hA0, hV, rfl, hfz, hnd⟩ := hW
  have hA : DataW.TrodAll enc Tryz.prog W 0 (fun _ => true) true Tryz.f3.params.toList args.toList ds p := hA0
  rw [Tryz.params3] at hA hval hsz
  obtain ⟨v0, vs0, d0, ds0, p0, q0, hargs, rfl, rfl, h0, r0⟩ := trodAll_cons hA
  obtain ⟨v1, vs1, d1, ds1, p1, q1, rfl, rfl, rfl, h1, r1⟩ := trodAll_cons r0
  obtain ⟨v2, vs2, d2, ds2, p2, q2, rfl, rfl, rfl, h2, r2⟩ := trodAll_cons r1
  obtain ⟨v3, vs3, d3, ds3, p3, q3, rfl, rfl, rfl, h3, r3⟩ := trodAll_cons r2
  obtain ⟨v4, vs4, d4, ds4, p4, q4, rfl, rfl, rfl, h4, r4⟩ := trodAll_cons r3
  obtain ⟨v5, vs5, d5, ds5, p5, q5, rfl, rfl, rfl, h5, r5⟩ := trodAll_cons r4
  obtain ⟨v6, vs6, d6, ds6, p6, q6, rfl, rfl, rfl, h6, r6⟩ := trodAll_cons r5
  obtain ⟨rfl, rfl, rfl⟩ := trodAll_nil r6
  obtain rfl : args = #[v0, v1, v2, v3, v4, v5, v6] := by cases args; simp_all
  obtain ⟨rfl, rfl⟩ := trodVars_none hV
  obtain ⟨a0, l0, c0, rfl⟩ := okWide_slice Tryz.underlying22 (hval 0 22 v0 rfl rfl)
  obtain ⟨a1, rfl, rfl, rfl, w1⟩ := open_int Tryz.underlying23 (hval 1 23 v1 rfl rfl) h1
  obtain ⟨a2, l2, c2, rfl⟩ := okWide_slice Tryz.underlying24 (hval 2 24 v2 rfl rfl)
  obtain ⟨a3, rfl, rfl, rfl, w3⟩ := open_int Tryz.underlying23 (hval 3 23 v3 rfl rfl) h3
  obtain ⟨a4, rfl, rfl, rfl, w4⟩ := open_int Tryz.underlying5 (hval 4 5 v4 rfl rfl) h4
  obtain ⟨a5, rfl, rfl, rfl, w5⟩ := open_string Tryz.underlying9 (hval 5 9 v5 rfl rfl) h5
  obtain ⟨a6, l6, c6, rfl⟩ := okWide_slice Tryz.underlying22 (hval 6 22 v6 rfl rfl)
  have k0 := h0
  have k2 := h2
  have k6 := h6
  have lt0 : ∀ x ∈ p0, x.block < W.heap.size := by obtain ⟨m, hm⟩ := k0; exact DataW.trod_lt m _ _ _ hm
  have lt2 : ∀ x ∈ p2, x.block < W.heap.size := by obtain ⟨m, hm⟩ := k2; exact DataW.trod_lt m _ _ _ hm
  have lt6 : ∀ x ∈ p6, x.block < W.heap.size := by obtain ⟨m, hm⟩ := k6; exact DataW.trod_lt m _ _ _ hm
  have y0 : l0 * 1 ≤ 140737488351232 := sized_ints hsz (j := 0) (t := 22) rfl rfl Tryz.underlying22 Tryz.underlying5 (by kernel_rfl) (by kernel_rfl) h0
  have y5 : a5.size ≤ 140737488351232 := by
    have z := sized_string hsz (j := 5) (t := 9) rfl rfl
    rw [Array.length_toList] at z
    exact z
  obtain ⟨f0, hf0⟩ := h0
  obtain ⟨f2, hf2⟩ := h2
  obtain ⟨f6, hf6⟩ := h6
  obtain ⟨A0, C0, xs, e0, hc0, hC0, hu0⟩ := open_bytes hf0
  obtain ⟨A2, C2, ns, e2, hc2, hC2, hu2⟩ := open_numbers hf2
  obtain ⟨A6, C6, cs, e6, hc6, hC6, hu6⟩ := open_bytes hf6
  injection e0 with e01 e02 e03
  injection e2 with e21 e22 e23
  injection e6 with e61 e62 e63
  subst e01 e02 e03 e21 e22 e23 e61 e62 e63
  have b1 := wf_u16 w1
  have b3 := wf_u16 w3
  have b4 := wf_u8 w4
  clear hA0 hval0 hsz0 hsz
  refine (config_parses a0 c0 xs a1 a2 c2 ns a3 a4 a5 a6 c6 cs W hC0 hc0 (by omega) b1 hC2 hu2 b3 b4 y5 hC6 hu6).mono fun e W' ⟨he, bel⟩ => ?_
  subst he
  exact ⟨_, rfl, _, _, _, [], _, [], hW', trodAll_mk1 (shut_bool Tryz.underlying4 _), trodAll_cons_mk (Below.trod laidOut (by kernel_rfl) (of_decide_eq_true (by kernel_rfl)) k0 bel lt0) (trodAll_cons_mk (shut_int Tryz.underlying23 w1) (trodAll_cons_mk (Below.trod laidOut (by kernel_rfl) (of_decide_eq_true (by kernel_rfl)) k2 bel lt2) (trodAll_cons_mk (shut_int Tryz.underlying23 w3) (trodAll_cons_mk (shut_int Tryz.underlying5 w4) (trodAll_cons_mk (shut_string Tryz.underlying9 w5) (trodAll_cons_mk (Below.trod laidOut (by kernel_rfl) (of_decide_eq_true (by kernel_rfl)) k6 bel lt6) trodAll_mk0)))))), rfl, bel.frame _, fun h => by cases h⟩
theorem over : Rows.configParsesRow.holds Tryz.pinned (OpenSpec.ofChange Rows.configParsesSpec) :=
  OpenClaim.holds_of_wide 3 Tryz.f3 rfl rfl rfl rfl rfl rfl rfl ⟨rfl, rfl, rfl, rfl, rfl⟩ rfl rfl rfl rfl rfl (by kernel_rfl) Tryz.func3 (by kernel_rfl)
    (of_decide_eq_true (by kernel_rfl)) (by unfold Func.isWrapper; first | (rw [if_pos (by decide +kernel)]; kernel_rfl) | (rw [if_neg (by decide +kernel)]; exact ⟨rfl, rfl⟩))
    (fun os started H enc _ => lifted os started H enc)
theorem proved : Rows.ConfigParsesSaid := over
#print axioms proved
end Go.Proofs.YtamhpnenpoamhaaGreat.configParses
namespace Go.Proofs.YtamhpnenpoamhaaGreat
/-- The row, under a short name, for the claim. -/
theorem configParses_holds : Rows.ConfigParsesSaid := configParses.proved
end Go.Proofs.YtamhpnenpoamhaaGreat
