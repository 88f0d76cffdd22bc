/- Part 2 of 9 of the proof of LRowParses: lemmas and walks, gathered. -/
import Derived.Test.YtamhpnenpoamhaaGreatCp1
import Derived.RowKit3
import Derived.WalkKit
import Derived.Laws.MathBits
import Derived.Laws.BitsAllLaws
import Derived.Test.YtamhpnenpoamhaaGreatWWords
import Derived.Lib.SliceRun
import Ieee.Arith
import Derived.Test.YtamhpnenpoamhaaGreatProg
import Derived.Laws.FloatArith
import Derived.Laws.ComplexArith
import Derived.Test.YtamhpnenpoamhaaGreatWLast
import Derived.Test.YtamhpnenpoamhaaGreatWTab
import Derived.MapKept
import Derived.Deep.RegionHeld3
set_option linter.unusedSimpArgs false
set_option linter.unusedVariables false
/- Rows of sorted blocks. -/
namespace Go.Proofs.YtamhpnenpoamhaaGreat
open Go.Sort
namespace St
variable {α : Type} {lt : α → α → Bool}

/-- Each block of n is in order. -/
def Chunks (lt : α → α → Bool) (n : Nat) (l : List α) : Prop := ∀ j, Srt lt ((l.drop (j * n)).take n)

theorem chunks_nil (n : Nat) : Chunks lt n [] := fun j => by simp [Srt]
theorem chunks_append {n j : Nat} {D Z : List α} (hD : D.length = j * n) (c : Chunks lt n D) (hs : Srt lt Z) (hZ : Z.length ≤ n) : Chunks lt n (D ++ Z) := by
  intro i
  rcases Nat.lt_trichotomy i j with h | h | h
  · have h1 : (i + 1) * n ≤ j * n := Nat.mul_le_mul_right n h
    rw [Nat.add_mul, Nat.one_mul] at h1
    rw [List.drop_append_of_le_length (by omega), List.take_append_of_le_length (by rw [List.length_drop]; omega)]
    exact c i
  · subst h
    rw [← hD, List.drop_append_of_le_length (Nat.le_refl _), List.drop_length, List.nil_append, List.take_of_length_le hZ]
    exact hs
  · have h1 : (j + 1) * n ≤ i * n := Nat.mul_le_mul_right n h
    rw [Nat.add_mul, Nat.one_mul] at h1
    rw [List.drop_eq_nil_of_le (by rw [List.length_append]; omega)]
    simp [Srt]
theorem chunks_drop {n : Nat} {l : List α} (c : Chunks lt n l) (j : Nat) : Chunks lt n (l.drop (j * n)) := fun i => by
  rw [List.drop_drop, ← Nat.add_mul]
  exact c (j + i)
theorem chunks_first {n : Nat} {l : List α} (c : Chunks lt n l) : Srt lt (l.take n) := by simpa using c 0
theorem chunks_second {n : Nat} {l : List α} (c : Chunks lt n l) : Srt lt ((l.drop n).take n) := by simpa using c 1
theorem chunks_all {n : Nat} {l : List α} (c : Chunks lt n l) (h : l.length ≤ n) : Srt lt l := by
  have := chunks_first c
  rwa [List.take_of_length_le h] at this
end St
end Go.Proofs.YtamhpnenpoamhaaGreat

/- The library's stable sort at rules. -/
namespace Go.Proofs.YtamhpnenpoamhaaGreat
open Go.RowKit Go.Shelf Go.Sort Go.Lib

theorem sort_merges {P : Program} {α : Type} [Inhabited α] {k : Nat} {enc : α → List Value} {cf : α → α → Int} {g : Nat} {cb : Array Value} {blk off N : Nat} {d0 : Array α} {w0 : World} (H : SortAt P k enc cf g cb blk off N d0 w0) (cap : Nat) : ∀ n, Merges P k enc cf g cb blk off N cap w0 n
  | 0 => fun A X Y C w a m b h hX hY => absurd h (by omega)
  | n + 1 => fun A X Y C w a m b h hX hY hsX hsY S ha hm hb => by
    by_cases h1 : X.length = 1
    · obtain ⟨x, rfl⟩ := List.length_eq_one_iff.1 h1
      exact sort_mergeOne H cap w A x Y C hsY S a m b ha (by simpa using hm) (by simpa using hb)
    · by_cases h2 : Y.length = 1
      · obtain ⟨y, rfl⟩ := List.length_eq_one_iff.1 h2
        exact sort_mergeLast H cap w A X y C (by omega) hsX S a m b ha hm (by simpa using hb)
      · exact sort_mergeGen H cap n (sort_merges H cap n) w A X Y C (by omega) (by omega) h hsX hsY S a m b ha hm hb

/-- The insertion sort, at this program. -/
theorem sort_insertion {α : Type} [Inhabited α] {enc : α → List Value} {cf : α → α → Int} {g : Nat} {cb : Array Value} {blk off N : Nat} {d0 : Array α} {w0 : World} (H : SortAt Tryz.prog 4 enc cf g cb blk off N d0 w0) (cap : Nat) (w : World)
    (A X C : List α) (S : LW enc 4 w0 blk off N (A ++ (X ++ C)) w) (a b : Nat) (ha : a = A.length) (hb : b = A.length + X.length) :
    Calls Tryz.prog 79 #[.slice (some ⟨blk, off, none⟩) N cap, .int .i64 a, .int .i64 b, .func (.func g) #[] cb] w fun e w' => e = .returned (.tuple #[]) ∧ ∃ Y, St.Srt (ltOf cf) Y ∧ St.SP (ltOf cf) Y X ∧ LW enc 4 w0 blk off N (A ++ (Y ++ C)) w' := by
  obtain ⟨hlen, hS⟩ := S
  have hs : (A ++ (X ++ C)).toArray.size = N := by simpa using hlen
  have hl : A.length + (X.length + C.length) = N := by simpa using hlen
  have hC : CmpLays Tryz.prog g cb enc 4 cf blk off (A ++ (X ++ C)).toArray.size w := fun m os dk hdk x y => by
    obtain ⟨n0, os0, rfl⟩ := hS
    rw [sortWorldK_on enc 4 w0 blk off n0 m _ dk os0 os H.R.hblk hdk]
    exact H.hcmp _ _ dk (hdk.trans hs) x y
  have K := AnyQ.insertionSortCmpFunc insLays 4 Tryz.isAgg37 Tryz.sizeOf37 enc H.R.hk H.R.h1 cf g cb blk off cap a b (A ++ (X ++ C)).toArray w H.eg hC (hS.holds H.R.hblk H.R.hH (hs.trans H.hN.symm)) (hS.lt H.R.hblk) (by omega) (by omega) (by rw [hs]; exact H.hsz)
  rw [hs] at K
  refine K.mono ?_
  rintro e w' ⟨rfl, n, os, rfl⟩
  subst ha hb
  obtain ⟨Y, h1, h2, h3⟩ := St.insertion_list H.O A X C
  have hYl := h3.length
  refine ⟨rfl, Y, h2, h3, by simp; omega, ?_⟩
  rw [h1]
  exact hS.on H.R.hblk n _ os (by simp; omega)

set_option maxHeartbeats 4000000 in
set_option maxRecDepth 1000000 in
theorem sort_stable {α : Type} [Inhabited α] {enc : α → List Value} {cf : α → α → Int} {g : Nat} {cb : Array Value} {blk off N : Nat} {d0 : Array α} {w0 : World} (H : SortAt Tryz.prog 4 enc cf g cb blk off N d0 w0) (cap : Nat) (w : World)
    (l0 : List α) (S : LW enc 4 w0 blk off N l0 w) :
    Calls Tryz.prog 57 #[.slice (some ⟨blk, off, none⟩) N cap, .int .i64 N, .func (.func g) #[] cb] w fun e w' => e = .returned (.tuple #[]) ∧ ∃ l, St.Srt (ltOf cf) l ∧ St.SP (ltOf cf) l l0 ∧ LW enc 4 w0 blk off N l w' := by
  have hlen := S.1
  have S0 : Aside (LW enc 4 w0 blk off N l0 w) := S
  have hsz := H.hsz
  have HH := Lib.hid H
  clear S H
  go_enter Tryz.func57, Tryz.ntmps57
  go_wp2
  go_loopg [7, 8] N (fun kx s1 s2 wr => ∃ (a b : Nat) (D D0 T : List α), s1 = .int .i64 a ∧ s2 = .int .i64 b ∧ b = a + 20 ∧ N - a ≤ kx ∧ a ≤ N ∧ Aside (l0 = D0 ++ T ∧ D.length = a ∧ D0.length = a ∧ (∃ j, a = j * 20) ∧ St.SP (ltOf cf) D D0 ∧ St.Chunks (ltOf cf) 20 D ∧ LW enc 4 w0 blk off N (D ++ T) wr))
  case atStart => exact ⟨0, 20, [], [], l0, rfl, rfl, rfl, by omega, by omega, rfl, rfl, rfl, ⟨0, rfl⟩, St.SP.refl _, St.chunks_nil _, S0⟩
  case round =>
    clear S0
    obtain ⟨a, b, D, D0, T, rfl, rfl, hba, hkx, haN, HI⟩ := hrel
    by_cases hbN : b ≤ N
    · have hbz : (b : Int) ≤ (N : Int) := by omega
      have hbz2 : (a : Int) ≤ (N : Int) := by omega
      have hT : D.length + T.length = N := by have := HI.out.2.2.2.2.2.2.1; simpa using this
      have hDl := HI.out.2.1
      have K := Lib.hid (sort_insertion HH.out cap wr D (T.take 20) (T.drop 20) (by rw [List.take_append_drop]; exact HI.out.2.2.2.2.2.2) a b (by omega) (by simp; omega))
      have HT := Lib.hid hT; have HDl := Lib.hid hDl; have HBA := Lib.hid hba
      clear hT hDl hba
      go_wp2_with (go_at_call 79; refine K.out.mono ?_; rintro e w2 ⟨rfl, Y, g1, g2, g3⟩; have G := Lib.hid (And.intro g1 (And.intro g2 g3)); clear g1 g2 g3)
      have hba := HBA.out
      go_roundg (N - b)
      case measure => omega
      case rel =>
        obtain ⟨q1, q2, q3, ⟨j, q4⟩, q5, q6, q7⟩ := HI.out
        obtain ⟨g1, g2, g3⟩ := G.out
        have hT := HT.out
        have hY : Y.length = 20 := by rw [g2.length]; simp; omega
        refine ⟨b, b + 20, D ++ Y, D0 ++ T.take 20, T.drop 20, rfl, by go_num, rfl, Nat.le_refl _, hbN, ?_, by simp; omega, by simp; omega, ⟨j + 1, by omega⟩, St.SP.append q5 g2, St.chunks_append (j := j) (by omega) q6 g1 (by omega), LW.eq g3 (by simp)⟩
        rw [q1]; simp
    · have hbz : ¬ (b : Int) ≤ (N : Int) := by omega
      have hbz2 : (a : Int) ≤ (N : Int) := by omega
      have hT : D.length + T.length = N := by have := HI.out.2.2.2.2.2.2.1; simpa using this
      have hDl := HI.out.2.1
      have K := Lib.hid (sort_insertion HH.out cap wr D T [] (by rw [List.append_nil]; exact HI.out.2.2.2.2.2.2) a N (by omega) (by omega))
      have HT := Lib.hid hT; have HDl := Lib.hid hDl; have HBA := Lib.hid hba
      clear hT hDl hba
      go_wp2_with (go_at_call 79; refine K.out.mono ?_; rintro e w2 ⟨rfl, Y, g1, g2, g3⟩; have G := Lib.hid (And.intro g1 (And.intro g2 g3)); clear g1 g2 g3)
      have H2 : Aside (∃ l, St.SP (ltOf cf) l l0 ∧ St.Chunks (ltOf cf) 20 l ∧ LW enc 4 w0 blk off N l w2) := by
        obtain ⟨q1, q2, q3, ⟨j, q4⟩, q5, q6, q7⟩ := HI.out
        obtain ⟨g1, g2, g3⟩ := G.out
        have hT := HT.out; have hba := HBA.out
        have hY := g2.length
        exact ⟨D ++ Y, by rw [q1]; exact St.SP.append q5 g2, St.chunks_append (j := j) (by omega) q6 g1 (by omega), LW.eq g3 (by simp)⟩
      clear HI G HT HDl hbN hbz hbz2 HBA hkx haN
      go_loopg [6, 7, 8, 9] N (fun kx s1 s2 s3 s4 wr => ∃ (bs : Nat) (l : List α), s1 = .int .i64 bs ∧ 20 ≤ bs ∧ bs ≤ 2 * N + 20 ∧ N - bs ≤ kx ∧ Aside (St.SP (ltOf cf) l l0 ∧ St.Chunks (ltOf cf) bs l ∧ LW enc 4 w0 blk off N l wr))
      case atStart => obtain ⟨l, h⟩ := H2.out; exact ⟨20, l, rfl, by omega, by omega, by omega, h⟩
      case round =>
        clear H2
        obtain ⟨bs, l, rfl, hbs, hbs2, hkx, HI⟩ := hrel
        by_cases hlt : bs < N
        · have hltz : (bs : Int) < (N : Int) := by omega
          go_wp2
          go_loopg [7, 8] N (fun kx s1 s2 wr => ∃ (a b : Nat) (D D0 T : List α), s1 = .int .i64 a ∧ s2 = .int .i64 b ∧ b = a + 2 * bs ∧ N - a ≤ kx ∧ a ≤ N ∧
            Aside (l = D0 ++ T ∧ D.length = a ∧ D0.length = a ∧ (∃ j, a = j * (2 * bs)) ∧ St.SP (ltOf cf) D D0 ∧ St.Chunks (ltOf cf) (2 * bs) D ∧ St.Chunks (ltOf cf) bs T ∧ LW enc 4 w0 blk off N (D ++ T) wr))
          case atStart =>
            obtain ⟨q1, q2, q3⟩ := HI.out
            exact ⟨0, 2 * bs, [], [], l, rfl, by first | rfl | go_num, by omega, by omega, by omega, rfl, rfl, rfl, ⟨0, by omega⟩, St.SP.refl _, St.chunks_nil _, q2, q3⟩
          case round =>
            obtain ⟨a, b, D, D0, T, rfl, rfl, hba, hkx2, haN, HJ⟩ := hrel
            have hT : D.length + T.length = N := by have := HJ.out.2.2.2.2.2.2.2.1; simpa using this
            have hDl := HJ.out.2.1
            by_cases hbN : b ≤ N
            · have hbz : (b : Int) ≤ (N : Int) := by omega
              have hz1 : (a : Int) + (bs : Int) ≤ (N : Int) := by omega
              have hz2 : (b : Int) + 2 * (bs : Int) ≤ 2 * (N : Int) := by omega
              have e3 : T = T.take bs ++ ((T.drop bs).take bs ++ T.drop (2 * bs)) := by
                conv => lhs; rw [← List.take_append_drop bs T, ← List.take_append_drop bs (T.drop bs)]
                rw [List.drop_drop, show bs + bs = 2 * bs by omega]
              have hs := sort_merges HH.out cap N D (T.take bs) ((T.drop bs).take bs) (T.drop (2 * bs)) wr a (a + bs) b (by simp; omega) (by simp; omega) (by simp; omega) (St.chunks_first HJ.out.2.2.2.2.2.2.1) (St.chunks_second HJ.out.2.2.2.2.2.2.1) (by rw [← e3]; exact HJ.out.2.2.2.2.2.2.2) (by omega) (by simp; omega) (by simp; omega)
              rw [show ((a + bs : Nat) : Int) = (a : Int) + (bs : Int) by omega] at hs
              have K := Lib.hid hs
              have HT := Lib.hid hT; have HDl := Lib.hid hDl; have HBA := Lib.hid hba; have HE3 := Lib.hid e3
              clear hs hT hDl hba e3
              go_wp2_with (go_at_call 80; refine K.out.mono ?_; rintro e w2 ⟨rfl, Z, g1, g2, g3⟩; have G := Lib.hid (And.intro g1 (And.intro g2 g3)); clear g1 g2 g3)
              have hba := HBA.out
              go_roundg (N - b)
              case measure => omega
              case rel =>
                obtain ⟨q1, q2, q3, ⟨j, q4⟩, q5, q6, q6', q7⟩ := HJ.out
                obtain ⟨g1, g2, g3⟩ := G.out
                have hT := HT.out
                have hZ : Z.length = 2 * bs := by rw [g2.length]; simp; omega
                have e4 : T.take bs ++ (T.drop bs).take bs = T.take (2 * bs) := by
                  rw [show 2 * bs = bs + bs by omega, List.take_add]
                rw [e4] at g2
                refine ⟨b, b + 2 * bs, D ++ Z, D0 ++ T.take (2 * bs), T.drop (2 * bs), rfl, by first | rfl | go_num, rfl, Nat.le_refl _, hbN, ?_, by simp; omega, by simp; omega, ⟨j + 1, by rw [Nat.add_mul]; omega⟩, St.SP.append q5 g2, St.chunks_append (j := j) (by omega) q6 g1 (by omega), St.chunks_drop q6' 2, LW.eq g3 (by simp)⟩
                rw [q1]; simp
            · have hbz : ¬ (b : Int) ≤ (N : Int) := by omega
              have hz1 : (a : Int) + (bs : Int) ≤ 2 * (N : Int) := by omega
              have fin : ∀ (w2 : World) (Z : List α), St.Srt (ltOf cf) Z → St.SP (ltOf cf) Z T → LW enc 4 w0 blk off N (D ++ Z) w2 → St.SP (ltOf cf) (D ++ Z) l0 ∧ St.Chunks (ltOf cf) (bs * 2) (D ++ Z) ∧ LW enc 4 w0 blk off N (D ++ Z) w2 := by
                intro w2 Z g1 g2 g3
                obtain ⟨q1, q2, q3, ⟨j, q4⟩, q5, q6, q6', q7⟩ := HJ.out
                have hZ := g2.length
                refine ⟨?_, ?_, g3⟩
                · refine St.SP.trans ?_ HI.out.1
                  rw [q1]; exact St.SP.append q5 g2
                · rw [Nat.mul_comm bs 2]; exact St.chunks_append (j := j) (by omega) q6 g1 (by omega)
              have FIN := Lib.hid fin
              clear fin
              by_cases hm : a + bs < N
              · have hmz : (a : Int) + (bs : Int) < (N : Int) := by omega
                have hs := sort_merges HH.out cap N D (T.take bs) (T.drop bs) [] wr a (a + bs) N (by simp; omega) (by simp; omega) (by simp; omega) (St.chunks_first HJ.out.2.2.2.2.2.2.1) (by
                    have := St.chunks_second HJ.out.2.2.2.2.2.2.1
                    rwa [List.take_of_length_le (by rw [List.length_drop]; omega)] at this) (by rw [List.append_nil, List.take_append_drop]; exact HJ.out.2.2.2.2.2.2.2) (by omega) (by simp; omega) (by simp; omega)
                rw [show ((a + bs : Nat) : Int) = (a : Int) + (bs : Int) by omega, List.take_append_drop] at hs
                have K := Lib.hid hs
                have HT := Lib.hid hT; have HDl := Lib.hid hDl; have HBA := Lib.hid hba
                clear hs hT hDl hba
                go_wp2_with (go_at_call 80; refine K.out.mono ?_; rintro e w2 ⟨rfl, Z, g1, g2, g3⟩; have G := Lib.hid (FIN.out w2 Z g1 g2 (by rw [List.append_nil] at g3; exact g3)); clear g1 g2 g3)
                go_roundg (N - bs * 2)
                case measure => omega
                case rel => exact ⟨bs * 2, D ++ Z, by first | rfl | go_num, by omega, by omega, Nat.le_refl _, G.out⟩
              · have hmz : ¬ (a : Int) + (bs : Int) < (N : Int) := by omega
                have G := Lib.hid (FIN.out wr T (St.chunks_all HJ.out.2.2.2.2.2.2.1 (by omega)) (St.SP.refl _) HJ.out.2.2.2.2.2.2.2)
                have HT := Lib.hid hT; have HDl := Lib.hid hDl; have HBA := Lib.hid hba
                clear hT hDl hba
                go_wp2
                go_roundg (N - bs * 2)
                case measure => omega
                case rel => exact ⟨bs * 2, D ++ T, by first | rfl | go_num, by omega, by omega, Nat.le_refl _, G.out⟩
        · have hltz : ¬ (bs : Int) < (N : Int) := by omega
          go_wp2
          go_end0
          obtain ⟨q1, q2, q3⟩ := HI.out
          exact ⟨rfl, l, St.chunks_all q2 (by rw [q3.1]; omega), q1, q3⟩
end Go.Proofs.YtamhpnenpoamhaaGreat

/- Plain law of decimal digits: what digit.Parse answers, as a function on bytes; no program in sight. -/
namespace Go.Proofs.YtamhpnenpoamhaaGreat.Dg
open Go.RowKit
def isD (c : UInt8) : Bool := 48 ≤ c && c ≤ 57
def val (l : List UInt8) : Nat := l.foldl (fun n c => 10 * n + (c.toNat - 48)) 0
theorem val_snoc (l : List UInt8) (c : UInt8) : val (l ++ [c]) = 10 * val l + (c.toNat - 48) := by simp [val]
def bad (l : List UInt8) : Bool := l.isEmpty || (l.head? == some 48 && decide (1 < l.length)) || !l.all isD
def parse (l : List UInt8) : Int × Int := if bad l then (0, 10) else if 2 ^ 64 ≤ val l then (0, 11) else (val l, 0)
theorem take_snoc (s : ByteArray) (k : Nat) (h : k < s.size) : s.data.toList.take (k + 1) = s.data.toList.take k ++ [s[k]] := by
  rw [List.take_succ_eq_append_getElem (by simpa using h)]; rfl
/-- 'the number so far, by 64 bits' and 'was it too great' of the bytes that have been read. -/
def num (l : List UInt8) : Int := ((val l % 2 ^ 64 : Nat) : Int)
def big (l : List UInt8) : Bool := decide (2 ^ 64 ≤ val l)
theorem isD_nat (c : UInt8) : isD c = decide (48 ≤ c.toNat ∧ c.toNat ≤ 57) := by
  unfold isD; rw [Bool.eq_iff_iff]; simp [UInt8.le_iff_toNat_le]
theorem num_range (l : List UInt8) : 0 ≤ num l ∧ num l ≤ 18446744073709551615 := by unfold num; omega
theorem num_snoc (l : List UInt8) (c : UInt8) (h : isD c = true) : num (l ++ [c]) = (num l * 10 + ((c.toNat : Int) - 48)) % 18446744073709551616 := by
  rw [isD_nat] at h
  have h' : 48 ≤ c.toNat ∧ c.toNat ≤ 57 := of_decide_eq_true h
  unfold num; rw [val_snoc]; omega
theorem big_snoc (l : List UInt8) (c : UInt8) (h : isD c = true) : big (l ++ [c]) = (big l || decide (num l > (18446744073709551615 - ((c.toNat : Int) - 48)) / 10)) := by
  rw [isD_nat] at h
  have h' : 48 ≤ c.toNat ∧ c.toNat ≤ 57 := of_decide_eq_true h
  unfold big num; rw [val_snoc]
  by_cases hb : 2 ^ 64 ≤ val l
  · rw [decide_eq_true hb, Bool.true_or, decide_eq_true_iff]; omega
  · rw [decide_eq_false hb, Bool.false_or]
    have : val l % 2 ^ 64 = val l := Nat.mod_eq_of_lt (by omega)
    rw [this, Bool.eq_iff_iff, decide_eq_true_iff, decide_eq_true_iff]; omega
theorem parse_bad (l : List UInt8) (h : bad l = true) : parse l = (0, 10) := by unfold parse; rw [if_pos h]
theorem bad_of_nil {l : List UInt8} (h : l = []) : bad l = true := by subst h; rfl
theorem bad_of_zero {l : List UInt8} (h : l.head? = some 48) (h1 : 1 < l.length) : bad l = true := by unfold bad; simp [h, h1]
theorem bad_of_digit {l : List UInt8} (k : Nat) (hk : k < l.length) (h : isD l[k] = false) : bad l = true := by
  unfold bad
  have : l.all isD = false := by
    rw [List.all_eq_false]; exact ⟨l[k], List.getElem_mem hk, by simp [h]⟩
  simp [this]
theorem parse_big {l : List UInt8} (h0 : bad l = false) (h : big l = true) : parse l = (0, 11) := by
  unfold parse; rw [if_neg (by simp [h0]), if_pos (of_decide_eq_true h)]
theorem parse_ok {l : List UInt8} (h0 : bad l = false) (h : big l = false) : parse l = (num l, 0) := by
  have h' : ¬ 2 ^ 64 ≤ val l := of_decide_eq_false h
  unfold parse num; rw [if_neg (by simp [h0]), if_neg h', Nat.mod_eq_of_lt (by omega)]
theorem get_eq (s : ByteArray) (k : Nat) (h : k < s.size) (h' : k < s.data.toList.length) : s.data.toList[k] = s[k] := rfl
theorem head_eq (s : ByteArray) (h : 0 < s.size) : s.data.toList.head? = some s[0] := by
  rw [List.head?_eq_getElem?, List.getElem?_eq_getElem (by simpa using h)]; rfl
/-- The bytes are not bad where the first is no lone 0 and all are digits. -/
theorem good {l : List UInt8} (h0 : 0 < l.length) (h1 : ¬ l.head? = some 48 ∨ l.length ≤ 1) (h2 : l.all isD = true) : bad l = false := by
  unfold bad
  have e : l.isEmpty = false := by cases l with | nil => simp at h0 | cons => rfl
  rw [e, h2, Bool.false_or, Bool.not_true, Bool.or_false, Bool.and_eq_false_iff]
  rcases h1 with h1 | h1
  · left; simpa using h1
  · right; exact decide_eq_false (by omega)
end Go.Proofs.YtamhpnenpoamhaaGreat.Dg

/- Plain laws of products in two words. -/
namespace Go.Proofs.YtamhpnenpoamhaaGreat
open Go.RowKit

theorem or_words (m l : Int) (m0 : 0 ≤ m) (m1 : m ≤ 18446744073709551615) (l0 : 0 ≤ l) (l1 : l < 4294967296) :
    bits .or .u64 (m * 4294967296 % 18446744073709551616) l = m % 4294967296 * 4294967296 + l := by
  rw [u64_or _ _ (by omega) (by omega) l0 (by omega)]
  have e : (m * 4294967296 % 18446744073709551616).toNat = 2 ^ 32 * (m % 4294967296).toNat := by omega
  rw [e, ← Nat.two_pow_add_eq_or_of_lt (by omega : l.toNat < 2 ^ 32)]
  omega
/-- The product of a and b out of their halves, as the code reckons it. -/
theorem mul_words (a b x0 x1 y0 y1 : Int) (ea : a = x1 * 4294967296 + x0) (eb : b = y1 * 4294967296 + y0)
    (h1 : 0 ≤ x0 ∧ x0 ≤ 4294967295) (h2 : 0 ≤ x1 ∧ x1 ≤ 4294967295) (h3 : 0 ≤ y0 ∧ y0 ≤ 4294967295) (h4 : 0 ≤ y1 ∧ y1 ≤ 4294967295) :
    a * b / 18446744073709551616 = x1 * y1 + (x1 * y0 + x0 * y0 / 4294967296) / 4294967296 + (x0 * y1 + (x1 * y0 + x0 * y0 / 4294967296) % 4294967296) / 4294967296 ∧
    a * b % 18446744073709551616 = (x0 * y1 + (x1 * y0 + x0 * y0 / 4294967296) % 4294967296) % 4294967296 * 4294967296 + x0 * y0 % 4294967296 := by
  have pA := prod_bound x1 y1 h2.1 h2.2 h4.1 h4.2
  have pB := prod_bound x1 y0 h2.1 h2.2 h3.1 h3.2
  have pC := prod_bound x0 y0 h1.1 h1.2 h3.1 h3.2
  have pD := prod_bound x0 y1 h1.1 h1.2 h4.1 h4.2
  have hxy : a * b = x1 * y1 * 18446744073709551616 + (x1 * y0 + x0 * y1) * 4294967296 + x0 * y0 := by rw [ea, eb]; exact split_mul x1 x0 y1 y0
  rw [hxy]
  generalize x1 * y1 = A at *
  generalize x1 * y0 = B at *
  generalize x0 * y0 = C at *
  generalize x0 * y1 = D at *
  constructor <;> omega
/-- A product, or the end. -/
def Nm.mul (a b : Int) : Int := if a * b / 18446744073709551616 = 0 then a * b else 18446744073709551615
end Go.Proofs.YtamhpnenpoamhaaGreat

/- Plain law of keys: which may be, and which is less. -/
namespace Go.Proofs.YtamhpnenpoamhaaGreat.Ky
open Go.RowKit
def ok (c : UInt8) : Bool := 33 ≤ c && c ≤ 126
theorem ok_nat (c : UInt8) : ok c = decide (33 ≤ c.toNat ∧ c.toNat ≤ 126) := by
  unfold ok; rw [Bool.eq_iff_iff]; simp [UInt8.le_iff_toNat_le]
def right (l : List UInt8) : Bool := decide (0 < l.length) && decide (l.length ≤ 128) && l.all ok
/-- r is where the first byte stands that may not be; below 0: all may. -/
def Idx (l : List UInt8) (r : Int) : Prop := decide (0 ≤ r) = !l.all ok
theorem all_snoc (l : List UInt8) (k : Nat) (h : k < l.length) (h1 : (l.take k).all ok = true) (h2 : 33 ≤ (l[k].toNat : Int) ∧ (l[k].toNat : Int) ≤ 126) : (l.take (k + 1)).all ok = true := by
  have : ok l[k] = true := by rw [ok_nat]; exact decide_eq_true (by omega)
  rw [List.take_succ_eq_append_getElem h, List.all_append, h1]; simp [this]
theorem idx_bad (l : List UInt8) (k : Nat) (h : k < l.length) (h2 : (l[k].toNat : Int) < 33 ∨ 126 < (l[k].toNat : Int)) : Idx l k := by
  have : l.all ok = false := by
    rw [List.all_eq_false]; exact ⟨l[k], List.getElem_mem h, by rw [ok_nat, decide_eq_true_iff]; omega⟩
  unfold Idx; rw [this]; simp
theorem idx_good (l : List UInt8) (h : l.all ok = true) : Idx l (-1) := by unfold Idx; rw [h]; rfl
theorem right_big {l : List UInt8} (h : ¬ (0 < l.length ∧ l.length ≤ 128)) : right l = false := by
  unfold right
  rw [Bool.and_eq_false_iff]
  by_cases h0 : 0 < l.length
  · left; simp [show ¬ l.length ≤ 128 from fun h1 => h ⟨h0, h1⟩]
  · left; simp [h0]
theorem right_fit {l : List UInt8} (h0 : 0 < l.length) (h1 : l.length ≤ 128) : right l = l.all ok := by unfold right; simp [h0, h1]
/-- Which of two is less, byte by byte. -/
def less : List UInt8 → List UInt8 → Bool
  | _, [] => false
  | [], _ :: _ => true
  | x :: xs, y :: ys => if x = y then less xs ys else decide (x < y)
theorem less_at : ∀ (a b : List UInt8) (k : Nat), (∀ j, j < k → a.getD j 0 = b.getD j 0) → k < a.length → k < b.length → a.getD k 0 ≠ b.getD k 0 → less a b = decide ((a.getD k 0).toNat < (b.getD k 0).toNat)
  | [], _, _, _, h, _, _ => by simp at h
  | _ :: _, [], _, _, _, h, _ => by simp at h
  | x :: xs, y :: ys, 0, _, _, _, h => by
    simp only [List.getD_cons_zero] at h ⊢
    rw [less, if_neg h]; rfl
  | x :: xs, y :: ys, k + 1, h, h1, h2, h3 => by
    have e : x = y := by simpa using h 0 (by omega)
    simp only [List.getD_cons_succ] at h3 ⊢
    rw [less, if_pos e]
    exact less_at xs ys k (fun j hj => by simpa using h (j + 1) (by omega)) (by simpa using h1) (by simpa using h2) h3
theorem less_end : ∀ (a b : List UInt8), (∀ j, j < a.length → j < b.length → a.getD j 0 = b.getD j 0) → less a b = decide (a.length < b.length)
  | [], [], _ => rfl
  | [], _ :: _, _ => by simp [less]
  | _ :: _, [], _ => by simp [less]
  | x :: xs, y :: ys, h => by
    have e : x = y := by simpa using h 0 (by simp) (by simp)
    rw [less, if_pos e, less_end xs ys (fun j h1 h2 => by simpa using h (j + 1) (by simpa using h1) (by simpa using h2))]
    simp
/-- Byte j, or 0. -/
def at8 (s : ByteArray) (j : Nat) : UInt8 := s.data.toList.getD j 0
theorem at8_eq (s : ByteArray) (j : Nat) (h : j < s.size) : s[j] = at8 s j := by
  unfold at8
  rw [List.getD_eq_getElem?_getD, List.getElem?_eq_getElem (by simpa using h)]; rfl
def pairs (a b : ByteArray) (k : Nat) : List (UInt8 × UInt8) := (List.range k).map fun j => (at8 a j, at8 b j)
theorem pairs_succ (a b : ByteArray) (k : Nat) : pairs a b (k + 1) = pairs a b k ++ [(at8 a k, at8 b k)] := by simp [pairs, List.range_succ]
theorem pairs_length (a b : ByteArray) (k : Nat) : (pairs a b k).length = k := by simp [pairs]
theorem pairs_mem (a b : ByteArray) {k j : Nat} (h : j < k) : (at8 a j, at8 b j) ∈ pairs a b k := by
  simp only [pairs, List.mem_map, List.mem_range]; exact ⟨j, h, rfl⟩
def lessB (a b : ByteArray) : Bool := less a.data.toList b.data.toList
theorem lessB_at (a b : ByteArray) (k : Nat) (h : ∀ p ∈ pairs a b k, p.1 = p.2) (h1 : k < a.size) (h2 : k < b.size) (h3 : at8 a k ≠ at8 b k) : lessB a b = decide ((at8 a k).toNat < (at8 b k).toNat) :=
  less_at _ _ k (fun j hj => h _ (pairs_mem a b hj)) (by simpa using h1) (by simpa using h2) h3
theorem lessB_end (a b : ByteArray) (h : ∀ p ∈ pairs a b (min a.size b.size), p.1 = p.2) : lessB a b = decide (a.size < b.size) := by
  have := less_end a.data.toList b.data.toList (fun j h1 h2 => h _ (pairs_mem a b (by simp at h1 h2; omega)))
  simpa [lessB] using this
end Go.Proofs.YtamhpnenpoamhaaGreat.Ky

/- Plain law of rules: what rule.Parse, rule.Right and their parts answer. -/
namespace Go.Proofs.YtamhpnenpoamhaaGreat
open Go.RowKit

def sGcra : ByteArray := ⟨#[103, 99, 114, 97]⟩
def sBucket : ByteArray := ⟨#[98, 117, 99, 107, 101, 116]⟩
def sLeaky : ByteArray := ⟨#[108, 101, 97, 107, 121]⟩
def Rl.name (n : Int) : ByteArray := if n = 1 then sGcra else if n = 2 then sBucket else if n = 3 then sLeaky else ⟨#[]⟩

def Rl.kindOf (s : ByteArray) : Int := if (s.toList == sGcra.toList) = true then 1 else if (s.toList == sBucket.toList) = true then 2 else if (s.toList == sLeaky.toList) = true then 3 else 0

theorem Rl.kindOf_range (s : ByteArray) : 0 ≤ Rl.kindOf s ∧ Rl.kindOf s ≤ 3 := by unfold Rl.kindOf; split <;> (try split) <;> (try split) <;> omega

/-- What is wrong with a rule of this prefix and these numbers. -/
def Rl.okP (p : ByteArray) : Bool := p.toList.isEmpty || Ky.right p.data.toList
def Rl.right (p : ByteArray) (e u k : Int) : Int :=
  if Rl.okP p = false then 23 else if ¬ 0 < e then 24 else if ¬ 0 < u then 25 else if ¬ Nm.mul e u ≤ 4611686018427387904 then 26 else if ¬ (1 ≤ k ∧ k ≤ 3) then 27 else 0
/-- Ask number j of a rule. -/
def Rl.askB (p : ByteArray) (e u k : Int) (j : Nat) : Bool :=
  if j = 0 then Rl.okP p else if j = 1 then decide (0 < e) else if j = 2 then decide (0 < u) else if j = 3 then decide (Nm.mul e u ≤ 4611686018427387904) else decide (1 ≤ k ∧ k ≤ 3)
def Rl.askE (j : Nat) : Int := 23 + j
theorem Rl.right_all {p : ByteArray} {e u k : Int} (h : ∀ j, j < 5 → Rl.askB p e u k j = true) : Rl.right p e u k = 0 := by
  have h0 := h 0 (by omega); have h1 := h 1 (by omega); have h2 := h 2 (by omega); have h3 := h 3 (by omega); have h4 := h 4 (by omega)
  simp [Rl.askB] at h0 h1 h2 h3 h4
  unfold Rl.right
  rw [if_neg (by simp [h0]), if_neg (by simp [h1]), if_neg (by simp [h2]), if_neg (by simp [h3]), if_neg (by simp [h4])]
theorem Rl.right_at {p : ByteArray} {e u k : Int} (j : Nat) (hj : j < 5) (h : ∀ i, i < j → Rl.askB p e u k i = true) (hn : Rl.askB p e u k j = false) : Rl.right p e u k = Rl.askE j := by
  unfold Rl.right Rl.askE
  obtain rfl | rfl | rfl | rfl | rfl : j = 0 ∨ j = 1 ∨ j = 2 ∨ j = 3 ∨ j = 4 := by omega
  · simp [Rl.askB] at hn; rw [if_pos hn]; rfl
  · have h0 := h 0 (by omega)
    simp [Rl.askB] at hn h0; rw [if_neg (by simp [h0]), if_pos (by omega)]; rfl
  · have h0 := h 0 (by omega); have h1 := h 1 (by omega)
    simp [Rl.askB] at hn h0 h1; rw [if_neg (by simp [h0]), if_neg (by simp [h1]), if_pos (by omega)]; rfl
  · have h0 := h 0 (by omega); have h1 := h 1 (by omega); have h2 := h 2 (by omega)
    simp [Rl.askB] at hn h0 h1 h2; rw [if_neg (by simp [h0]), if_neg (by simp [h1]), if_neg (by simp [h2]), if_pos (by omega)]; rfl
  · have h0 := h 0 (by omega); have h1 := h 1 (by omega); have h2 := h 2 (by omega); have h3 := h 3 (by omega)
    simp [Rl.askB] at hn h0 h1 h2 h3; rw [if_neg (by simp [h0]), if_neg (by simp [h1]), if_neg (by simp [h2]), if_neg (by simp [h3]), if_pos (by omega)]; rfl

def Rl.prefixE (s : ByteArray) : Int := if Ky.right s.data.toList = true then 0 else 23
def Rl.namedE (k : Int) : Int := if 0 < k then 0 else 27
theorem Rl.namedE_pos {k : Int} (h : 0 < k) : Rl.namedE k = 0 := if_pos h
theorem Rl.namedE_neg {k : Int} (h : ¬ 0 < k) : Rl.namedE k = 27 := if_neg h
/-- The error of a number that may not be 0. -/
def Rl.numE (z : Int) (r : Int × Int) : Int := if r.2 = 0 ∧ r.1 = 0 then z else r.2

def Rl.burstE (e : Int) (r : Int × Int) : Int := if Rl.numE 25 r = 0 ∧ 4611686018427387904 < Nm.mul e r.1 then 26 else Rl.numE 25 r
theorem Dg.parse_range (l : List UInt8) : 0 ≤ (Dg.parse l).1 ∧ (Dg.parse l).1 ≤ 18446744073709551615 := by
  unfold Dg.parse
  split
  · simp
  · split
    · simp
    · rename_i h; simp; omega


def sDefault : ByteArray := ⟨#[100, 101, 102, 97, 117, 108, 116]⟩
def sRule : ByteArray := ⟨#[114, 117, 108, 101]⟩
/-- A rule. -/
structure Ru where
  p : ByteArray
  e : Int
  u : Int
  k : Int
def Ru.zero : Ru := ⟨⟨#[]⟩, 0, 0, 0⟩
/-- What a word does to a rule, by the part that reads it: 0 the prefix, 1 the first number, 2 the second, 3 the kernel; the error. -/
def Rl.step (kd : Nat) (r : Ru) (s : ByteArray) : Int × Ru :=
  if kd = 0 then (Rl.prefixE s, { r with p := s }) else if kd = 1 then (Rl.numE 24 (Dg.parse s.data.toList), { r with e := (Dg.parse s.data.toList).1 })
  else if kd = 2 then (Rl.burstE r.e (Dg.parse s.data.toList), { r with u := (Dg.parse s.data.toList).1 }) else (Rl.namedE (Rl.kindOf s), { r with k := Rl.kindOf s })
/-- The words of a line by its parts, from word number 'at' on. -/
def Rl.run : List Nat → List ByteArray → Ru → Int → Ru × Int × Int
  | kd :: ks, s :: ss, r, n => if (Rl.step kd r s).1 = 0 then Rl.run ks ss (Rl.step kd r s).2 (n + 1) else (Ru.zero, (Rl.step kd r s).1, n)
  | _, _, r, _ => (r, 0, 0)
def Rl.parse (l : List ByteArray) : Ru × Int × Int :=
  if l.getD 0 ⟨#[]⟩ = sDefault ∧ l.length = 4 then Rl.run [1, 2, 3] l.tail Ru.zero 1 else if l.getD 0 ⟨#[]⟩ = sRule ∧ l.length = 5 then Rl.run [0, 1, 2, 3] l.tail Ru.zero 1 else (Ru.zero, 22, 0)
end Go.Proofs.YtamhpnenpoamhaaGreat

/- config.Order sorts rules by their prefixes, stably. -/
namespace Go.Proofs.YtamhpnenpoamhaaGreat
open Go.RowKit Go.Shelf Go.Sort Go.Lib

/-- Which text is less, byte by byte. -/
def ltS (a b : ByteArray) : Bool := Op.bytesLess a.toList b.toList
def cmpS (a b : ByteArray) : Int := if ltS a b = true then -1 else if (!(ltS a b || a.toList == b.toList)) = true then 1 else 0

theorem cmp_isNaN (a : ByteArray) (w : World) : Calls Tryz.prog 58 #[.string a] w fun x w' => x = .returned (.bool false) ∧ w = w' := by
  go_enter Tryz.func58, Tryz.ntmps58
  go_wp2
  go_ret
  exact ⟨rfl, rfl⟩

theorem cmp_compare (a b : ByteArray) (w : World) : Calls Tryz.prog 34 #[.string a, .string b] w fun x w' => x = .returned (.int .i64 (cmpS a b)) ∧ w = w' := by
  have HN := Lib.hid (fun a w => cmp_isNaN a w)
  by_cases h1 : ltS a b = true
  · have h1' : Op.bytesLess a.toList b.toList = true := h1
    have HE := Lib.hid (show cmpS a b = -1 from if_pos h1)
    clear h1
    go_enter Tryz.func34, Tryz.ntmps34
    go_wp2_with (go_at_call 58; refine (HN.out _ _).mono ?_; rintro e w2 ⟨rfl, rfl⟩)
    go_ret
    exact ⟨by rw [HE.out]; rfl, rfl⟩
  · have h1' : Op.bytesLess a.toList b.toList = false := by simpa [ltS] using h1
    by_cases h2 : (a.toList == b.toList) = true
    · have HE := Lib.hid (show cmpS a b = 0 by unfold cmpS; rw [if_neg h1, if_neg (by simp [h2])])
      clear h1
      go_enter Tryz.func34, Tryz.ntmps34
      go_wp2_with (go_at_call 58; refine (HN.out _ _).mono ?_; rintro e w2 ⟨rfl, rfl⟩)
      go_ret
      exact ⟨by rw [HE.out]; rfl, rfl⟩
    · have h2 : (a.toList == b.toList) = false := by simpa using h2
      have HE := Lib.hid (show cmpS a b = 1 by unfold cmpS; rw [if_neg h1, if_pos (by simp [h2, h1])])
      clear h1
      go_enter Tryz.func34, Tryz.ntmps34
      go_wp2_with (go_at_call 58; refine (HN.out _ _).mono ?_; rintro e w2 ⟨rfl, rfl⟩)
      go_ret
      exact ⟨by rw [HE.out]; rfl, rfl⟩
end Go.Proofs.YtamhpnenpoamhaaGreat

/- slices.Clone of rules. -/
namespace Go.Proofs.YtamhpnenpoamhaaGreat
open Go.RowKit Go.Proofs.YtamhpnenpoamhaaGreatW.PrintWords

def kRu : Kd Ru := Kd.iso (Kd.pair Kd.string (Kd.pair (Kd.int .u64) (Kd.pair (Kd.int .u64) (Kd.int .u8)))) fun x => (x.p, (x.e, (x.u, x.k)))
def Ru.cells (x : Ru) : List Value := [.string x.p, .int .u64 x.e, .int .u64 x.u, .int .u8 x.k]
theorem kRu_M {w : World} {base : Nat} {ok : Nat → Prop} {x : Ru} : kRu.M w base ok x x.cells := ⟨[.string x.p], _, rfl, rfl, [.int .u64 x.e], _, rfl, rfl, [.int .u64 x.u], [.int .u8 x.k], rfl, rfl, rfl⟩
theorem kRu_K {w : World} {x : Ru} {cs : List Value} (h : kRu.K w x cs) : cs = x.cells := by
  obtain ⟨c0, c1, rfl, h0, c2, c3, rfl, h2, c4, c5, rfl, h4, h5⟩ := h
  have e0 : c0 = [.string x.p] := h0
  have e2 : c2 = [.int .u64 x.e] := h2
  have e4 : c4 = [.int .u64 x.u] := h4
  have e5 : c5 = [.int .u8 x.k] := h5
  subst e0 e2 e4 e5
  rfl
theorem rules_info : (Tryz.prog.info? 37).map (fun i => (i.zero, i.size, i.bytes)) = some (some (.agg #[.string ByteArray.empty, .int .u64 0, .int .u64 0, .int .u8 0]), 4, 40) := by kernel_rfl

theorem rules_clone (A : Option Addr) (c : Nat) (l : List Ru) (w : World) (hc : kRu.C w A l.length l) (hl : l.length ≤ 1000000000) :
    Calls Tryz.prog 31 #[.slice A l.length c] w fun x w' => ∃ v, x = .returned v ∧ kRu.R 37 w' w.heap.size (fun _ => True) v l ∧ Below w.heap.size w w' := by
  have hnil := fun w n c n' c' a => Lib.run_eql_slice_nil (P := Tryz.prog) w 26 37 a n c n' c' (by kernel_rfl)
  have hR : ∀ x cs, kRu.K w x cs → kRu.M w w.heap.size (fun _ => False) x cs := fun x cs h => by rw [kRu_K h]; exact kRu_M
  cases A with
  | none =>
    have hn : l = [] := by
      rcases Nat.eq_zero_or_pos l.length with h | h
      · exact List.eq_nil_of_length_eq_zero h
      · obtain ⟨ad, e, _⟩ := hc.2.2 h
        cases e
    subst hn
    clear hR
    go_enter Tryz.func31, Tryz.ntmps31
    go_wp2
    go_ret
    exact ⟨_, rfl, Kd.R_nil _ _ _ _ _, Below.refl _ _⟩
  | some ad =>
    have hE : kRu.R 37 (w.alloc (.cells #[] 37)) w.heap.size (fun _ => True) (.slice (some ⟨w.heap.size, 0, none⟩) 0 0) [] :=
      ⟨fun _ _ => trivial, [], by simpa using World.ownsRow_lit (base := w.heap.size) (e := 37) (size := kRu.sz) w #[] 0 (Nat.le_refl _) (by decide) rfl, ⟨rfl, fun j p h => by simp at h⟩⟩
    have HE := Lib.hid hE
    have HC := Lib.hid (Kd.C_alloc hc (.cells #[] 37)); have HR := Lib.hid hR; clear hc hR hE
    go_enter Tryz.func31, Tryz.ntmps31
    go_wp2_with (at_builtin; refine Kd.R_append_rows kRu (w0 := w) (W := w.alloc (.cells #[] 37)) w.heap.size rfl (.tmp 5) (.tmp 6) 26 37 _ 40 rfl (by kernel_rfl) rules_info rfl (by decide) (by decide) (.slice (some ⟨w.heap.size, 0, none⟩) 0 0) [] l (some ad) l.length c (fun _ => True) (fun _ => False) rfl rfl HE.out HC.out (fun x cs h => by rw [kRu_K h]; exact kRu_M) (fun _ h => h.elim) (fun _ _ => trivial) ((Below.refl _ _).alloc (Nat.le_refl _) _) (by simp) (by simp; omega) ?_; intro v1 w1 hR1 hB1 hg1 hat)
    go_ret
    exact ⟨_, rfl, hR1, hB1⟩
end Go.Proofs.YtamhpnenpoamhaaGreat

/- Sorting a row of rules of the call's own. -/
namespace Go.Proofs.YtamhpnenpoamhaaGreat
open Go.RowKit Go.Proofs.YtamhpnenpoamhaaGreatW.PrintWords Go.Sort Go.Shelf

instance : Inhabited Ru := ⟨Ru.zero⟩

theorem holds_block {w : World} {g : Nat} {cur : Array Value} {e : TypeId} {fs : List Value} (hb : w.heap[g]? = some (.cells cur e (0, 0))) (ht : cur.toList.take fs.length = fs) : Holds id w g 0 fs.toArray := by
  intro j hj
  have hj' : j < fs.length := by simpa using hj
  refine ⟨?_, by simp [World.frozen?, hb]⟩
  have h1 : (cur.toList.take fs.length)[j]? = fs[j]? := by rw [ht]
  rw [List.getElem?_take_of_lt hj'] at h1
  simp only [World.cell?, hb, Nat.zero_add]
  simp only [Option.isSome_none, Bool.false_eq_true, if_false]
  rw [← Array.getElem?_toList, h1]
  simp [hj']
theorem heap_put {w : World} {g n : Nat} {os : Array Obj} {cur : Array Value} {e : TypeId} {fr : Nat × Nat} (d : Array Value) (hb : w.heap[g]? = some (.cells cur e fr)) :
    (grow (putRow id (Sort.ahead w n) g 0 d) os).heap[g]? = some (.cells (putCells id 0 d cur) e fr) := by
  have hg : g < w.heap.size := (Array.getElem?_eq_some_iff.1 hb).1
  rw [heap_grow_old _ _ (by simpa using hg)]
  simp [putRow, mapBlock, Sort.ahead, Array.getElem?_modify, hb, onCells]
theorem grownBy_put {w : World} {g n : Nat} {os : Array Obj} (d : Array Value) : w.grownBy (grow (putRow id (Sort.ahead w n) g 0 d) os) (some g) := by
  refine ⟨rfl, rfl, rfl, by simp, fun k hk hne => ?_⟩
  rw [heap_grow_old _ _ (by simpa using hk)]
  have : g ≠ k := fun e => hne (by rw [e])
  simp [putRow, mapBlock, Sort.ahead, Array.getElem?_modify, this]
theorem take_put (cur : Array Value) (ts : List Value) (h : ts.length ≤ cur.size) : (putCells id 0 ts.toArray cur).toList.take ts.length = ts := by
  apply List.ext_getElem?
  intro j
  by_cases hj : j < ts.length
  · rw [List.getElem?_take_of_lt hj, Array.getElem?_toList]
    simp [putCells, hj, show j < cur.size by omega]
  · rw [List.getElem?_take_eq_none (by omega), List.getElem?_eq_none (by omega)]

theorem cells_len (x : Ru) : x.cells.length = 4 := rfl
/-- A row of rules, cell by cell. -/
theorem flat_get (l : List Ru) (t : Nat) (h : t < l.length * 4) : (flatK Ru.cells 4 l.toArray).toList[t]? = (l[t / 4]'(by omega)).cells[t % 4]? := by
  have h2 : t % 4 < 4 := Nat.mod_lt _ (by omega)
  have h3 : t / 4 < l.length := by omega
  rw [Array.getElem?_toList]
  simp [flatK, h, h3]
  rw [List.getElem?_eq_getElem (by rw [cells_len]; exact h2)]
  rfl
theorem flat_reps (l : List Ru) (w : World) (base : Nat) (ok : Nat → Prop) : Reps (kRu.M w base ok) kRu.sz l (flatK Ru.cells 4 l.toArray).toList := by
  refine ⟨by simp [flatK]; rfl, fun j p hj => ?_⟩
  obtain ⟨hl, hp⟩ := List.getElem?_eq_some_iff.1 hj
  have : ((flatK Ru.cells 4 l.toArray).toList.drop (j * kRu.sz)).take kRu.sz = p.cells := by
    show ((flatK Ru.cells 4 l.toArray).toList.drop (j * 4)).take 4 = p.cells
    apply List.ext_getElem?
    intro i
    by_cases hi : i < 4
    · rw [List.getElem?_take_of_lt hi, List.getElem?_drop, flat_get l (j * 4 + i) (by omega)]
      have e1 : (j * 4 + i) / 4 = j := by omega
      have e2 : (j * 4 + i) % 4 = i := by omega
      simp only [e1, e2, hp]
    · rw [List.getElem?_take_eq_none (by omega), List.getElem?_eq_none (by rw [cells_len]; omega)]
  rw [this]
  exact kRu_M
theorem reps_flat {l : List Ru} {w : World} {base : Nat} {ok : Nat → Prop} {inner : List Value} (h : Reps (kRu.M w base ok) kRu.sz l inner) : inner = (flatK Ru.cells 4 l.toArray).toList := by
  have hlen : inner.length = l.length * 4 := h.1
  apply List.ext_getElem?
  intro t
  by_cases ht : t < l.length * 4
  · rw [flat_get l t ht]
    have hj : t / 4 < l.length := by omega
    have := kRu_K (kRu.K_of_M (h.2 (t / 4) _ (List.getElem?_eq_getElem hj)))
    rw [← this]
    show _ = ((inner.drop (t / 4 * 4)).take 4)[t % 4]?
    rw [List.getElem?_take_of_lt (by omega), List.getElem?_drop]
    congr 1
    omega
  · rw [List.getElem?_eq_none (by omega), List.getElem?_eq_none (by simp [flatK]; omega)]

theorem R_block {w : World} {base g cap : Nat} {ok : Nat → Prop} {l : List Ru} (h : kRu.R 37 w base ok (.slice (some ⟨g, 0, none⟩) l.length cap) l) :
    HoldsK Ru.cells 4 w g 0 l.toArray ∧ g < w.heap.size ∧ base ≤ g := by
  obtain ⟨_, inner, ho, hr⟩ := h
  have he := reps_flat hr
  rcases ho.2 with ⟨h0, _⟩ | ⟨g', cap', cur, hv, hb, hh, h1, h2, h3, h4⟩
  · cases h0
  · cases hv
    have hl : inner.length = l.length * 4 := hr.1
    refine ⟨?_, (Array.getElem?_eq_some_iff.1 hh).1, hb⟩
    have := holds_block (fs := inner) hh (by rw [hl]; exact h4)
    rw [he] at this
    simpa [HoldsK] using this

/-- Behind the sort the same slice holds the new row. -/
theorem R_sorted {w W : World} {base g cap : Nat} {l l' : List Ru} (h : kRu.R 37 w base (fun _ => True) (.slice (some ⟨g, 0, none⟩) l.length cap) l) (hl : l'.length = l.length) (S : SWK Ru.cells 4 w g 0 l'.toArray W) :
    kRu.R 37 W base (fun _ => True) (.slice (some ⟨g, 0, none⟩) l.length cap) l' ∧ w.grownBy W (some g) := by
  obtain ⟨n, os, rfl⟩ := S
  obtain ⟨_, inner, ho, hr⟩ := h
  rcases ho.2 with ⟨h0, _⟩ | ⟨g', cap', cur, hv, hb, hh, h1, h2, h3, h4⟩
  · cases h0
  · cases hv
    have hf : (flatK Ru.cells 4 l'.toArray).toList.length = l'.length * 4 := by simp [flatK]
    have hs : kRu.sz = 4 := rfl
    rw [hs] at h3
    have hh2 := heap_put (n := n) (os := os) (flatK Ru.cells 4 l'.toArray) hh
    have ht := take_put cur (flatK Ru.cells 4 l'.toArray).toList (by rw [hf]; omega)
    rw [hf] at ht
    refine ⟨⟨fun _ _ => trivial, (flatK Ru.cells 4 l'.toArray).toList, ⟨by rw [hf, hl, hs], .inr ⟨g, cap, putCells id 0 (flatK Ru.cells 4 l'.toArray) cur, by rw [hl], hb, hh2, by omega, h2, by rw [hs]; simp [putCells, h3], ?_⟩⟩, ?_⟩, grownBy_put _⟩
    · rw [hs, ← ht]
    · have := flat_reps l' (sortWorldK Ru.cells 4 w g 0 n l'.toArray os) base (fun k => True ∧ some k ≠ (Value.slice (some ⟨g, 0, none⟩) l.length cap).ownBlock)
      exact this
end Go.Proofs.YtamhpnenpoamhaaGreat

/- Whole numbers below 2^53 as doubles: sums and differences are exact. -/
namespace Go.Proofs.YtamhpnenpoamhaaGreat.Fl
open Ieee

/-- The double of a whole number. -/
def F (n : Nat) : Nat := double.nearest false n 0
/-- The word x stands for the whole number a. -/
def Rd (x a : Nat) : Prop := ∃ q : Nat, double.read x = .number false (a * 2 ^ q) (-(q : Int))

theorem log2_mul (c q : Nat) (hc : 0 < c) : (c * 2 ^ q).log2 = c.log2 + q := by
  have h1 := Nat.log2_self_le (show c ≠ 0 by omega)
  have h2 : c < 2 ^ (c.log2 + 1) := Nat.lt_log2_self
  have hp : 0 < 2 ^ q := Nat.two_pow_pos q
  rw [Nat.log2_eq_iff (by have := Nat.mul_pos hc hp; omega)]
  constructor
  · rw [Nat.pow_add]; exact Nat.mul_le_mul_right _ h1
  · rw [show c.log2 + q + 1 = (c.log2 + 1) + q by omega, Nat.pow_add]; exact Nat.mul_lt_mul_of_pos_right h2 hp

theorem cut_zero (way : Toward) (hw : way = .even ∨ way = .zero) (c d : Nat) (hc : 0 < c) : way.cut false (c * 2 ^ d) d = c := by
  have hl := log2_mul c d hc
  have hp : 0 < 2 ^ d := Nat.two_pow_pos d
  unfold Toward.cut
  rw [hl, Nat.min_eq_left (by omega), Nat.one_shiftLeft]
  dsimp only
  rw [Nat.mul_div_cancel _ hp, Nat.mul_mod_left]
  rcases hw with rfl | rfl
  · simp
  · simp

theorem leastPlace_eq : double.leastPlace = -1074 := by decide
theorem binade_eq : double.binade = 2 ^ 52 := rfl
theorem infRung_eq : double.infRung = 2047 * 2 ^ 52 := by decide
theorem signWeight_eq : double.signWeight = 2 ^ 63 := by decide

theorem nearest_shift (c q : Nat) (hc : 0 < c) (h : c < 2 ^ 53) : double.nearest false (c * 2 ^ q) (-(q : Int)) = (c.log2 + 1022) * 2 ^ 52 + c * 2 ^ (52 - c.log2) := by
  have hl := log2_mul c q hc
  have hL : c.log2 ≤ 52 := by have := (Nat.log2_lt (by omega)).2 h; omega
  have h2 : c < 2 ^ (c.log2 + 1) := Nat.lt_log2_self
  have hp : 0 < 2 ^ q := Nat.two_pow_pos q
  have hm : c * 2 ^ q ≠ 0 := by have := Nat.mul_pos hc hp; omega
  unfold Format.nearest
  rw [if_neg hm, hl, leastPlace_eq, show (double.fractionBits : Nat) = 52 from rfl]
  have hlast : max (-(q : Int) + ((c.log2 + q : Nat) : Int) - ((52 : Nat) : Int)) (-1074) = (c.log2 : Int) - 52 := by omega
  dsimp only
  rw [hlast, binade_eq, infRung_eq]
  have hk : Toward.even.cut false ((c * 2 ^ q) <<< (-(q : Int) - ((c.log2 : Int) - 52)).toNat) ((c.log2 : Int) - 52 - -(q : Int)).toNat = c * 2 ^ (52 - c.log2) := by
    rcases Nat.le_total q (52 - c.log2) with hq | hq
    · rw [show (-(q : Int) - ((c.log2 : Int) - 52)).toNat = 52 - c.log2 - q by omega, show ((c.log2 : Int) - 52 - -(q : Int)).toNat = 0 by omega, Nat.shiftLeft_eq, Nat.mul_assoc, ← Nat.pow_add,
        show q + (52 - c.log2 - q) = 52 - c.log2 by omega]
      have := cut_zero .even (.inl rfl) (c * 2 ^ (52 - c.log2)) 0 (Nat.mul_pos hc (Nat.two_pow_pos _))
      simpa using this
    · rw [show (-(q : Int) - ((c.log2 : Int) - 52)).toNat = 0 by omega, show ((c.log2 : Int) - 52 - -(q : Int)).toNat = q - (52 - c.log2) by omega, Nat.shiftLeft_zero]
      have e : c * 2 ^ q = c * 2 ^ (52 - c.log2) * 2 ^ (q - (52 - c.log2)) := by
        rw [Nat.mul_assoc, ← Nat.pow_add]; congr 2; omega
      rw [e]
      exact cut_zero .even (.inl rfl) _ _ (Nat.mul_pos hc (Nat.two_pow_pos _))
  rw [hk, show ((c.log2 : Int) - 52 - -1074).toNat = c.log2 + 1022 by omega]
  have hup : c * 2 ^ (52 - c.log2) < 2 ^ 53 := by
    calc c * 2 ^ (52 - c.log2) < 2 ^ (c.log2 + 1) * 2 ^ (52 - c.log2) := Nat.mul_lt_mul_of_pos_right h2 (Nat.two_pow_pos _)
      _ = 2 ^ 53 := by rw [← Nat.pow_add]; congr 1; omega
  rw [Nat.min_eq_left (by omega)]
  rfl

theorem F_pos (c : Nat) (hc : 0 < c) (h : c < 2 ^ 53) : F c = (c.log2 + 1022) * 2 ^ 52 + c * 2 ^ (52 - c.log2) := by
  have := nearest_shift c 0 hc h
  simpa [F] using this
theorem write_eq (c q : Nat) (h : c < 2 ^ 53) : double.write (.number false (c * 2 ^ q) (-(q : Int))) = F c := by
  show double.nearest false (c * 2 ^ q) (-(q : Int)) = F c
  by_cases hc : c = 0
  · subst hc; simp [F, Format.nearest]
  · rw [nearest_shift c q (by omega) h, F_pos c (by omega) h]

theorem read_F (c : Nat) (h : c < 2 ^ 53) : Rd (F c) c := by
  by_cases hc : c = 0
  · subst hc
    obtain ⟨Q, hQ⟩ : ∃ Q : Nat, Q = 1074 := ⟨_, rfl⟩
    refine ⟨Q, ?_⟩
    have e : F 0 = 0 := by simp [F, Format.nearest, Format.word]
    rw [e, Nat.zero_mul]
    subst hQ
    simp [Format.read, leastPlace_eq, binade_eq, signWeight_eq]
  · have hL : c.log2 ≤ 52 := by have := (Nat.log2_lt (by omega)).2 h; omega
    have h1 := Nat.log2_self_le (show c ≠ 0 by omega)
    have h2 : c < 2 ^ (c.log2 + 1) := Nat.lt_log2_self
    have hlo : 2 ^ 52 ≤ c * 2 ^ (52 - c.log2) := by
      calc 2 ^ 52 = 2 ^ c.log2 * 2 ^ (52 - c.log2) := by rw [← Nat.pow_add]; congr 1; omega
        _ ≤ c * 2 ^ (52 - c.log2) := Nat.mul_le_mul_right _ h1
    have hup : c * 2 ^ (52 - c.log2) < 2 ^ 53 := by
      calc c * 2 ^ (52 - c.log2) < 2 ^ (c.log2 + 1) * 2 ^ (52 - c.log2) := Nat.mul_lt_mul_of_pos_right h2 (Nat.two_pow_pos _)
        _ = 2 ^ 53 := by rw [← Nat.pow_add]; congr 1; omega
    refine ⟨52 - c.log2, ?_⟩
    rw [F_pos c (by omega) h]
    generalize c * 2 ^ (52 - c.log2) = m at hlo hup
    unfold Format.read
    rw [signWeight_eq, binade_eq, infRung_eq, leastPlace_eq]
    have a1 : ((c.log2 + 1022) * 2 ^ 52 + m) / 2 ^ 63 % 2 = 0 := by omega
    have a2 : ((c.log2 + 1022) * 2 ^ 52 + m) % 2 ^ 63 = (c.log2 + 1022) * 2 ^ 52 + m := by omega
    have a3 : ((c.log2 + 1022) * 2 ^ 52 + m) % 2 ^ 52 = m - 2 ^ 52 := by omega
    have a4 : ((c.log2 + 1022) * 2 ^ 52 + m) / 2 ^ 52 = c.log2 + 1023 := by omega
    dsimp only
    rw [a1, a2, a3, a4, if_neg (by omega), if_pos (by omega)]
    rw [show 2 ^ 52 + (m - 2 ^ 52) = m by omega, show (-1074 + ((c.log2 + 1023 - 1 : Nat) : Int)) = -((52 - c.log2 : Nat) : Int) by omega]
    rfl

theorem sum_eq {x y a b : Nat} (hx : Rd x a) (hy : Rd y b) (h : a + b < 2 ^ 53) : double.add x y = some (F (a + b)) := by
  obtain ⟨q1, e1⟩ := hx
  obtain ⟨q2, e2⟩ := hy
  unfold Format.add
  rw [e1, e2]
  simp only [Datum.sum, Option.map_some, Option.some.injEq]
  obtain ⟨Q, hQ, hQ1, hQ2⟩ : ∃ Q : Nat, min (-(q1 : Int)) (-(q2 : Int)) = -(Q : Int) ∧ q1 ≤ Q ∧ q2 ≤ Q := ⟨max q1 q2, by omega, by omega, by omega⟩
  rw [hQ, show (-(q1 : Int) - -(Q : Int)).toNat = Q - q1 by omega, show (-(q2 : Int) - -(Q : Int)).toNat = Q - q2 by omega]
  have s1 : signed false (a * 2 ^ q1) (Q - q1) = ((a * 2 ^ Q : Nat) : Int) := by
    simp only [signed, Nat.shiftLeft_eq, Nat.mul_assoc, ← Nat.pow_add, show q1 + (Q - q1) = Q by omega]; rfl
  have s2 : signed false (b * 2 ^ q2) (Q - q2) = ((b * 2 ^ Q : Nat) : Int) := by
    simp only [signed, Nat.shiftLeft_eq, Nat.mul_assoc, ← Nat.pow_add, show q2 + (Q - q2) = Q by omega]; rfl
  rw [s1, s2, ← Int.natCast_add, ← Nat.add_mul]
  have := write_eq (a + b) Q h
  rw [← this]
  congr 1
  have hn : ¬ (((a + b) * 2 ^ Q : Nat) : Int) < 0 := by omega
  congr 1
  split
  · rfl
  · exact decide_eq_false hn

theorem diff_eq {x y a b : Nat} (hx : Rd x a) (hy : Rd y b) (hab : b ≤ a) (h : a < 2 ^ 53) : double.sub x y = some (F (a - b)) := by
  obtain ⟨q1, e1⟩ := hx
  obtain ⟨q2, e2⟩ := hy
  unfold Format.sub
  rw [e1, e2]
  simp only [Datum.sum, Datum.opposite, Option.map_some, Option.some.injEq]
  obtain ⟨Q, hQ, hQ1, hQ2⟩ : ∃ Q : Nat, min (-(q1 : Int)) (-(q2 : Int)) = -(Q : Int) ∧ q1 ≤ Q ∧ q2 ≤ Q := ⟨max q1 q2, by omega, by omega, by omega⟩
  rw [hQ, show (-(q1 : Int) - -(Q : Int)).toNat = Q - q1 by omega, show (-(q2 : Int) - -(Q : Int)).toNat = Q - q2 by omega]
  have s1 : signed false (a * 2 ^ q1) (Q - q1) = ((a * 2 ^ Q : Nat) : Int) := by
    simp only [signed, Nat.shiftLeft_eq, Nat.mul_assoc, ← Nat.pow_add, show q1 + (Q - q1) = Q by omega]; rfl
  have s2 : signed (!false) (b * 2 ^ q2) (Q - q2) = -((b * 2 ^ Q : Nat) : Int) := by
    simp only [signed, Nat.shiftLeft_eq, Nat.mul_assoc, ← Nat.pow_add, show q2 + (Q - q2) = Q by omega]; rfl
  have hle : b * 2 ^ Q ≤ a * 2 ^ Q := Nat.mul_le_mul_right _ hab
  have e : ((a * 2 ^ Q : Nat) : Int) + -((b * 2 ^ Q : Nat) : Int) = (((a - b) * 2 ^ Q : Nat) : Int) := by
    rw [Nat.sub_mul]; omega
  rw [s1, s2, e]
  have := write_eq (a - b) Q (by omega)
  rw [← this]
  congr 1
  have hn : ¬ (((a - b) * 2 ^ Q : Nat) : Int) < 0 := by omega
  congr 1
  split
  · rfl
  · exact decide_eq_false hn

theorem toInt_eq {x a : Nat} (hx : Rd x a) : (double.read x).toInt .zero = some (a : Int) := by
  obtain ⟨q, e⟩ := hx
  rw [e]
  simp only [Datum.toInt, Datum.integral]
  rw [show (-(q : Int)).toNat = 0 by omega, show (- -(q : Int)).toNat = q by omega, Nat.shiftLeft_zero]
  by_cases ha : a = 0
  · subst ha; simp [Toward.cut, signed]
  · rw [cut_zero .zero (.inr rfl) a q (by omega)]
    simp [signed]
theorem one_eq : F 1 = 4607182418800017408 := by decide
theorem zero_eq : F 0 = 0 := by decide
end Go.Proofs.YtamhpnenpoamhaaGreat.Fl

/- words.place: a place out of a complex number whose parts are whole. -/
namespace Go.Proofs.YtamhpnenpoamhaaGreat
open Go.RowKit

theorem F_toInt (a : Nat) (h : a < 2 ^ 53) : floatToIntVal .f64 (Fl.F a) .i64 = some (a : Int) := by
  unfold floatToIntVal
  rw [show (FloatKind.f64.decode (Fl.F a)).toInt .zero = some (a : Int) from Fl.toInt_eq (Fl.read_F a h)]
  simp [IntKind.min, IntKind.max, IntKind.bits, IntKind.signed]
  omega

set_option maxHeartbeats 400000 in
theorem words_place (a b : Nat) (w : World) (ha : a < 2 ^ 53) (hb : b < 2 ^ 53) :
    Calls Tryz.prog 51 #[.complex .f64 (Fl.F a) (Fl.F b)] w fun x w' => x = .returned (.agg #[.int .i64 a, .int .i64 b]) ∧ Below w.heap.size w w' := by
  have c1 := fun w => run_convert_float_int (P := Tryz.prog) w 105 3 .f64 .i64 (Fl.F a) a (by kernel_rfl) Tryz.underlying3 (F_toInt a ha)
  have c2 := fun w => run_convert_float_int (P := Tryz.prog) w 105 3 .f64 .i64 (Fl.F b) b (by kernel_rfl) Tryz.underlying3 (F_toInt b hb)
  go_enter Tryz.func51, Tryz.ntmps51
  go_wp2
  exact bodyPost_ret (v := .agg #[.int .i64 a, .int .i64 b]) (by simp [results, Tryz.results51, go_sem]) rfl ⟨rfl, (Below.refl _ _).alloc (Nat.le_refl _) _⟩
end Go.Proofs.YtamhpnenpoamhaaGreat

/- What words.Split answers of any bytes, as a plain function. -/
namespace Go.Proofs.YtamhpnenpoamhaaGreat
open Go.RowKit Go.Proofs.YtamhpnenpoamhaaGreatW.PrintWords

/-- A word and its place. -/
structure Wd where
  t : ByteArray
  l : Nat
  c : Nat
def kWd : Kd Wd := Kd.iso (Kd.pair Kd.string (Kd.pair (Kd.int .i64) (Kd.int .i64))) fun x => (x.t, ((x.l : Int), (x.c : Int)))
def Wd.cells (x : Wd) : List Value := [.string x.t, .int .i64 x.l, .int .i64 x.c]
theorem kWd_M {w : World} {base : Nat} {ok : Nat → Prop} {x : Wd} : kWd.M w base ok x x.cells := ⟨[.string x.t], [.int .i64 x.l, .int .i64 x.c], rfl, rfl, [.int .i64 x.l], [.int .i64 x.c], rfl, rfl, rfl⟩
theorem kWd_K {w : World} {x : Wd} {cs : List Value} (h : kWd.K w x cs) : cs = x.cells := by
  obtain ⟨c0, c1, rfl, h0, c2, c3, rfl, h2, h3⟩ := h
  have e0 : c0 = [.string x.t] := h0
  have e2 : c2 = [.int .i64 x.l] := h2
  have e3 : c3 = [.int .i64 x.c] := h3
  subst e0 e2 e3
  rfl
theorem kWd_sz : kWd.sz = 3 := rfl
theorem kWd_E : kWd.E = [] := rfl

/-- Where Split stands. -/
structure Sp where
  out : List (List Wd)
  row : List Wd
  fr : Nat
  k : Nat
  l : Nat
  c : Nat
  was : Nat

namespace Sp
def kind (b : Int) : Nat := if b = 10 then 2 else if b = 32 ∨ b = 9 then 1 else if 32 < b ∧ b ≤ 126 then 0 else 3
def cut (xs : List Int) (i j : Nat) : ByteArray := strOfNums ((xs.take j).drop i)
def word (xs : List Int) (s : Sp) : Wd := ⟨cut xs s.fr s.k, s.l, s.c - (s.k - s.fr)⟩
def keep (xs : List Int) (s : Sp) : Sp := if s.was = 0 then { s with row := s.row ++ [s.word xs] } else s
/-- Is there something to lay? -/
def some? : List Wd → Bool
  | [] => false
  | x :: _ => !((bt x.t 0) == 35)
def lay (s : Sp) : Sp := { s with row := [], out := if some? s.row then s.out ++ [s.row] else s.out }
def begin (s : Sp) (q : Nat) : Sp := if s.was = 0 then s else { s with fr := q }
def line (s : Sp) : Sp := { s.lay with l := s.l + 1, c := 1 }
def col (s : Sp) : Sp := { s with c := s.c + 1 }
def ends (q : Nat) (s : Sp) : Sp := { s with was := q, k := s.k + 1 }
def put (xs : List Int) (q : Nat) (s : Sp) : Sp :=
  if q = 0 then (s.begin s.k).col.ends 0 else if q = 2 then (s.keep xs).col.line.ends 2 else (s.keep xs).col.ends q
/-- Its answer: the lines, or where a byte stands that may not be. -/
def run (xs : List Int) : List Int → Sp → List (List Wd) ⊕ (Nat × Nat)
  | [], s => .inl (s.keep xs).lay.out
  | b :: r, s => if kind b = 3 then .inr (s.l, s.c) else run xs r (s.put xs (kind b))
def first : Sp := ⟨[], [], 0, 0, 1, 1, 1⟩
def split (xs : List Int) : List (List Wd) ⊕ (Nat × Nat) := run xs xs first
/-- What holds all along. -/
structure Good (xs : List Int) (s : Sp) : Prop where
  k : s.k ≤ xs.length
  was : s.was ≤ 2
  fr : s.was = 0 → s.fr < s.k ∧ s.k - s.fr < s.c
  l : s.l ≤ s.k + 1
  c : s.c ≤ s.k + 1
  c1 : 1 ≤ s.c
  rows : ∀ x, x ∈ s.row → 0 < x.t.size
  row : s.row.length ≤ s.k
  out : s.out.length ≤ s.k
theorem cut_size (xs : List Int) (i j : Nat) (hj : j ≤ xs.length) : (cut xs i j).size = j - i := by
  rw [cut, strOfNums_size, List.length_drop, List.length_take]; omega
theorem kind_le (b : Int) : kind b ≤ 3 := by
  unfold kind; split; omega; split; omega; split <;> omega
theorem good_first (xs : List Int) : Good xs first := by
  refine ⟨Nat.zero_le _, by decide, fun h => by simp [first] at h, by simp [first], by simp [first], by simp [first], fun x hx => by simp [first] at hx, by simp [first], by simp [first]⟩
theorem good_keep {xs : List Int} {s : Sp} (h : Good xs s) : (∀ x, x ∈ (s.keep xs).row → 0 < x.t.size) ∧ (s.keep xs).row.length ≤ s.k + 1 := by
  obtain ⟨h1, h2, h3, h4, h5, h6, h7, h8, h9⟩ := h
  unfold keep
  split
  · rename_i h0
    refine ⟨fun x hx => ?_, by simp; omega⟩
    rcases List.mem_append.1 hx with hx | hx
    · exact h7 x hx
    · rw [List.mem_singleton.1 hx]
      show 0 < (cut xs s.fr s.k).size
      rw [cut_size xs _ _ h1]; have := h3 h0; omega
  · exact ⟨h7, by omega⟩
theorem keep_fields (xs : List Int) (s : Sp) : (s.keep xs).out = s.out ∧ (s.keep xs).fr = s.fr ∧ (s.keep xs).k = s.k ∧ (s.keep xs).l = s.l ∧ (s.keep xs).c = s.c ∧ (s.keep xs).was = s.was := by
  unfold keep; split <;> exact ⟨rfl, rfl, rfl, rfl, rfl, rfl⟩
theorem good_put {xs : List Int} {s : Sp} (h : Good xs s) (hk : s.k < xs.length) (q : Nat) (hq : q ≤ 2) : Good xs (s.put xs q) := by
  have hr := good_keep h
  obtain ⟨e1, e2, e3, e4, e5, e6⟩ := keep_fields xs s
  obtain ⟨h1, h2, h3, h4, h5, h6, h7, h8, h9⟩ := h
  unfold put
  split
  · unfold begin
    split
    · rename_i hw
      have := h3 hw
      exact ⟨hk, by simp [ends], fun _ => by simp [ends, col]; omega, by simp [ends, col]; omega, by simp [ends, col]; omega, by simp [ends, col], h7, by simp [ends, col]; omega, by simp [ends, col]; omega⟩
    · exact ⟨hk, by simp [ends], fun _ => by simp [ends, col]; omega, by simp [ends, col]; omega, by simp [ends, col]; omega, by simp [ends, col], h7, by simp [ends, col]; omega, by simp [ends, col]; omega⟩
  · split
    · refine ⟨by simp [ends, col, line, lay, e3]; omega, by simp [ends], fun h => by simp [ends] at h, by simp [ends, col, line, lay, e3, e4]; omega, by simp [ends, col, line], by simp [ends, col, line], fun x hx => by simp [ends, col, line, lay] at hx, by simp [ends, col, line, lay], ?_⟩
      simp only [ends, col, line, lay, e1, e3]
      split
      · simp; omega
      · omega
    · exact ⟨by simp [ends, col, e3]; omega, by simp [ends]; omega, fun h => absurd h (by simp [ends]; omega), by simp [ends, col, e3, e4]; omega, by simp [ends, col, e3, e5]; omega, by simp [ends, col], fun x hx => hr.1 x hx, by simp only [ends, col, e3]; omega, by simp only [ends, col, e1, e3]; omega⟩
end Sp
end Go.Proofs.YtamhpnenpoamhaaGreat

/- A region that draws its order, whose operations are taken in the order of the text as long as they read. -/
namespace Go.Proofs.YtamhpnenpoamhaaGreat
open Go.RowKit Go.Proofs.YtamhpnenpoamhaaGreatW.PrintLast

/-- The first k of n have come up. -/
def lst (n k : Nat) : Array Bool := ((List.range n).map fun j => decide (j < k)).toArray
theorem at_drop {α : Type} {ops : Array α} {k : Nat} {oi : α} {os : List α} (h : ops.toList.drop k = oi :: os) : ops[k]? = some oi := by
  have : (ops.toList.drop k)[0]? = some oi := by rw [h]; rfl
  rwa [List.getElem?_drop, Nat.add_zero, Array.getElem?_toList] at this
section
variable {P : Program} {ops : Array Oper} {Q : Exit → Act → World → Prop} {md : Region.Mode} {S : World → Prop} {ds : List Nat}
theorem startK {id : Nat} {a : Act} {w : World} (n : Nat) (S : World → Prop) (ds : List Nat) (hm : P.follows .mixedOrders = true) (hn : ops.size = n) (hl : Array.replicate n false = lst n 0) (hS : S w.drew)
    (h : S w.drew → wpAnyLast P .any ops Q S ds n (lst n 0) a w.drew) : (Code.region id ops true).wp P Q a w := start_ (lst n 0) hm hn hl hS h
theorem takeK {n k k' : Nat} {N : Option Tmp} {oi : Oper} {os : List Oper} {v : Value} {fuel : Nat} {a : Act} {w : World} (hk : k' = k + 1) (hi : ops.toList.drop k = oi :: os) (hN : oi.dst = N) (hc : takeB md ops ds (lst n k) (lst n k') k = true)
    (hQ : ∀ c a w, Q (.panic c) (a.put oi.dst v) w → Q (.panic c) a w) (hy : YieldsIf P ops S oi v a) (hS : S w) {a' : Act} (ha : a.put N v = a')
    (h : wpAnyLast P md ops Q S ds fuel (lst n k') a' w) : wpAnyLast P md ops Q S ds (fuel + 1) (lst n k) a w := take_ (lst n k') (at_drop hi) hN hc hQ hy hS ha h
/-- One alone may come up now; behind it S is shown anew. -/
theorem oneK {n k k' : Nat} {N : Option Tmp} {oi : Oper} {os : List Oper} {fuel : Nat} {a : Act} {w : World} (hk : k' = k + 1) (hi : ops.toList.drop k = oi :: os) (hN : oi.dst = N) (hc : readyB md ops (lst n k) (lst n k') k = true) (hd : (ds.contains k) = false)
    (h : ∀ K : Act → World → Prop, Shut (∀ a' w', S w' → (S w' → wpAnyLast P md ops Q S ds fuel (lst n k') a' w') → K a' w') → if Region.wanted oi (yielded ops a.tmps) = true then Oper.wp P oi a w K Q else K (a.put N undef) w) :
    wpAnyLast P md ops Q S ds (fuel + 1) (lst n k) a w := one_ (lst n k') (at_drop hi) hN hc (by simpa using hd) h
/-- The same for one of ds: nothing is shown behind it. -/
theorem lastK {n k k' : Nat} {N : Option Tmp} {oi : Oper} {os : List Oper} {fuel : Nat} {a : Act} {w : World} (hk : k' = k + 1) (hi : ops.toList.drop k = oi :: os) (hN : oi.dst = N) (hc : readyB md ops (lst n k) (lst n k') k = true) (hd : ds.contains k = true)
    (h : ∀ K : Act → World → Prop, Shut (∀ a' w', wpAnyLast P md ops Q S ds fuel (lst n k') a' w' → K a' w') → if Region.wanted oi (yielded ops a.tmps) = true then Oper.wp P oi a w K Q else K (a.put N undef) w) :
    wpAnyLast P md ops Q S ds (fuel + 1) (lst n k) a w := last_ (lst n k') (at_drop hi) hN hc (by simpa using hd) h
end
end Go.Proofs.YtamhpnenpoamhaaGreat

/- words.Split's closures: the end of a word. -/
namespace Go.Proofs.YtamhpnenpoamhaaGreat
open Go.RowKit Go.Proofs.YtamhpnenpoamhaaGreatW.PrintWords Go.Proofs.YtamhpnenpoamhaaGreatW.PrintLast

/-- Split's variables, in the blocks from the end of w0 on. -/
structure SpAt (w0 : World) (T : Value) (s : Sp) (vo vr : Value) (w : World) : Prop where
  bel : Below w0.heap.size w0 w
  size : w0.heap.size + 8 ≤ w.heap.size
  b0 : Blk w w0.heap.size #[T] 22
  b1 : Blk w (w0.heap.size + 1) #[.int .i64 0, .int .i64 0] 44
  b2 : Blk w (w0.heap.size + 2) #[vo] 64
  b3 : Blk w (w0.heap.size + 3) #[vr] 74
  b4 : Blk w (w0.heap.size + 4) #[.int .i64 s.fr] 3
  b5 : Blk w (w0.heap.size + 5) #[.int .i64 s.k] 3
  b6 : Blk w (w0.heap.size + 6) #[.complex .f64 (Fl.F s.l) (Fl.F s.c)] 103
  b7 : Blk w (w0.heap.size + 7) #[.int .i64 s.was] 3
  out : (Kd.slice 76 kWd).R 74 w (w0.heap.size + 8) (fun k => some k ≠ vr.ownBlock) vo s.out
  row : kWd.R 76 w (w0.heap.size + 8) (fun _ => True) vr s.row

theorem SpAt.step {w0 : World} {T : Value} {s : Sp} {vo vr : Value} {w w' : World} (h : SpAt w0 T s vo vr w) (hb : Below w.heap.size w w') : SpAt w0 T s vo vr w' := by
  have hs := h.size
  have k : ∀ {b : Nat} {cs : Array Value} {t : TypeId}, Blk w b cs t → Blk w' b cs t := fun hk => hk.below hb hk.lt
  exact ⟨below_then h.bel (by omega) hb, Nat.le_trans hs hb.size, k h.b0, k h.b1, k h.b2, k h.b3, k h.b4, k h.b5, k h.b6, k h.b7, Kd.R_below h.out hb, Kd.R_below h.row hb⟩

theorem R_low {α : Type} {d : Kd α} {e : Nat} {w : World} {base : Nat} {ok : Nat → Prop} {v : Value} {xs : List α} (h : d.R e w base ok v xs) {b : Nat} (hb : b < base) (i : Nat) (u : Value) : d.R e (w.setCell ⟨b, i, none⟩ u) base ok v xs :=
  Kd.R_mono (Kd.R_far (p := ⟨b, i, none⟩) (Kd.R_mono (ok' := fun k => ok k ∧ k ≠ b) (Kd.R_bound h) (fun k hk => ⟨hk.1, by have := hk.2.1; omega⟩)) (fun _ hk => hk.2) u) (fun _ hk => hk.1)

/-- Behind another row, stored. -/
theorem SpAt.newRow {w0 : World} {T : Value} {s : Sp} {vo vr v1 : Value} {w w' : World} (h : SpAt w0 T s vo vr w) (row : List Wd) (hb : Below (w0.heap.size + 8) w w') (hg : w.grownBy w' vr.ownBlock)
    (hR : kWd.R 76 w' (w0.heap.size + 8) (fun _ => True) v1 row) (hat : v1.ownBlock = vr.ownBlock ∨ ∃ b, v1.ownBlock = some b ∧ w.heap.size ≤ b) :
    SpAt w0 T { s with row := row } vo v1 (w'.setCell ⟨w0.heap.size + 3, 0, none⟩ v1) := by
  have hs := h.size
  have hs' := hb.size
  have k : ∀ {b : Nat} {cs : Array Value} {t : TypeId}, b < w0.heap.size + 8 → b ≠ w0.heap.size + 3 → Blk w b cs t → Blk (w'.setCell ⟨w0.heap.size + 3, 0, none⟩ v1) b cs t := fun hlt hne hk => (hk.below hb hlt).far (Ne.symm hne) 0 v1
  refine ⟨?_, ?_, k (by omega) (by omega) h.b0, k (by omega) (by omega) h.b1, k (by omega) (by omega) h.b2, ?_, k (by omega) (by omega) h.b4, k (by omega) (by omega) h.b5, k (by omega) (by omega) h.b6, k (by omega) (by omega) h.b7, ?_, R_low hR (by omega) 0 v1⟩
  · exact below_grown (h.bel.trans (hb.mono (by omega))) (by omega) (grown_set w' (w0.heap.size + 3) 0 v1) (by omega)
  · show _ ≤ (w'.setCell _ _).heap.size
    have : (w'.setCell ⟨w0.heap.size + 3, 0, none⟩ v1).heap.size = w'.heap.size := by simp [World.setCell]
    omega
  · have := (h.b3.below hb (by omega)).set 0 v1
    simpa using this
  · exact R_low (Kd.R_mono (Kd.R_after (ok := fun _ => True) (Kd.R_mono h.out (fun k hk => ⟨trivial, hk⟩)) hg hat) (fun k hk => hk.2)) (by omega) 0 v1

theorem F_diff (a b : Nat) (hb : b ≤ a) (ha : a < 2 ^ 53) : floatBits .sub .f64 (Fl.F a) (Fl.F b) = some (Fl.F (a - b)) :=
  Fl.diff_eq (Fl.read_F a ha) (Fl.read_F b (by omega)) hb ha
theorem F_sum (a b : Nat) (h : a + b < 2 ^ 53) : floatBits .add .f64 (Fl.F a) (Fl.F b) = some (Fl.F (a + b)) :=
  Fl.sum_eq (Fl.read_F a (by omega)) (Fl.read_F b (by omega)) h
theorem F_cdiff (a b d : Nat) (hb : d ≤ b) (ha : a < 2 ^ 53) (hc : b < 2 ^ 53) : cSumBits .sub .f64 (Fl.F a) (Fl.F b) (Fl.F 0) (Fl.F d) = some (Fl.F a, Fl.F (b - d)) := by
  simp [cSumBits, F_diff a 0 (by omega) ha, F_diff b d hb hc]

theorem F_ofInt (n : Nat) : floatOfInt .f64 (n : Int) = Fl.F n := by
  unfold floatOfInt
  simp only [FloatKind.nearest, FloatKind.encode]
  rw [show decide ((n : Int) < 0) = false from decide_eq_false (by omega)]
  rfl

theorem words_info : (Tryz.prog.info? 76).map (fun i => (i.zero, i.size, i.bytes)) = some (some (.agg #[.string ByteArray.empty, .int .i64 0, .int .i64 0]), 3, 32) := by kernel_rfl

set_option maxRecDepth 100000 in
theorem split_keep (w0 : World) (A : Option Addr) (c : Nat) (xs : List Int) (s : Sp) (vo vr : Value) (w : World) (hc : (Kd.int .u8).C w0 A xs.length xs) (hle : xs.length ≤ c) (hx : xs.length ≤ 1048576) (g : s.Good xs) (h : SpAt w0 (.slice A xs.length c) s vo vr w) :
    Calls Tryz.prog 50 #[.pointer (some ⟨w0.heap.size + 7, 0, none⟩), .pointer (some ⟨w0.heap.size + 6, 0, none⟩), .pointer (some ⟨w0.heap.size + 5, 0, none⟩), .pointer (some ⟨w0.heap.size + 4, 0, none⟩), .pointer (some ⟨w0.heap.size + 3, 0, none⟩), .pointer (some ⟨w0.heap.size, 0, none⟩)] w
      fun x w' => x = .returned (.tuple #[]) ∧ ∃ vr', SpAt w0 (.slice A xs.length c) (s.keep xs) vo vr' w' := by
  have hk := g.k
  have hw := g.was
  have hl := g.l
  have hcc := g.c
  have r7 := h.b7.cell_at 0 (.int .i64 s.was) rfl
  by_cases h0 : s.was = 0
  · have hf := g.fr h0
    have H0 := Lib.hid h0; clear h0
    have r6 := h.b6.cell_at 0 _ rfl
    have r5 := h.b5.cell_at 0 _ rfl
    have r4 := h.b4.cell_at 0 _ rfl
    have r3 := h.b3.cell_at 0 _ rfl
    have r0 := h.b0.cell_at 0 _ rfl
    have f3 := h.b3.free 0
    have r7' : w.cell? ⟨w0.heap.size + 7, 0, none⟩ = some (.int .i64 0) := by rw [r7, H0.out]; rfl
    clear r7
    have H := Lib.hid h; clear h
    have HP := Lib.hid (fun w => words_place s.l (s.c - (s.k - s.fr)) w (by omega) (by omega))
    have cd := fun w => run_complex_sum (P := Tryz.prog) w .sub (.inr rfl) 103 .f64 _ _ _ _ _ _ (F_cdiff s.l s.c (s.k - s.fr) (by omega) (by omega) (by omega))
    rw [Fl.zero_eq, ← F_ofInt (s.k - s.fr), show ((s.k - s.fr : Nat) : Int) = (s.k : Int) - s.fr by omega] at cd
    go_enter Tryz.func50, Tryz.ntmps50
    go_wp2_with fail
    refine (HP.out _).mono ?_
    rintro x w1 ⟨rfl, hb⟩
    have H1 := Lib.hid (H.out.step hb); clear H
    obtain ⟨W, hW⟩ : ∃ W, W = w1.alloc (.cells #[.int .i64 s.l, .int .i64 ((s.c - (s.k - s.fr) : Nat) : Int)] 44) := ⟨_, rfl⟩
    have q0 := Blk.new w1 #[.int .i64 s.l, .int .i64 ((s.c - (s.k - s.fr) : Nat) : Int)] 44
    have H2 := H1.out.step ((Below.refl _ w1).alloc (Nat.le_refl _) (.cells #[.int .i64 s.l, .int .i64 ((s.c - (s.k - s.fr) : Nat) : Int)] 44)); clear H1
    rw [← hW] at q0 H2
    have p0 := q0.cell_at 0 _ rfl
    have p1 := q0.cell_at 1 _ rfl
    have r6 := H2.b6.cell_at 0 _ rfl
    have r5 := H2.b5.cell_at 0 _ rfl
    have r4 := H2.b4.cell_at 0 _ rfl
    have r3 := H2.b3.cell_at 0 _ rfl
    have r0 := H2.b0.cell_at 0 _ rfl
    have f3 := H2.b3.free 0
    obtain ⟨iu, hiu, hsu⟩ := Option.map_eq_some_iff.1 (show (Tryz.prog.info? 5).map (fun i => i.size) = some 1 by kernel_rfl)
    obtain ⟨A', hcut, hread, hlen⟩ := print_mid_int (P := Tryz.prog) (k := .u8) 22 5 (by kernel_rfl) hiu hsu A c xs s.fr s.k (by omega) (by omega) (by omega) hle
    have hcs := fun w' (hw : Below W.heap.size W w') => string_of_reads (P := Tryz.prog) (c := c - s.fr) (src := 22) (dst := 9) (e := 5) (by kernel_rfl) (by kernel_rfl) (by kernel_rfl) (hread w' (readsInt_of.2 (Kd.reads_of_C (d := (0 : Int)) (Kd.C_below hc (below_then H2.bel (by have := H2.size; omega) hw)))))
    have hll : ((xs.take s.k).drop s.fr).length = s.k - s.fr := by rw [List.length_drop, List.length_take]; omega
    simp only [Int.toNat_natCast, hll] at hcut hcs
    clear hll
    have HO := Lib.hid H2; have HCS := Lib.hid hcs; clear hcs; have HW := Lib.hid hW; clear H2 hW
    go_wp2_with fail
    rw [← HW.out]
    refine startK 14 (fun w' => w'.cell? ⟨w0.heap.size + 3, 0, none⟩ = some vr ∧ w'.cell? ⟨w0.heap.size, 0, none⟩ = some (.slice A xs.length c) ∧ w'.cell? ⟨w0.heap.size + 4, 0, none⟩ = some (.int .i64 s.fr) ∧ w'.cell? ⟨w0.heap.size + 5, 0, none⟩ = some (.int .i64 s.k) ∧
      w'.cell? ⟨w1.heap.size, 0, none⟩ = some (.int .i64 s.l) ∧ w'.cell? ⟨w1.heap.size, 1, none⟩ = some (.int .i64 ((s.c - (s.k - s.fr) : Nat) : Int)) ∧ (convert 22 9 (.slice A' (s.k - s.fr) (c - s.fr))).run Tryz.prog w' = .ok (.string (strOfNums ((xs.take s.k).drop s.fr))) w') [12, 13] (by kernel_rfl) rfl (by kernel_rfl) ⟨r3, r0, r4, r5, p0, p1, HCS.out _ (Below.refl _ _).drew⟩ (fun hHeld => ?_)
    repeat (refine takeK (v := ?_) (a' := ?_) rfl rfl rfl (by kernel_rfl) (fun _ _ _ h => h) (Or.inl ⟨by rfl, ?_⟩) hHeld ?_ ?_; rotate_left; (rintro w' ⟨s0, s1, s2, s3, s4, s5, s6⟩; go_simp; with_reducible rfl); rotate_left; (simp only [Act.put, List.setIfInBounds_toArray, List.set_cons_zero, List.set_cons_succ]; rfl))
    refine oneK rfl rfl rfl (by kernel_rfl) rfl (fun K hK => ?_)
    go_simp
    have hsz := HO.out.size
    refine hK.out _ _ ⟨cell_alloc (w := W.drew) r3 _, cell_alloc (w := W.drew) r0 _, cell_alloc (w := W.drew) r4 _, cell_alloc (w := W.drew) r5 _, cell_alloc (w := W.drew) p0 _, cell_alloc (w := W.drew) p1 _, HCS.out _ ((Below.refl _ _).drew.alloc (Nat.le_refl _) _)⟩ (fun hHeld2 => ?_)
    refine lastK rfl rfl rfl (by kernel_rfl) rfl (fun K2 hK2 => ?_)
    refine Kd.R_append_step kWd (w0 := W.drew) (W := W.drew) (w0.heap.size + 8) (by rfl) (.tmp 17) (.tmp 28) 74 76 _ 32 rfl (by kernel_rfl) words_info rfl (by decide) (by decide) vr s.row (s.word xs) (s.word xs).cells (fun _ => True) (fun _ => False) rfl rfl kWd_M (fun _ h => h.elim) (fun _ _ => trivial) (Kd.R_drew HO.out.row) (Below.refl _ _) hsz (by have := g.row; omega) ?_
    intro v1 w2 hR hB2 hg2 hat
    obtain ⟨A1, c1, hv1⟩ := Kd.R_slice hR
    subst hv1
    have hfin := HO.out.step (Below.refl _ _).drew
    have SN := Lib.hid (hfin.newRow _ hB2 hg2 hR hat)
    have c3 : w2.cell? ⟨w0.heap.size + 3, 0, none⟩ = some vr := (hfin.b3.below hB2 (by omega)).cell_at 0 _ rfl
    have f3 := (hfin.b3.below hB2 (by omega)).free 0
    refine hK2.out _ _ ?_
    refine lastK rfl rfl rfl (by kernel_rfl) rfl (fun K3 hK3 => ?_)
    go_simp
    refine hK3.out _ _ ?_
    refine done_ (by kernel_rfl) ?_
    go_wp2
    go_end0
    refine ⟨rfl, .slice A1 (s.row ++ [s.word xs]).length c1, ?_⟩
    rw [show s.keep xs = { s with row := s.row ++ [s.word xs] } from if_pos H0.out]
    have := SN.out
    rw [List.length_append] at this ⊢
    exact this
  · have hf : ((s.was : Int) == 0) = false := beq_eq_false_iff_ne.2 (by omega)
    have hk : s.keep xs = s := if_neg h0
    have HK := Lib.hid hk; have H := Lib.hid h; clear hk h h0
    go_enter Tryz.func50, Tryz.ntmps50
    go_wp2
    go_end0
    refine ⟨rfl, vr, ?_⟩
    rw [HK.out]
    exact H.out
end Go.Proofs.YtamhpnenpoamhaaGreat

/- config.Order of rules: sorted by their prefixes, stably. -/
namespace Go.Proofs.YtamhpnenpoamhaaGreat
open Go.RowKit Go.Proofs.YtamhpnenpoamhaaGreatW.PrintWords Go.Sort Go.Shelf

def cmpR (x y : Ru) : Int := cmpS x.p y.p
def ltR (x y : Ru) : Bool := ltS x.p y.p
theorem cmpS_lt (a b : ByteArray) : decide (cmpS a b < 0) = ltS a b := by
  unfold cmpS
  cases h : ltS a b with
  | true => simp
  | false =>
    simp only [Bool.false_eq_true, if_false]
    split <;> simp
theorem ltOf_cmpR : ltOf cmpR = ltR := by
  funext x y
  exact cmpS_lt x.p y.p
theorem swo_ltS : SWO ltS where
  irrefl x := by
    have := swo_ltStr.irrefl x.toList
    rwa [show ltStr x.toList x.toList = ltS x x from (bytesLess_eq _ _).symm] at this
  trans x y z h1 h2 := by
    have e : ∀ a b : ByteArray, ltS a b = ltStr a.toList b.toList := fun a b => bytesLess_eq _ _
    rw [e] at h1 h2 ⊢
    exact swo_ltStr.trans _ _ _ h1 h2
  ntrans x y z h1 h2 := by
    have e : ∀ a b : ByteArray, ltS a b = ltStr a.toList b.toList := fun a b => bytesLess_eq _ _
    rw [e] at h1 h2 ⊢
    exact swo_ltStr.ntrans _ _ _ h1 h2
theorem swo_ltR : SWO ltR := ⟨fun x => swo_ltS.irrefl x.p, fun x y z => swo_ltS.trans x.p y.p z.p, fun x y z => swo_ltS.ntrans x.p y.p z.p⟩

/-- Order's comparison. -/
theorem order_cmp (x y : Ru) (W : World) : Calls Tryz.prog 33 #[.agg x.cells.toArray, .agg y.cells.toArray] W fun e w' => e = .returned (.int .i64 (cmpR x y)) ∧ ∃ q os', w' = grow (W.drewN q) os' := by
  obtain ⟨xp, xe, xu, xk⟩ := x
  obtain ⟨yp, ye, yu, yk⟩ := y
  have hcon := Lib.hid (fun W' => cmp_compare xp yp W')
  show Calls Tryz.prog 33 #[.agg #[.string xp, .int .u64 xe, .int .u64 xu, .int .u8 xk], .agg #[.string yp, .int .u64 ye, .int .u64 yu, .int .u8 yk]] W fun e w' => e = .returned (.int .i64 (cmpS xp yp)) ∧ ∃ q os', w' = grow (W.drewN q) os'
  generalize cmpS xp yp = r at hcon ⊢
  go_enter Tryz.func33, Tryz.ntmps33
  go_wp2_with (go_at_call 34; refine (hcon.out _).mono ?_; rintro e w' ⟨rfl, rfl⟩)
  go_ret
  exact ⟨rfl, 0, _, by rw [alloc_eq_grow, alloc_eq_grow, grow_grow]; rfl⟩

theorem sst_here : Sst Tryz.prog 4 where
  mixed := by kernel_rfl
  fS := Tryz.func115
  fR := Tryz.func99
  fM := Tryz.func80
  t0 := by kernel_rfl
  a0 := Tryz.isAgg0
  z0 := Tryz.sizeOf0
  v0 := Tryz.zeroValue0
  t3 := by kernel_rfl
  a3 := Tryz.isAgg3
  z3 := Tryz.sizeOf3
  v3 := Tryz.zeroValue3
  t4 := by kernel_rfl
  a4 := Tryz.isAgg4
  z4 := Tryz.sizeOf4
  v4 := Tryz.zeroValue4
  tl := by kernel_rfl
  al := Tryz.isAgg26
  zl := Tryz.sizeOf26
  vl := Tryz.zeroValue26
  aE := Tryz.isAgg37
  zE := Tryz.sizeOf37
  tu := by kernel_rfl
  au := Tryz.isAgg160
  zu := Tryz.sizeOf160
  vu := Tryz.zeroValue160

theorem sort_empty (A : Option Addr) (cap : Nat) (w : World) : Calls Tryz.prog 79 #[.slice A 0 cap, .int .i64 0, .int .i64 0, .func (.func 33) #[] #[]] w fun e w' => e = .returned (.tuple #[]) ∧ w' = w := by
  go_enter Tryz.func79, Tryz.ntmps79
  go_wp2
  go_loopw [8] (fun vi wr => vi = .int .i64 1 ∧ wr = w) (fun _ _ => 0)
  case atStart => exact ⟨rfl, rfl⟩
  case round =>
    obtain ⟨rfl, rfl⟩ := hrel
    go_wp2
    go_end0
    exact ⟨rfl, rfl⟩
theorem stable_empty (A : Option Addr) (cap : Nat) (w : World) : Calls Tryz.prog 57 #[.slice A 0 cap, .int .i64 0, .func (.func 33) #[] #[]] w fun e w' => e = .returned (.tuple #[]) ∧ w' = w := by
  have K := Lib.hid (fun w => sort_empty A cap w)
  go_enter Tryz.func57, Tryz.ntmps57
  go_wp2
  go_loopw [7, 8] (fun s1 s2 wr => s1 = .int .i64 0 ∧ s2 = .int .i64 20 ∧ wr = w) (fun _ _ _ => 0)
  case atStart => exact ⟨rfl, rfl, rfl⟩
  case round =>
    obtain ⟨rfl, rfl, hw⟩ := hrel
    have HW := Lib.hid hw; clear hw
    go_wp2_with (go_at_call 79; refine (K.out _).mono ?_; rintro e w2 ⟨rfl, hw2⟩; have HW2 := Lib.hid (hw2.trans HW.out); clear hw2)
    go_loopw [6] (fun s1 wr2 => s1 = .int .i64 20 ∧ wr2 = w) (fun _ _ => 0)
    case atStart => exact ⟨rfl, HW2.out⟩
    case round =>
      obtain ⟨rfl, hw3⟩ := hrel
      have HW3 := Lib.hid hw3; clear hw3
      go_wp2
      go_end0
      exact ⟨rfl, HW3.out⟩

/-- Sorted by the prefixes; equals as they stood. -/
def SortedR (l' l : List Ru) : Prop := St.Srt ltR l' ∧ St.SP ltR l' l

theorem rules_sort (base : Nat) (v : Value) (l : List Ru) (w : World) (h : kRu.R 37 w base (fun _ => True) v l) (hl : l.length ≤ 1000000000) :
    Calls Tryz.prog 32 #[v, .func (.func 33) #[] #[]] w fun x w' => x = .returned (.tuple #[]) ∧ ∃ l', SortedR l' l ∧ kRu.R 37 w' base (fun _ => True) v l' ∧ w.grownBy w' v.ownBlock := by
  rcases Nat.eq_zero_or_pos l.length with h0 | h0
  · have hl0 := List.eq_nil_of_length_eq_zero h0
    subst hl0
    obtain ⟨A, c, rfl⟩ := Kd.R_slice h
    have HR := Lib.hid h; clear h
    have K := Lib.hid (fun w => stable_empty A c w)
    go_enter Tryz.func32, Tryz.ntmps32
    go_wp2_with (go_at_call 57; refine (K.out _).mono ?_; rintro e w2 ⟨rfl, rfl⟩)
    go_end0
    exact ⟨rfl, [], ⟨List.Pairwise.nil, St.SP.refl _⟩, HR.out, grown_refl _ _⟩
  · obtain ⟨g, cap, rfl, hb, hlt, _⟩ := Kd.R_form h h0
    obtain ⟨hH, hg, _⟩ := R_block h
    have HS : SortAt Tryz.prog 4 Ru.cells cmpR 33 #[] g 0 l.length l.toArray w :=
      { L := sst_here
        R := ⟨cells_len, fun x v hv => by simp [Ru.cells] at hv; rcases hv with rfl | rfl | rfl | rfl <;> rfl, hH, hg⟩
        hN := by simp
        hsz := by omega
        eg := enters_of Tryz.func33 (by kernel_rfl) rfl
        hcmp := fun m os dk _ x y => order_cmp x y _
        O := by rw [ltOf_cmpR]; exact swo_ltR }
    have K := Lib.hid (sort_stable HS cap w l ⟨rfl, SWK.start hH⟩)
    have HR := Lib.hid h; clear h hH HS
    go_enter Tryz.func32, Tryz.ntmps32
    go_wp2_with (go_at_call 57; refine K.out.mono ?_; rintro e w2 ⟨rfl, l', g1, g2, g3⟩; have G := Lib.hid (And.intro g1 (And.intro g2 g3)); clear g1 g2 g3)
    go_end0
    obtain ⟨g1, g2, g3⟩ := G.out
    rw [ltOf_cmpR] at g1 g2
    obtain ⟨k1, k2⟩ := R_sorted HR.out g3.1 g3.2
    exact ⟨rfl, l', ⟨g1, g2⟩, k1, k2⟩

/-- config.Order. -/
theorem config_order (m : Int) (A : Option Addr) (c : Nat) (l : List Ru) (w : World) (hc : kRu.C w A l.length l) (hl : l.length ≤ 1000000000) :
    Calls Tryz.prog 15 #[.agg #[.int .i64 m, .slice A l.length c]] w fun x w' => ∃ v l', x = .returned (.agg #[.int .i64 m, v]) ∧ SortedR l' l ∧ kRu.R 37 w' w.heap.size (fun _ => True) v l' ∧ Below w.heap.size w w' := by
  have HC := Lib.hid (fun o1 o2 => rules_clone A c l ((w.alloc o1).alloc o2) (Kd.C_alloc (Kd.C_alloc hc o1) o2) hl)
  clear hc
  go_enter Tryz.func15, Tryz.ntmps15
  have z1 := Blk.new w #[.int .i64 m, .slice A l.length c] 28
  have z2 := z1.alloc (.cells #[.int .i64 0, .slice none 0 0] 28)
  have z3 := Blk.new (w.alloc (.cells #[.int .i64 m, .slice A l.length c] 28)) #[.int .i64 0, .slice none 0 0] 28
  rw [World.size_alloc] at z3
  have Z2 := Lib.hid z2; have Z3 := Lib.hid z3; clear z1 z2 z3
  go_wp2_with fail
  refine (HC.out _ _).mono ?_
  rintro x w1 ⟨v, rfl, hR, hb⟩
  have hsz : w.heap.size + 1 + 1 ≤ w1.heap.size := by have := hb.size; simpa using this
  have y2 := Z2.out.below hb (by simp; omega)
  have y3 := Z3.out.below hb (by simp; try omega)
  have r0 := y2.cell_at 0 _ rfl
  have r1 := y2.cell_at 1 _ rfl
  have f1 := y2.free 1
  obtain ⟨A1, c1, hv⟩ := Kd.R_slice hR
  subst hv
  have HR := Lib.hid hR; have Y2 := Lib.hid y2; have Y3 := Lib.hid y3; have HB := Lib.hid hb
  clear hR y2 y3 hb
  go_wp2_with fail
  have hR2 := R_low HR.out (b := w.heap.size) (by simp; omega) 1 (.slice A1 l.length c1)
  have u2 := Y2.out.set 1 (.slice A1 l.length c1)
  have u3 := Y3.out.far (b' := w.heap.size) (by omega) 1 (.slice A1 l.length c1)
  have hbs : Below w.heap.size w (w1.setCell ⟨w.heap.size, 1, none⟩ (.slice A1 l.length c1)) := below_grown ((((Below.refl _ _).alloc (Nat.le_refl _) _).alloc (by simp) _).trans (HB.out.mono (by simp; omega))) (by omega) (grown_set w1 w.heap.size 1 _) (Nat.le_refl _)
  have hss : (w1.setCell ⟨w.heap.size, 1, none⟩ (.slice A1 l.length c1)).heap.size = w1.heap.size := by simp [World.setCell]
  generalize w1.setCell ⟨w.heap.size, 1, none⟩ (.slice A1 l.length c1) = w2 at hR2 u2 u3 hbs hss ⊢
  have hnb : ∀ b, b < w.heap.size + 2 → some b ≠ (Value.slice A1 l.length c1).ownBlock := fun b hlt e => by
    have := Kd.R_base hR2 b e.symm
    simp at this
    omega
  refine (rules_sort _ _ l w2 hR2 hl).mono ?_
  rintro x w3 ⟨rfl, l', hs, hR3, hg⟩
  have v2 := u2.grown hg (hnb _ (by omega))
  have v3 := u3.grown hg (hnb _ (by omega))
  have hsz3 := hg.size
  have hB3 : Below w.heap.size w w3 := hbs.grown hg (by omega) (fun j e => by have := Kd.R_base hR2 j e; simp at this; omega)
  have r0 : w3.cell? ⟨w.heap.size, 0, none⟩ = some (.int .i64 m) := v2.cell_at 0 _ (by simp)
  have r1 : w3.cell? ⟨w.heap.size, 1, none⟩ = some (.slice A1 l.length c1) := v2.cell_at 1 _ (by simp)
  have s0 := v3.cell_at 0 _ rfl
  have s1 := v3.cell_at 1 _ rfl
  have g0 := v3.free 0
  have g1 := v3.free 1
  have HR3 := Lib.hid hR3; have HS := Lib.hid hs; have HB3 := Lib.hid hB3
  clear hR2 hR3 hs u2 u3 v2 v3 hg hbs hB3 hnb
  go_wp2
  refine bodyPost_ret (v := .agg #[.int .i64 m, .slice A1 l.length c1]) (by simp [results, Tryz.results15, go_sem, s0, s1]) rfl ⟨.slice A1 l.length c1, l', rfl, HS.out, ?_, ?_⟩
  · exact Kd.R_lower (R_low (R_low HR3.out (by simp) 0 _) (by simp) 1 _) (by simp; omega)
  · have hq : ∀ (w : World) (a : Addr) (v : Value), (w.setCell a v).heap.size = w.heap.size := fun w a v => by simp [World.setCell]
    exact below_grown (below_grown HB3.out (by omega) (grown_set _ (w.heap.size + 1) 0 _) (by omega)) (by rw [hq]; omega) (grown_set _ (w.heap.size + 1) 1 _) (by omega)
end Go.Proofs.YtamhpnenpoamhaaGreat

/- config.must gives up by a panic. -/
namespace Go.Proofs.YtamhpnenpoamhaaGreat
open Go.RowKit

/-- What must throws: the error and where. -/
def faultV (e l c : Int) : Value := .iface 68 (.agg #[.int .u16 e, .int .i64 l, .int .i64 c])
theorem must_ok (e : Int) (t : ByteArray) (l c : Int) (w : World) : Calls Tryz.prog 54 #[.bool true, .int .u16 e, .agg #[.string t, .int .i64 l, .int .i64 c]] w fun x w' => x = .returned (.tuple #[]) ∧ Below w.heap.size w w' := by
  go_enter Tryz.func54, Tryz.ntmps54
  go_wp2
  go_end0
  exact ⟨rfl, (Below.refl _ _).alloc (Nat.le_refl _) _⟩
theorem must_bad (e : Int) (t : ByteArray) (l c : Int) (w : World) : Calls Tryz.prog 54 #[.bool false, .int .u16 e, .agg #[.string t, .int .i64 l, .int .i64 c]] w fun x w' => x = .panicked [{ v := faultV e l c, recovered := false }] ∧ Below w.heap.size w w' := by
  go_enter Tryz.func54, Tryz.ntmps54
  go_wp2
  exact ⟨rfl, rfl, (Below.refl _ _).alloc (Nat.le_refl _) _⟩
end Go.Proofs.YtamhpnenpoamhaaGreat

/- What config.Parse does to a line, as a plain function. -/
namespace Go.Proofs.YtamhpnenpoamhaaGreat
open Go.RowKit

def sSize : ByteArray := ⟨#[115, 105, 122, 101]⟩
def Wd.zero : Wd := ⟨⟨#[]⟩, 0, 0⟩
namespace Cf
/-- A line's word. -/
def at_ (row : List Wd) (i : Nat) : Wd := row.getD i Wd.zero
def texts (row : List Wd) : List ByteArray := row.map (·.t)
/-- What is wrong: the error and the word; or what stands then. -/
def size (m : Int) (row : List Wd) : Int ⊕ (Int × Wd) :=
  if row.length ≠ 2 then .inr (22, at_ row 0) else if m ≠ 0 then .inr (28, at_ row 0) else
  if (Dg.parse (at_ row 1).t.data.toList).2 ≠ 0 then .inr ((Dg.parse (at_ row 1).t.data.toList).2, at_ row 1) else
  if ¬ (1 ≤ (Dg.parse (at_ row 1).t.data.toList).1 ∧ (Dg.parse (at_ row 1).t.data.toList).1 ≤ 1000000) then .inr (29, at_ row 1) else .inl (Dg.parse (at_ row 1).t.data.toList).1
def has (l : List Ru) (p : ByteArray) : Bool := l.any fun r => decide (r.p = p)
def rule (l : List Ru) (row : List Wd) : List Ru ⊕ (Int × Wd) :=
  if (Rl.parse (texts row)).2.1 ≠ 0 then .inr ((Rl.parse (texts row)).2.1, at_ row (Rl.parse (texts row)).2.2.toNat) else
  if has l (Rl.parse (texts row)).1.p = true then .inr (28, at_ row (if (Rl.parse (texts row)).1.p = ⟨#[]⟩ then 0 else 1)) else
  if ¬ l.length < 1000 then .inr (32, at_ row 0) else .inl (l ++ [(Rl.parse (texts row)).1])
def sizeL (m : Int) (l : List Ru) (row : List Wd) : (Int × List Ru) ⊕ (Int × Wd) := match size m row with | .inl n => .inl (n, l) | .inr e => .inr e
def ruleL (m : Int) (l : List Ru) (row : List Wd) : (Int × List Ru) ⊕ (Int × Wd) := match rule l row with | .inl k => .inl (m, k) | .inr e => .inr e
theorem sizeL_bad {m : Int} {l : List Ru} {row : List Wd} {e : Int × Wd} (h : size m row = .inr e) : sizeL m l row = .inr e := by unfold sizeL; rw [h]
theorem sizeL_ok {m q : Int} {l : List Ru} {row : List Wd} (h : size m row = .inl q) : sizeL m l row = .inl (q, l) := by unfold sizeL; rw [h]
theorem ruleL_bad {m : Int} {l : List Ru} {row : List Wd} {e : Int × Wd} (h : rule l row = .inr e) : ruleL m l row = .inr e := by unfold ruleL; rw [h]
theorem ruleL_ok {m : Int} {l k : List Ru} {row : List Wd} (h : rule l row = .inl k) : ruleL m l row = .inl (m, k) := by unfold ruleL; rw [h]
def line (m : Int) (l : List Ru) (row : List Wd) : (Int × List Ru) ⊕ (Int × Wd) := if (at_ row 0).t = sSize then sizeL m l row else ruleL m l row
def lines : Int → List Ru → List (List Wd) → (Int × List Ru) ⊕ (Int × Wd)
  | m, l, [] => .inl (m, l)
  | m, l, row :: rows => match line m l row with | .inl s => lines s.1 s.2 rows | .inr e => .inr e
def ends (m : Int) (l : List Ru) : Option Int := if ¬ 0 < m then some 30 else if has l ⟨#[]⟩ = false then some 31 else none

/-- A bad word's number is within the line; a rule with a prefix has a second word. -/
theorem run_at : ∀ (ks : List Nat) (ss : List ByteArray) (r : Ru) (n : Int), (Rl.run ks ss r n).2.1 ≠ 0 → n ≤ (Rl.run ks ss r n).2.2 ∧ (Rl.run ks ss r n).2.2 < n + ss.length
  | [], _, _, _, h => by simp [Rl.run] at h
  | _ :: _, [], _, _, h => by simp [Rl.run] at h
  | kd :: ks, s :: ss, r, n, h => by
    rw [Rl.run] at h ⊢
    by_cases h0 : (Rl.step kd r s).1 = 0
    · rw [if_pos h0] at h ⊢
      have := run_at ks ss _ _ h
      simp only [List.length_cons]
      omega
    · rw [if_neg h0]
      simp only [List.length_cons]
      omega
theorem parse_at (l : List ByteArray) (hl : 0 < l.length) (h : (Rl.parse l).2.1 ≠ 0) : 0 ≤ (Rl.parse l).2.2 ∧ (Rl.parse l).2.2 < l.length := by
  unfold Rl.parse at h ⊢
  split
  · rename_i h1
    rw [if_pos h1] at h
    have := run_at _ _ _ _ h
    rw [List.length_tail] at this
    omega
  · rename_i h1
    rw [if_neg h1] at h
    split
    · rename_i h2
      rw [if_pos h2] at h
      have := run_at _ _ _ _ h
      rw [List.length_tail] at this
      omega
    · simp; omega
theorem run_ok : ∀ (ks : List Nat) (ss : List ByteArray) (r : Ru) (n : Int), (Rl.run ks ss r n).2.1 = 0 → (Rl.run ks ss r n).2.2 = 0
  | [], _, _, _, _ => by simp [Rl.run]
  | _ :: _, [], _, _, _ => by simp [Rl.run]
  | kd :: ks, s :: ss, r, n, h => by
    rw [Rl.run] at h ⊢
    by_cases h0 : (Rl.step kd r s).1 = 0
    · rw [if_pos h0] at h ⊢
      exact run_ok ks ss _ _ h
    · rw [if_neg h0] at h
      exact absurd h h0
theorem parse_ok (l : List ByteArray) (h : (Rl.parse l).2.1 = 0) : (Rl.parse l).2.2 = 0 := by
  unfold Rl.parse at h ⊢
  split
  · rename_i h1
    rw [if_pos h1] at h
    exact run_ok _ _ _ _ h
  · rename_i h1
    rw [if_neg h1] at h
    split
    · rename_i h2
      rw [if_pos h2] at h
      exact run_ok _ _ _ _ h
    · rfl
theorem parse_two (l : List ByteArray) (h : (Rl.parse l).2.1 = 0) : 2 ≤ l.length := by
  unfold Rl.parse at h
  split at h
  · rename_i h1; omega
  · split at h
    · rename_i h1; omega
    · simp at h

/-- The map's keys are the rules' prefixes. -/
def Keys (es : Array MapEntry) (l : List Ru) : Prop := es.toList.map (·.key) = l.map (fun r => Value.string r.p) ∧ ∀ e ∈ es.toList, e.val = .agg #[]
theorem keys_push {es : Array MapEntry} {l : List Ru} (h : Keys es l) (r : Ru) (b : Nat) : Keys (es.push { key := .string r.p, val := .agg #[], born := b }) (l ++ [r]) := by
  refine ⟨by simp [h.1], fun e he => ?_⟩
  rw [Array.toList_push] at he
  rcases List.mem_append.1 he with he | he
  · exact h.2 e he
  · rw [List.mem_singleton.1 he]
theorem keys_key {es : Array MapEntry} {l : List Ru} (h : Keys es l) : ∀ e ∈ es.toList, ∃ r ∈ l, e.key = .string r.p := by
  intro e he
  have : e.key ∈ es.toList.map (·.key) := List.mem_map_of_mem he
  rw [h.1] at this
  obtain ⟨r, hr, e'⟩ := List.mem_map.1 this
  exact ⟨r, hr, e'.symm⟩
theorem keys_find {es : Array MapEntry} {l : List Ru} (h : Keys es l) (s : ByteArray) :
    (has l s = true ∧ ∃ j, Instr.findNow .string (.string s) es.toList 0 = some (some (j, .agg #[]))) ∨ (has l s = false ∧ Instr.findNow .string (.string s) es.toList 0 = some none) := by
  have hk : ∀ x ∈ es.toList, MapKept.IsKey .string x.key := fun x hx => by
    obtain ⟨r, _, e⟩ := keys_key h x hx
    rw [e]; trivial
  rcases MapKept.findNow_spec (d := .string) (k := .string s) trivial es.toList 0 hk with ⟨h1, h2⟩ | ⟨j, e, h1, h2, h3⟩
  · right
    refine ⟨?_, h1⟩
    rw [has, List.any_eq_false]
    intro r hr hp
    have hp : r.p = s := by simpa using hp
    have : Value.string r.p ∈ es.toList.map (·.key) := by rw [h.1]; exact List.mem_map_of_mem (f := fun r : Ru => Value.string r.p) hr
    obtain ⟨e, he, e'⟩ := List.mem_map.1 this
    exact h2 e he (by rw [e', hp])
  · left
    have hm : e ∈ es.toList := List.mem_of_getElem? h2
    obtain ⟨r, hr, e'⟩ := keys_key h e hm
    refine ⟨?_, 0 + j, by rw [h1, h.2 e hm]⟩
    rw [has, List.any_eq_true]
    refine ⟨r, hr, ?_⟩
    rw [h3] at e'
    injection e' with e'
    simpa using e'.symm
end Cf
end Go.Proofs.YtamhpnenpoamhaaGreat

/- digit.Parse of any string answers as Dg.parse says; no memory is touched. -/
namespace Go.Proofs.YtamhpnenpoamhaaGreat
open Go.RowKit
attribute [local go_sem] jumps_normal jumps_exit jumps_ret jumps_panic

/-- At the label: the digits before place k are read. -/
def Dg.At (s : ByteArray) (w : World) (l : Nat) (a : Act) (w' : World) : Prop := l = 0 ∧ w = w' ∧ ∃ (k : Nat) (u2 u3 u7 u8 u9 u10 u11 u12 u13 u14 u15 u16 u17 u18 u19 u20 u21 u22 u23 u24 u25 u26 u27 u28 u29 u30 u31 u32 u33 u34 u35 u36 u37 u38 u39 u40 u41 u42 u43 u44 u45 u46 : Value), a = { tmps := #[.string s, undef, u2, u3, .int .u64 (Dg.num (s.data.toList.take k)), .bool (Dg.big (s.data.toList.take k)), .int .i64 k, u7, u8, u9, u10, u11, u12, u13, u14, u15, u16, u17, u18, u19, u20, u21, u22, u23, u24, u25, u26, u27, u28, u29, u30, u31, u32, u33, u34, u35, u36, u37, u38, u39, u40, u41, u42, u43, u44, u45, u46], defers := [] } ∧ k < s.size ∧ (s.data.toList.take k).all Dg.isD = true ∧ (s.data.toList.head? = some 48 → s.size ≤ 1)
theorem Dg.at_mk {s : ByteArray} {w : World} (k : Nat) {u2 u3 u7 u8 u9 u10 u11 u12 u13 u14 u15 u16 u17 u18 u19 u20 u21 u22 u23 u24 u25 u26 u27 u28 u29 u30 u31 u32 u33 u34 u35 u36 u37 u38 u39 u40 u41 u42 u43 u44 u45 u46 : Value} {n i : Int} {b : Bool} (hn : n = Dg.num (s.data.toList.take k)) (hb : b = Dg.big (s.data.toList.take k)) (hi : i = k)
    (hk : k < s.size) (hd : (s.data.toList.take k).all Dg.isD = true) (hz : s.data.toList.head? = some 48 → s.size ≤ 1) :
    Dg.At s w 0 { tmps := #[.string s, undef, u2, u3, .int .u64 n, .bool b, .int .i64 i, u7, u8, u9, u10, u11, u12, u13, u14, u15, u16, u17, u18, u19, u20, u21, u22, u23, u24, u25, u26, u27, u28, u29, u30, u31, u32, u33, u34, u35, u36, u37, u38, u39, u40, u41, u42, u43, u44, u45, u46], defers := [] } w := by
  subst hn hb hi
  exact ⟨rfl, rfl, k, _, _, _, _, _, _, _, _, _, _, _, _, _, _, _, _, _, _, _, _, _, _, _, _, _, _, _, _, _, _, _, _, _, _, _, _, _, _, _, _, _, _, rfl, hk, hd, hz⟩
def Dg.left (s : ByteArray) (a : Act) : Nat := match a.tmps.getD 6 undef with | .int _ k => s.size - k.toNat | _ => 0
theorem Dg.ret2 {a b c d : Int} (h : (a, b) = (c, d)) : Ending.returned (.tuple #[.int .u64 c, .int .u16 d]) = .returned (.tuple #[.int .u64 a, .int .u16 b]) := by injection h with h1 h2; rw [h1, h2]

set_option maxHeartbeats 1000000 in
theorem digit_parse (s : ByteArray) (w : World) (hs : s.size ≤ 9223372036854775807) :
    Calls Tryz.prog 55 #[.string s] w fun e w' => e = .returned (.tuple #[.int .u64 (Dg.parse s.data.toList).1, .int .u16 (Dg.parse s.data.toList).2]) ∧ w = w' := by
  have hl : s.data.toList.length = s.size := by simp
  go_enter Tryz.func55, Tryz.ntmps55
  go_wp2
  refine wp_scope_labels' (Dg.At s w) (fun _ a _ => Dg.left s a) ?_ ?_
  · rintro l a w' ⟨rfl, rfl, k, u2, u3, u7, u8, u9, u10, u11, u12, u13, u14, u15, u16, u17, u18, u19, u20, u21, u22, u23, u24, u25, u26, u27, u28, u29, u30, u31, u32, u33, u34, u35, u36, u37, u38, u39, u40, u41, u42, u43, u44, u45, u46, rfl, hk, hd, hz⟩
    refine ⟨_, rfl, ?_⟩
    have hw : IntKind.u64.wrap (s[k].toNat : Int) = (s[k].toNat : Int) := by have := s[k].toNat_lt; rw [IntKind.wrap_u64]; omega
    have hc := s[k].toNat_lt
    have HT := Lib.hid (Dg.take_snoc s k hk)
    have hk' : k < s.data.toList.length := by rw [hl]; exact hk
    have HL := Lib.hid hl; clear hl
    by_cases hdg : 48 ≤ s[k].toNat ∧ s[k].toNat ≤ 57
    · have hw2 : IntKind.u64.wrap ((s[k].toNat : Int) - 48) = (s[k].toNat : Int) - 48 := by rw [IntKind.wrap_u64]; omega
      have hw3 : IntKind.u64.wrap (18446744073709551615 - ((s[k].toNat : Int) - 48)) = 18446744073709551615 - ((s[k].toNat : Int) - 48) := by rw [IntKind.wrap_u64]; omega
      have hi : Dg.isD s[k] = true := by rw [Dg.isD_nat]; exact decide_eq_true hdg
      have HN := Lib.hid (Dg.num_snoc (s.data.toList.take k) _ hi)
      have HB := Lib.hid (Dg.big_snoc (s.data.toList.take k) _ hi)
      have HA := Lib.hid (show (s.data.toList.take (k + 1)).all Dg.isD = true by rw [HT.out]; simp [hd, hi])
      have hnr := Dg.num_range (s.data.toList.take k)
      have HW := Lib.hid (show Dg.num (s.data.toList.take (k + 1)) = IntKind.u64.wrap (IntKind.u64.wrap (Dg.num (List.take k s.data.toList) * 10) + ((s[k].toNat : Int) - 48)) by
        rw [HT.out, HN.out, IntKind.wrap_u64, IntKind.wrap_u64]; omega)
      have HG := Lib.hid (show k + 1 = s.size → Dg.bad s.data.toList = false from fun e => by
        refine Dg.good (by omega) ?_ (by have := HA.out; rwa [List.take_of_length_le (by rw [HL.out]; omega)] at this)
        by_cases h : s.data.toList.head? = some 48
        · exact .inr (by rw [HL.out]; exact hz h)
        · exact .inl h)
      have HE := Lib.hid (show k + 1 = s.size → s.data.toList.take (k + 1) = s.data.toList from fun e => List.take_of_length_le (by rw [HL.out]; omega))
      have HZ := Lib.hid hz
      clear hi hd hz HN
      by_cases hb : Dg.big (s.data.toList.take k) = true
      · have HB1 := Lib.hid (show Dg.big (s.data.toList.take (k + 1)) = true by rw [HT.out, HB.out, hb]; rfl)
        clear HB
        go_wp2
        · go_step3
          rw [then_goto]
          refine goto_in ?_
          have : (k : Int) + 1 < s.size := by assumption
          exact ⟨Dg.at_mk (k + 1) HW.out.symm HB1.out.symm rfl (by omega) HA.out HZ.out, by simp [Dg.left]; omega⟩
        · have : (s.size : Int) ≤ (k : Int) + 1 := by assumption
          go_ret2
          refine ⟨Dg.ret2 (Dg.parse_big (HG.out (by omega)) ?_), rfl⟩
          rw [← HE.out (by omega)]; exact HB1.out
      · have hb : Dg.big (s.data.toList.take k) = false := by simpa using hb

        go_wp2
        · go_step3
          rw [then_goto]
          refine goto_in ?_
          have : (k : Int) + 1 < s.size := by assumption
          exact ⟨Dg.at_mk (k + 1) HW.out.symm (by rw [HT.out, HB.out, hb]; rfl) rfl (by omega) HA.out HZ.out, by simp [Dg.left]; omega⟩
        · have h1 : (s.size : Int) ≤ (k : Int) + 1 := by assumption
          have h2 : (18446744073709551615 - ((s[k].toNat : Int) - 48)) / 10 < Dg.num (List.take k s.data.toList) := by assumption
          go_ret2
          refine ⟨Dg.ret2 (Dg.parse_big (HG.out (by omega)) ?_), rfl⟩
          rw [← HE.out (by omega), HT.out, HB.out, hb, Bool.false_or]; exact decide_eq_true h2
        · have h1 : (s.size : Int) ≤ (k : Int) + 1 := by assumption
          have h2 : Dg.num (List.take k s.data.toList) ≤ (18446744073709551615 - ((s[k].toNat : Int) - 48)) / 10 := by assumption
          go_ret2
          refine ⟨Dg.ret2 ((Dg.parse_ok (HG.out (by omega)) ?_).trans ?_), rfl⟩
          · rw [← HE.out (by omega), HT.out, HB.out, hb, Bool.false_or]; exact decide_eq_false (by omega)
          · rw [← HW.out, HE.out (by omega)]
    · have hw4 : 10 ≤ IntKind.u64.wrap ((s[k].toNat : Int) - 48) := by rw [IntKind.wrap_u64]; omega
      have HP := Lib.hid (Dg.parse_bad s.data.toList (Dg.bad_of_digit k hk' (by rw [Dg.get_eq s k hk hk', Dg.isD_nat]; exact decide_eq_false hdg)))
      clear hd hz
      go_wp2
      go_ret2
      exact ⟨Dg.ret2 HP.out, rfl⟩
  · intro land
    have Land := Lib.hid land; clear land
    by_cases h0 : s.size = 0
    · have hn : s.toList = [] := by rw [Lib.toList_data, ← List.length_eq_zero_iff, hl]; exact h0
      have hp := Lib.hid (Dg.parse_bad s.data.toList (Dg.bad_of_nil (by rw [← Lib.toList_data]; exact hn))); clear h0 hl
      go_wp2
      rw [jumps_ret]
      go_ret2
      exact ⟨Dg.ret2 hp.out, rfl⟩
    · have h1 : 0 < s.size := by omega
      have hn : s.toList.isEmpty = false := by rw [Bool.eq_false_iff]; intro h; rw [List.isEmpty_iff, Lib.toList_data] at h; rw [h] at hl; exact h0 hl.symm
      clear h0 
      have hh := Lib.hid (Dg.head_eq s h1); have HL := Lib.hid hl; clear hl
      go_wp2
      · have h48 : (s[0].toNat : Int) = 48 := by assumption
        have hlt : 1 < (s.size : Int) := by assumption
        have hp := Dg.parse_bad s.data.toList (Dg.bad_of_zero (by rw [hh.out]; congr 1; rw [← UInt8.toNat_inj]; exact Int.ofNat.inj h48) (by rw [HL.out]; omega))
        rw [jumps_ret]
        go_ret2
        exact ⟨Dg.ret2 hp, rfl⟩
      · have hlt : (s.size : Int) ≤ 1 := by assumption
        go_step3
        refine jump_in ?_
        apply_assumption
        exact Land.out 0 _ _ _ (by rfl) (Dg.at_mk 0 rfl rfl rfl h1 rfl fun _ => by omega)
      · have h48 : ¬ (s[0].toNat : Int) = 48 := by assumption
        go_step3
        refine jump_in ?_
        apply_assumption
        exact Land.out 0 _ _ _ (by rfl) (Dg.at_mk 0 rfl rfl rfl h1 rfl fun h => by rw [hh.out] at h; exact absurd (by rw [Option.some.inj h]; rfl) h48)
end Go.Proofs.YtamhpnenpoamhaaGreat

/- Maps by their entries: what a store, a look-up and a delete come to, in any program. -/
namespace Go.Proofs.YtamhpnenpoamhaaGreat
open Go.RowKit

def World.setObj' (w : World) (r : Nat) (o : Obj) : World := { w with heap := w.heap.setIfInBounds r o }
theorem push_set {α : Type} (a : Array α) (x y : α) : (a.push x).setIfInBounds a.size y = a.push y := by
  apply Array.ext_getElem?
  intro i
  by_cases h3 : a.size = i
  · subst h3; simp
  · rw [Array.getElem?_setIfInBounds_ne h3, Array.getElem?_push, Array.getElem?_push, if_neg (Ne.symm h3), if_neg (Ne.symm h3)]
theorem setObj'_new (w : World) (o o' : Obj) : World.setObj' (w.alloc o) w.heap.size o' = w.alloc o' := by
  have := push_set w.heap o o'
  unfold World.setObj'
  simp [World.alloc, -World.alloc_eq, this]
theorem alloc_at_new (w : World) (o : Obj) : (w.alloc o).heap[w.heap.size]? = some o := by simp [World.alloc, -World.alloc_eq]
section
variable {P : Program} {w : World} {mty kt et : TypeId} {d : TypeDesc} {r : Nat} {es : Array MapEntry} {clock : Nat}
theorem run_mapUpdate_new {key value : Value} (hm : P.underlying mty = some (.map kt et)) (hd : P.underlying kt = some d) (hb : w.heap[r]? = some (.map es clock))
    (hk : MapKept.IsKey d key) (h1 : Instr.findNow d key es.toList 0 = some none) :
    (Instr.mapUpdate mty (.map (some r)) key value).run P w = .ok () (World.setObj' w r (.map (es.push { key, val := value, born := clock }) (clock + 1))) := by
  simp [Instr.mapUpdate, run_underlying hm, MapKept.run_getObj_map hb, MapKept.run_checkKey hd hk, MapKept.run_findKey hd h1, MapKept.run_setObj_map _ hb, Result.andThen, World.setObj']
theorem run_mapUpdate_old {key value : Value} {j : Nat} {e : MapEntry} (hm : P.underlying mty = some (.map kt et)) (hd : P.underlying kt = some d) (hb : w.heap[r]? = some (.map es clock))
    (hk : MapKept.IsKey d key) (h1 : Instr.findNow d key es.toList 0 = some (some (j, e.val))) (hj : es[j]? = some e) (h3 : e.key = key) :
    (Instr.mapUpdate mty (.map (some r)) key value).run P w = .ok () (World.setObj' w r (.map (es.modify j fun e => { e with key, val := value }) clock)) := by
  simp [Instr.mapUpdate, run_underlying hm, MapKept.run_getObj_map hb, MapKept.run_checkKey hd hk, MapKept.run_findKey hd h1, hj, h3, MapKept.run_keyThatStays hk, MapKept.run_setObj_map _ hb, Result.andThen, World.setObj']
theorem run_lookup_has {key : Value} {v : Value} {j : Nat} (hm : P.underlying mty = some (.map kt et)) (hd : P.underlying kt = some d) (hb : w.heap[r]? = some (.map es clock))
    (hk : MapKept.IsKey d key) (h1 : Instr.findNow d key es.toList 0 = some (some (j, v))) (ok : Bool) :
    (Instr.lookup mty (.map (some r)) key ok).run P w = .ok (if ok then .tuple #[v, .bool true] else v) w := by
  cases ok <;> simp [Instr.lookup, run_underlying hm, MapKept.run_getObj_map hb, MapKept.run_checkKey hd hk, MapKept.run_findKey hd h1, Result.andThen]
theorem run_lookup_not {key z : Value} (hm : P.underlying mty = some (.map kt et)) (hd : P.underlying kt = some d) (hb : w.heap[r]? = some (.map es clock))
    (hk : MapKept.IsKey d key) (h1 : Instr.findNow d key es.toList 0 = some none) (hz : (zeroValue et).run P w = .ok z w) (ok : Bool) :
    (Instr.lookup mty (.map (some r)) key ok).run P w = .ok (if ok then .tuple #[z, .bool false] else z) w := by
  cases ok <;> simp [Instr.lookup, run_underlying hm, MapKept.run_getObj_map hb, MapKept.run_checkKey hd hk, MapKept.run_findKey hd h1, Result.andThen, hz]
end
end Go.Proofs.YtamhpnenpoamhaaGreat

/- config.Parse's reader: its state; the line of the size; the end. -/
namespace Go.Proofs.YtamhpnenpoamhaaGreat
open Go.RowKit Go.Proofs.YtamhpnenpoamhaaGreatW.PrintWords

/-- The reader, in the blocks n (its map) and n + 1. -/
structure RdO (ok : Nat → Prop) (Wl : World) (n : Nat) (m : Int) (l : List Ru) (w : World) : Prop where
  bel : Below Wl.heap.size Wl w
  hn : Wl.heap.size ≤ n
  size : n + 2 ≤ w.heap.size
  map : ∃ es clock, w.heap[n]? = some (.map es clock) ∧ Cf.Keys es l
  rows : ∃ v, Blk w (n + 1) #[.int .i64 m, v, .map (some n)] 73 ∧ kRu.R 37 w (n + 2) ok v l
abbrev RdAt := RdO (fun _ => True)
theorem RdO.far {Wl : World} {n : Nat} {m : Int} {l : List Ru} {w : World} (h : RdAt Wl n m l w) (a : Nat) (ha : w.heap.size ≤ a) : RdO (fun k => k ≠ a) Wl n m l w := by
  obtain ⟨h1, h2, h3, h4, v, h5, h6⟩ := h
  exact ⟨h1, h2, h3, h4, v, h5, Kd.R_mono (Kd.R_bound h6) (fun k hk => by have := hk.2.2.1; omega)⟩
theorem RdO.step {ok : Nat → Prop} {Wl : World} {n : Nat} {m : Int} {l : List Ru} {w w' : World} (h : RdO ok Wl n m l w) (hb : Below w.heap.size w w') : RdO ok Wl n m l w' := by
  have hs := h.size
  have hn := h.hn
  obtain ⟨es, ck, h1, h2⟩ := h.map
  obtain ⟨v, h3, h4⟩ := h.rows
  exact ⟨below_then h.bel (by omega) hb, hn, Nat.le_trans hs hb.size, ⟨es, ck, (hb.block n (by omega)).trans h1, h2⟩, v, h3.below hb h3.lt, Kd.R_below h4 hb⟩
theorem RdO.most {ok : Nat → Prop} {Wl : World} {n : Nat} {m : Int} {l : List Ru} {w : World} (h : RdO ok Wl n m l w) (q : Int) : RdO ok Wl n q l (w.setCell ⟨n + 1, 0, none⟩ (.int .i64 q)) := by
  have hs := h.size
  have hn := h.hn
  obtain ⟨es, ck, h1, h2⟩ := h.map
  obtain ⟨v, h3, h4⟩ := h.rows
  have hss : (w.setCell ⟨n + 1, 0, none⟩ (.int .i64 q)).heap.size = w.heap.size := by simp [World.setCell]
  exact ⟨below_grown h.bel (by omega) (grown_set w (n + 1) 0 _) (by omega), hn, by omega, ⟨es, ck, (Below.heap_setCell w ⟨n + 1, 0, none⟩ _ n (show n ≠ n + 1 by omega)).trans h1, h2⟩, v, by simpa using h3.set 0 (.int .i64 q), R_low h4 (by omega) 0 _⟩

/-- The cells of a word of a line that is read. -/
theorem word_cells {w : World} {A : Option Addr} {row : List Wd} (h : kWd.C w A row.length row) (i : Nat) (hi : i < row.length) : ∃ ad, A = some ad ∧ w.cell? (ad.add (i * 3)) = some (.string (Cf.at_ row i).t) ∧ w.cell? (ad.add (i * 3 + 1)) = some (.int .i64 (Cf.at_ row i).l) ∧ w.cell? (ad.add (i * 3 + 2)) = some (.int .i64 (Cf.at_ row i).c) := by
  obtain ⟨ad, cs, hA, _, hK, hc⟩ := Kd.C_get h Wd.zero i (by omega) (by omega)
  obtain rfl := kWd_K hK
  rw [Int.toNat_natCast] at hc
  exact ⟨ad, hA, hc 0 _ rfl, hc 1 _ rfl, hc 2 _ rfl⟩

/-- The reader's look-up of a prefix. -/
theorem RdO.look {ok : Nat → Prop} {Wl : World} {n : Nat} {m : Int} {l : List Ru} {w : World} (h : RdO ok Wl n m l w) (s : ByteArray) :
    (Instr.lookup 71 (.map (some n)) (.string s) true).run Tryz.prog w = .ok (.tuple #[.agg #[], .bool (Cf.has l s)]) w := by
  obtain ⟨es, ck, h1, h2⟩ := h.map
  rcases Cf.keys_find h2 s with ⟨e, j, hf⟩ | ⟨e, hf⟩
  · rw [e]
    exact run_lookup_has Tryz.underlying71 Tryz.underlying9 h1 (by exact trivial) hf true
  · rw [e]
    exact run_lookup_not Tryz.underlying71 Tryz.underlying9 h1 (by exact trivial) hf (Tryz.zeroValue112 _) true

/-- How a line ends: the reader's state, or a panic that tells the fault. -/
def RdPost (Wl : World) (n : Nat) (o : (Int × List Ru) ⊕ (Int × Wd)) (x : Ending) (w : World) : Prop :=
  match o with
  | .inl s => x = .returned (.tuple #[]) ∧ RdAt Wl n s.1 s.2 w
  | .inr e => x = .panicked [{ v := faultV e.1 e.2.l e.2.c, recovered := false }] ∧ Below Wl.heap.size Wl w

def EndPost (Wl : World) (n : Nat) (m : Int) (l : List Ru) (x : Ending) (w : World) : Prop :=
  match Cf.ends m l with
  | none => x = .returned (.tuple #[]) ∧ RdAt Wl n m l w
  | some e => x = .panicked [{ v := faultV e 0 0, recovered := false }] ∧ Below Wl.heap.size Wl w

set_option maxRecDepth 100000 in
theorem conf_end (Wl : World) (n : Nat) (m : Int) (l : List Ru) (w : World) (h : RdAt Wl n m l w) :
    Calls Tryz.prog 30 #[.pointer (some ⟨n + 1, 0, none⟩)] w (EndPost Wl n m l) := by
  have OK := Lib.hid (fun e t l c w => must_ok e t l c w)
  have BAD := Lib.hid (fun e t l c w => must_bad e t l c w)
  obtain ⟨v, h3, h4⟩ := h.rows
  have r0 := h3.cell_at 0 _ rfl
  have hs := h.size
  have hn := h.hn
  by_cases hm : 0 < m
  · have HM := Lib.hid hm
    have H := Lib.hid h
    clear h h3 h4
    go_enter Tryz.func30, Tryz.ntmps30
    go_wp2_with fail
    refine (OK.out _ _ _ _ _).mono ?_
    rintro x w1 ⟨rfl, hb⟩
    have H1 := H.out.step hb
    have hl := H1.look ⟨#[]⟩
    obtain ⟨v1, k1, _⟩ := H1.rows
    have r2 := k1.cell_at 2 _ rfl
    have H1 := Lib.hid H1
    clear k1 H hb
    cases hh : Cf.has l ⟨#[]⟩ with
    | true =>
      rw [hh] at hl
      have HE := Lib.hid (show Cf.ends m l = none by unfold Cf.ends; rw [if_neg (by have := HM.out; omega), if_neg (by simp [hh])])
      clear hh HM
      go_wp2_with fail
      refine (OK.out _ _ _ _ _).mono ?_
      rintro x w2 ⟨rfl, hb⟩
      go_wp2
      go_end0
      unfold EndPost
      rw [HE.out]
      exact ⟨rfl, (H1.out.step ((Below.refl _ _).alloc (Nat.le_refl _) _)).step hb⟩
    | false =>
      rw [hh] at hl
      have HE := Lib.hid (show Cf.ends m l = some 31 by unfold Cf.ends; rw [if_neg (by have := HM.out; omega), if_pos hh])
      clear hh HM
      go_wp2_with fail
      refine (BAD.out _ _ _ _ _).mono ?_
      rintro x w2 ⟨rfl, hb⟩
      go_wp2
      refine ⟨rfl, ?_⟩
      unfold EndPost
      rw [HE.out]
      exact ⟨rfl, ((H1.out.step ((Below.refl _ _).alloc (Nat.le_refl _) _)).step hb).bel⟩
  · have HE := Lib.hid (show Cf.ends m l = some 30 from if_pos hm)
    have H := Lib.hid h
    clear h h3 h4
    go_enter Tryz.func30, Tryz.ntmps30
    go_wp2_with fail
    refine (BAD.out _ _ _ _ _).mono ?_
    rintro x w1 ⟨rfl, hb⟩
    go_wp2
    refine ⟨rfl, ?_⟩
    unfold EndPost
    rw [HE.out]
    exact ⟨rfl, (H.out.step hb).bel⟩
end Go.Proofs.YtamhpnenpoamhaaGreat
