/- Part 1 of 9 of the proof of LRowParses: lemmas and walks, gathered. -/
import Derived.Sort.Statements
import Derived.Sort.LotA
import Derived.WalkKit
import Derived.WalkSpells
import Derived.WalkLawsBesides
import Derived.ScopeJumps
import Derived.Lib.Hide
import Derived.Lib.Strings
import Derived.Shelf.SlSortCmp.KitK
import Derived.Test.YtamhpnenpoamhaaGreatProg
import Derived.Sort.WalkB2
import Derived.Sort.WalkB12
import Derived.Deep.LoopGhost
set_option linter.unusedSimpArgs false
set_option linter.unusedVariables false
/- Stable sorting, of lists: sorted, and the equals in their old order: there is one such list. Exchanges of an array as rows of lists. -/
namespace Go.Proofs.YtamhpnenpoamhaaGreat
open Go.Sort
namespace St
variable {α : Type}

section
variable (lt : α → α → Bool)
/-- Are they equal, as far as lt tells? -/
def eqv (x y : α) : Bool := !lt x y && !lt y x
/-- No later one is less than an earlier one. -/
def Srt (l : List α) : Prop := l.Pairwise fun x y => lt y x = false
/-- The same elements; equals in the same order. -/
def SP (l r : List α) : Prop := l.Perm r ∧ ∀ e, l.filter (eqv lt e) = r.filter (eqv lt e)
end

variable {lt : α → α → Bool}
theorem SP.refl (l : List α) : SP lt l l := ⟨.refl _, fun _ => rfl⟩
theorem SP.trans {a b c : List α} (h : SP lt a b) (k : SP lt b c) : SP lt a c := ⟨h.1.trans k.1, fun e => (h.2 e).trans (k.2 e)⟩
theorem SP.symm {a b : List α} (h : SP lt a b) : SP lt b a := ⟨h.1.symm, fun e => (h.2 e).symm⟩
theorem SP.append {a b c d : List α} (h : SP lt a b) (k : SP lt c d) : SP lt (a ++ c) (b ++ d) := ⟨h.1.append k.1, fun e => by rw [List.filter_append, List.filter_append, h.2 e, k.2 e]⟩
theorem SP.length {a b : List α} (h : SP lt a b) : a.length = b.length := h.1.length_eq
theorem SP.mem {a b : List α} (h : SP lt a b) {x : α} : x ∈ a ↔ x ∈ b := h.1.mem_iff

theorem eqv_lt (O : SWO lt) {e x y : α} (hx : eqv lt e x = true) (hy : eqv lt e y = true) : lt x y = false := by
  simp only [eqv, Bool.and_eq_true, Bool.not_eq_true'] at hx hy
  exact O.ntrans _ _ _ hx.2 hy.1

/-- A block of lesser ones moves ahead of a block of greater ones. -/
theorem SP.rotate (O : SWO lt) {L R : List α} (h : ∀ x ∈ L, ∀ y ∈ R, lt y x = true) : SP lt (L ++ R) (R ++ L) := by
  refine ⟨List.perm_append_comm, fun e => ?_⟩
  rw [List.filter_append, List.filter_append]
  by_cases hL : L.filter (eqv lt e) = []
  · rw [hL, List.nil_append, List.append_nil]
  · obtain ⟨x, hx⟩ := List.exists_mem_of_ne_nil _ hL
    rw [List.mem_filter] at hx
    have : R.filter (eqv lt e) = [] := by
      rw [List.filter_eq_nil_iff]
      intro y hy hey
      have h1 := h x hx.1 y hy
      rw [eqv_lt O hey hx.2] at h1
      cases h1
    rw [this, List.append_nil, List.nil_append]

/-- There is one stable order. -/
theorem unique (O : SWO lt) : ∀ {l r : List α}, Srt lt l → Srt lt r → SP lt l r → l = r
  | [], r, _, _, h => (List.nil_perm.1 h.1).symm
  | x :: l, [], _, _, h => absurd h.1.length_eq (by simp)
  | x :: l, y :: r, hl, hr, h => by
    have hx : ∀ z ∈ l, lt z x = false := fun z hz => List.rel_of_pairwise_cons hl hz
    have hy : ∀ z ∈ r, lt z y = false := fun z hz => List.rel_of_pairwise_cons hr hz
    have hyx : lt y x = false := by
      rcases List.mem_cons.1 (h.mem.2 (List.mem_cons_self : y ∈ y :: r)) with e | hm
      · rw [e]; exact O.irrefl _
      · exact hx y hm
    have hxy : lt x y = false := by
      rcases List.mem_cons.1 (h.mem.1 (List.mem_cons_self : x ∈ x :: l)) with e | hm
      · rw [e]; exact O.irrefl _
      · exact hy x hm
    have e1 : eqv lt x x = true := by simp [eqv, O.irrefl]
    have e2 : eqv lt x y = true := by simp [eqv, hxy, hyx]
    have hf := h.2 x
    rw [List.filter_cons_of_pos e1, List.filter_cons_of_pos e2] at hf
    injection hf with hxy' _
    subst hxy'
    have hp : l.Perm r := (List.perm_cons x).1 h.1
    have : SP lt l r := ⟨hp, fun e => by
      have := h.2 e
      by_cases he : eqv lt e x = true
      · rw [List.filter_cons_of_pos he, List.filter_cons_of_pos he] at this
        injection this
      · rwa [List.filter_cons_of_neg he, List.filter_cons_of_neg he] at this⟩
    rw [unique O (List.Pairwise.of_cons hl) (List.Pairwise.of_cons hr) this]

theorem Srt.append {l r : List α} (hl : Srt lt l) (hr : Srt lt r) (h : ∀ x ∈ l, ∀ y ∈ r, lt y x = false) : Srt lt (l ++ r) := List.pairwise_append.2 ⟨hl, hr, h⟩
theorem Srt.left {l r : List α} (h : Srt lt (l ++ r)) : Srt lt l := (List.pairwise_append.1 h).1
theorem Srt.right {l r : List α} (h : Srt lt (l ++ r)) : Srt lt r := (List.pairwise_append.1 h).2.1
theorem Srt.cross {l r : List α} (h : Srt lt (l ++ r)) : ∀ x ∈ l, ∀ y ∈ r, lt y x = false := (List.pairwise_append.1 h).2.2

/-! ### exchanges -/
section
variable [Inhabited α]
theorem at_mid (A C : List α) (x : α) : (A ++ x :: C).toArray[A.length]! = x := by simp
theorem at_eq {A C l : List α} {x : α} {i : Nat} (h : l = A ++ x :: C) (hi : i = A.length) : l.toArray[i]! = x := by subst h hi; exact at_mid A C x
theorem swp_two (A B C : List α) (x y : α) : swp (A ++ x :: (B ++ y :: C)).toArray A.length (A.length + 1 + B.length) = (A ++ y :: (B ++ x :: C)).toArray := by
  have h1 : (A ++ x :: (B ++ y :: C)).toArray[A.length + 1 + B.length]! = y := at_eq (A := A ++ x :: B) (C := C) (by simp) (by simp; omega)
  unfold swp
  rw [h1, at_mid]
  simp only [List.setIfInBounds_toArray]
  congr 1
  rw [List.set_append_right _ _ (by omega), Nat.sub_self, List.set_cons_zero, List.set_append_right _ _ (by omega), show A.length + 1 + B.length - A.length = B.length + 1 by omega, List.set_cons_succ, List.set_append_right _ _ (by omega), Nat.sub_self, List.set_cons_zero]
theorem swp_comm (d : Array α) (i j : Nat) (hi : i < d.size) (hj : j < d.size) : swp d i j = swp d j i := by
  apply Array.ext
  · simp [swp]
  · intro k hk hk'
    have a := swp_get d hi hj k
    have b := swp_get d hj hi k
    rw [getElem!_pos _ k hk] at a
    rw [getElem!_pos _ k hk'] at b
    rw [a, b]
    by_cases h1 : k = i <;> by_cases h2 : k = j <;> simp_all
theorem swp_eq {d : Array α} {A B C : List α} {x y : α} {i j : Nat} (h : d = (A ++ x :: (B ++ y :: C)).toArray) (hi : i = A.length) (hj : j = A.length + 1 + B.length) : swp d i j = (A ++ y :: (B ++ x :: C)).toArray := by
  subst h hi hj; exact swp_two A B C x y
end

/-! ### the insertion sort -/
section
variable [Inhabited α]
/-- The new one moves down behind the last that is not greater. -/
theorem insInner_list (O : SWO lt) (A C : List α) (x : α) : ∀ (n : Nat) (S T : List α), S.length = n → Srt lt (S ++ T) → (∀ y ∈ T, lt x y = true) →
    ∃ X, insInner lt A.length (A.length + S.length) (A ++ (S ++ x :: (T ++ C))).toArray = (A ++ (X ++ C)).toArray ∧ Srt lt X ∧ SP lt X (S ++ T ++ [x]) := by
  intro n
  induction n with
  | zero =>
    intro S T hn hs hT
    obtain rfl := List.eq_nil_of_length_eq_zero hn
    refine ⟨x :: T, ?_, ?_, ?_⟩
    · cases hA : A.length with
      | zero => simp [insInner]
      | succ n => simp [insInner]
    · exact List.pairwise_cons.2 ⟨fun y hy => by
        cases h : lt y x with
        | false => rfl
        | true => exact absurd (O.trans _ _ _ (hT y hy) h) (by rw [O.irrefl]; simp), hs⟩
    · exact (SP.rotate O (L := T) (R := [x]) (fun y hy z hz => by rw [List.mem_singleton.1 hz]; exact hT y hy)).symm
  | succ n ih =>
    intro S' T hn hs hT
    obtain ⟨S, s, rfl⟩ : ∃ S s, S' = S ++ [s] := ⟨S'.dropLast, S'.getLast (by intro e; rw [e] at hn; cases hn), (List.dropLast_concat_getLast _).symm⟩
    have hpos : A.length + (S ++ [s]).length = (A.length + S.length) + 1 := by simp; omega
    have e1 : (A ++ (S ++ [s] ++ x :: (T ++ C))).toArray[A.length + S.length + 1]! = x := at_eq (A := A ++ S ++ [s]) (C := T ++ C) (by simp) (by simp; omega)
    have e2 : (A ++ (S ++ [s] ++ x :: (T ++ C))).toArray[A.length + S.length]! = s := at_eq (A := A ++ S) (C := x :: (T ++ C)) (by simp) (by simp)
    rw [hpos, insInner, e1, e2]
    by_cases hlt : lt x s = true
    · rw [if_pos (by simp only [hlt, Bool.and_true, decide_eq_true_eq]; omega)]
      have hsw : swp (A ++ (S ++ [s] ++ x :: (T ++ C))).toArray (A.length + S.length + 1) (A.length + S.length) = (A ++ (S ++ x :: (s :: T ++ C))).toArray := by
        rw [swp_comm _ _ _ (by simp; try omega) (by simp; try omega)]
        rw [swp_eq (A := A ++ S) (B := []) (C := T ++ C) (x := s) (y := x) (by simp) (by simp) (by simp)]
        simp
      rw [hsw]
      obtain ⟨X, h1, h2, h3⟩ := ih S (s :: T) (by simpa using hn) (by simpa using hs) (fun y hy => by
        rcases List.mem_cons.1 hy with rfl | hy
        · exact hlt
        · exact hT y hy)
      exact ⟨X, h1, h2, h3.trans (by rw [show S ++ s :: T ++ [x] = S ++ [s] ++ T ++ [x] by simp]; exact SP.refl _)⟩
    · rw [if_neg (by simp [hlt])]
      have hlt : lt x s = false := by simpa using hlt
      refine ⟨S ++ [s] ++ x :: T, by simp, ?_, ?_⟩
      · refine Srt.append hs.left ?_ ?_
        · exact List.pairwise_cons.2 ⟨fun y hy => by
            cases h : lt y x with
            | false => rfl
            | true => exact absurd (O.trans _ _ _ (hT y hy) h) (by rw [O.irrefl]; simp), hs.right⟩
        · intro a ha b hb
          rcases List.mem_cons.1 hb with rfl | hb
          · rcases List.mem_append.1 ha with ha | ha
            · exact O.ntrans _ _ _ hlt (hs.left.cross a ha s List.mem_cons_self)
            · rw [List.mem_singleton.1 ha]; exact hlt
          · exact hs.cross a ha b hb
      · rw [List.append_assoc (S ++ [s])]
        refine SP.append (SP.refl _) ?_
        exact (SP.rotate O (L := T) (R := [x]) (fun y hy z hz => by rw [List.mem_singleton.1 hz]; exact hT y hy)).symm

theorem insOuter_list (O : SWO lt) (A C : List α) : ∀ (T S : List α), Srt lt S →
    ∃ X, insOuter lt A.length (A.length + S.length + T.length) (A.length + S.length) (A ++ (S ++ (T ++ C))).toArray = (A ++ (X ++ C)).toArray ∧ Srt lt X ∧ SP lt X (S ++ T)
  | [], S, hs => by
    refine ⟨S, ?_, hs, by rw [List.append_nil]; exact SP.refl _⟩
    rw [insOuter, if_neg (by simp)]
    simp
  | x :: T, S, hs => by
    rw [insOuter, if_pos (by simp)]
    obtain ⟨Y, h1, h2, h3⟩ := insInner_list O A (T ++ C) x S.length S [] rfl (by rw [List.append_nil]; exact hs) (fun y hy => by cases hy)
    rw [List.append_nil] at h3
    rw [List.nil_append] at h1
    rw [show A ++ (S ++ (x :: T ++ C)) = A ++ (S ++ x :: (T ++ C)) by simp, h1]
    have hlen : Y.length = S.length + 1 := by rw [h3.length]; simp
    obtain ⟨X, k1, k2, k3⟩ := insOuter_list O A C T Y h2
    refine ⟨X, ?_, k2, k3.trans ?_⟩
    · rw [← k1, hlen, List.length_cons]
      congr 1
      omega
    · rw [show S ++ x :: T = (S ++ [x]) ++ T by simp]
      exact SP.append h3 (SP.refl _)

theorem insertion_list (O : SWO lt) (A X C : List α) : ∃ Y, insertionSort lt (A ++ (X ++ C)).toArray A.length (A.length + X.length) = (A ++ (Y ++ C)).toArray ∧ Srt lt Y ∧ SP lt Y X := by
  cases X with
  | nil =>
    refine ⟨[], ?_, List.Pairwise.nil, SP.refl _⟩
    unfold insertionSort
    rw [insOuter, if_neg (by simp)]
  | cons x T =>
    obtain ⟨Y, h1, h2, h3⟩ := insOuter_list O A C T [x] (List.pairwise_singleton _ _)
    refine ⟨Y, ?_, h2, h3⟩
    rw [← h1]
    unfold insertionSort
    simp only [List.length_cons, List.length_nil, List.singleton_append, List.cons_append]
    congr 1
    omega
end
end St
end Go.Proofs.YtamhpnenpoamhaaGreat

/- Small laws of the machine that the walks of this seat use: jumps to several labels of one scope. They hold of any program. -/
namespace Go.Proofs.YtamhpnenpoamhaaGreat
open Go.RowKit

/-! ### A block known whole -/
/-- Block b of w holds the cells cs, of type t, none of them frozen. -/
def Blk (w : World) (b : Nat) (cs : Array Value) (t : TypeId) : Prop := w.heap[b]? = some (.cells cs t (0, 0))
theorem Blk.lt {w : World} {b : Nat} {cs : Array Value} {t : TypeId} (h : Blk w b cs t) : b < w.heap.size := (Array.getElem?_eq_some_iff.1 h).1
theorem Blk.cell {w : World} {b : Nat} {cs : Array Value} {t : TypeId} (h : Blk w b cs t) (o : Nat) : w.cell? ⟨b, o, none⟩ = cs[o]? := by simp [World.cell?, show w.heap[b]? = _ from h]
theorem Blk.cell_at {w : World} {b : Nat} {cs : Array Value} {t : TypeId} (h : Blk w b cs t) (o : Nat) (v : Value) (hv : cs[o]? = some v) : w.cell? ⟨b, o, none⟩ = some v := (h.cell o).trans hv
theorem Blk.free {w : World} {b : Nat} {cs : Array Value} {t : TypeId} (h : Blk w b cs t) (o : Nat) : w.frozen? ⟨b, o, none⟩ = false := by simp [World.frozen?, show w.heap[b]? = _ from h]
theorem Blk.new (w : World) (cs : Array Value) (t : TypeId) : Blk (w.alloc (.cells cs t)) w.heap.size cs t := by simp [Blk, World.alloc, -World.alloc_eq]
theorem Blk.new_at {w : World} {n : Nat} {cs : Array Value} {t : TypeId} (h : w.heap.size = n) : Blk (w.alloc (.cells cs t)) n cs t := by subst h; exact Blk.new w cs t
theorem Blk.alloc {w : World} {b : Nat} {cs : Array Value} {t : TypeId} (h : Blk w b cs t) (o : Obj) : Blk (w.alloc o) b cs t := by
  have hl := h.lt
  unfold Blk at h ⊢
  simp [World.alloc, -World.alloc_eq, Array.getElem?_push, show ¬ b = w.heap.size by omega, h]
theorem Blk.drew {w : World} {b : Nat} {cs : Array Value} {t : TypeId} (h : Blk w b cs t) : Blk w.drew b cs t := h
theorem Blk.drewN {w : World} {b : Nat} {cs : Array Value} {t : TypeId} (h : Blk w b cs t) (n : Nat) : Blk (w.drewN n) b cs t := h
theorem Blk.below {w w' : World} {B b : Nat} {cs : Array Value} {t : TypeId} (h : Blk w b cs t) (hb : Below B w w') (hlt : b < B) : Blk w' b cs t := (hb.block b hlt).trans h
theorem Blk.grown {w w' : World} {row : Option Nat} {b : Nat} {cs : Array Value} {t : TypeId} (h : Blk w b cs t) (hg : w.grownBy w' row) (hne : some b ≠ row) : Blk w' b cs t := (hg.block b h.lt hne).trans h
theorem Blk.set {w : World} {b : Nat} {cs : Array Value} {t : TypeId} (h : Blk w b cs t) (i : Nat) (v : Value) : Blk (w.setCell ⟨b, i, none⟩ v) b (cs.setIfInBounds i v) t := by
  obtain ⟨hlt, hk⟩ := Array.getElem?_eq_some_iff.1 h
  show (w.heap.modify b _)[b]? = _
  rw [Array.getElem?_eq_getElem (by rw [Array.size_modify]; exact hlt), Array.getElem_modify_self, hk]
  simp
theorem Blk.far {w : World} {b b' : Nat} {cs : Array Value} {t : TypeId} (h : Blk w b cs t) (hne : b' ≠ b) (i : Nat) (v : Value) : Blk (w.setCell ⟨b', i, none⟩ v) b cs t := by
  show (w.heap.modify b' _)[b]? = _
  rw [Array.getElem?_modify, if_neg hne]; exact h
theorem bcell {W w1 : World} (hb : Below W.heap.size W w1) : (∀ b o, b < W.heap.size → w1.cell? ⟨b, o, none⟩ = W.cell? ⟨b, o, none⟩) :=
  fun b o h => hb.cell (p := ⟨b, o, none⟩) h
theorem addr_zero (a : Addr) : a.add 0 = a := by
  obtain ⟨b, o, s⟩ := a
  cases s <;> simp [Addr.add]
theorem addr_succ (a : Addr) (n : Nat) : a.add (n + 1) = ⟨a.block, a.off + (n + 1), none⟩ := by simp [Addr.add]
theorem cell_alloc {w : World} {a : Addr} {v : Value} (h : w.cell? a = some v) (o : Obj) : (w.alloc o).cell? a = some v :=
  (((Below.refl w.heap.size w).alloc (Nat.le_refl _) o).cell (World.block_lt_of_cell? w a h)).trans h
/-- 'grown' where block b alone has changed. -/
theorem grown_refl (w : World) (row : Option Nat) : w.grownBy w row := ⟨rfl, rfl, rfl, Nat.le_refl _, fun _ _ _ => rfl⟩
theorem grown_trans {w w1 w2 : World} {row : Option Nat} (h : w.grownBy w1 row) (k : w1.grownBy w2 row) : w.grownBy w2 row :=
  ⟨k.os.trans h.os, k.tape.trans h.tape, k.output.trans h.output, Nat.le_trans h.size k.size, fun i hi hne => (k.block i (Nat.lt_of_lt_of_le hi h.size) hne).trans (h.block i hi hne)⟩
theorem grown_below {w w1 : World} (h : Below w.heap.size w w1) (row : Option Nat) : w.grownBy w1 row := ⟨h.os, h.tape, h.output, h.size, fun i hi _ => h.block i hi⟩
theorem grown_alloc (w : World) (o : Obj) (row : Option Nat) : w.grownBy (w.alloc o) row := grown_below ((Below.refl _ _).alloc (Nat.le_refl _) _) row
theorem grown_drewN (w : World) (n : Nat) (row : Option Nat) : w.grownBy (w.drewN n) row := ⟨rfl, rfl, rfl, Nat.le_refl _, fun _ _ _ => rfl⟩
theorem grown_set (w : World) (b i : Nat) (v : Value) : w.grownBy (w.setCell ⟨b, i, none⟩ v) (some b) :=
  ⟨rfl, rfl, rfl, by simp [World.setCell], fun k _ hne => by
    show (w.heap.modify b _)[k]? = _
    rw [Array.getElem?_modify, if_neg (fun e => hne (by rw [e]))]⟩
/-- What was changed beyond B alone, seen from below B. -/
theorem below_grown {B : Nat} {w w1 w2 : World} {b : Nat} (h : Below B w w1) (hB : B ≤ w1.heap.size) (k : w1.grownBy w2 (some b)) (hb : B ≤ b) : Below B w w2 :=
  h.grown k hB (fun j e => by cases e; exact hb)

/-- As Q; by a goto to label l: J l. -/
def Exit.jumps (J : Nat → Act → World → Prop) (Q : Exit → Act → World → Prop) : Exit → Act → World → Prop
  | .goto l, a, w => J l a w
  | e, a, w => Q e a w

section
variable {P : Program} {a : Act} {w : World} {Q : Exit → Act → World → Prop} {J : Nat → Act → World → Prop}
theorem jump_in {K : Act → World → Prop} (h : K a w) : Exit.then K Q .normal a w := h
theorem then_goto {K : Act → World → Prop} (l : Nat) : Exit.then K Q (.goto l) a w = Q (.goto l) a w := rfl
theorem goto_in {l : Nat} (h : J l a w) : Exit.jumps J Q (.goto l) a w := h
theorem jumps_normal : Exit.jumps J Q .normal a w = Q .normal a w := rfl
theorem jumps_exit (id : Nat) : Exit.jumps J Q (.exit id) a w = Q (.exit id) a w := rfl
theorem jumps_ret : Exit.jumps J Q .ret a w = Q .ret a w := rfl
theorem jumps_panic (ch : List PanicEntry) : Exit.jumps J Q (.panic ch) a w = Q (.panic ch) a w := rfl
theorem jumps_goto (l : Nat) : Exit.jumps J Q (.goto l) a w = J l a w := rfl

theorem jumps_mono {J' : Nat → Act → World → Prop} (h : ∀ l a w, J l a w → J' l a w) : ∀ e a w, Exit.jumps J Q e a w → Exit.jumps J' Q e a w := by
  intro e a w q
  cases e with
  | goto l => exact h l a w q
  | normal => exact q
  | exit id => exact q
  | ret => exact q
  | panic ch => exact q
  | outgrown => exact q

theorem wp_scope_labels {c : Code} (J : Nat → Act → World → Prop) (μ : Nat → Act → World → Nat)
    (pass : ∀ l a w, J l a w → ∃ rest, findLabel c l = some rest ∧ rest.wp P (Exit.jumps (fun l' a' w' => J l' a' w' ∧ μ l' a' w' < μ l a w) Q) a w)
    (first : (∀ l rest a w, findLabel c l = some rest → J l a w → rest.wp P (Exit.jumps J Q) a w) → c.wp P (Exit.jumps J Q) a w) : (Code.scope c).wp P Q a w := by
  intro b k cs
  have key : ∀ n l a w rest, μ l a w = n → J l a w → findLabel c l = some rest → ∃ e a' w', Q e a' w' ∧ Arrives P (lone (b.at a (.code rest :: .inScope c :: k)) cs w) b k cs e a' w' := by
    intro n
    induction n using Nat.strongRecOn with
    | _ n ih =>
      intro l a w rest hn hJ hf
      obtain ⟨rest', hf', hr⟩ := pass l a w hJ
      obtain rfl : rest = rest' := Option.some.inj (hf.symm.trans hf')
      obtain ⟨e, a₁, w₁, hq, harr⟩ := hr b (.inScope c :: k) cs
      cases e with
      | normal => exact ⟨.normal, a₁, w₁, hq, Steps.trans harr (.one step_inScope)⟩
      | exit id => exact ⟨.exit id, a₁, w₁, hq, fun k' hk => harr k' (by simp [exitTo, hk])⟩
      | goto l' =>
        obtain ⟨hJ', hlt⟩ := hq
        obtain ⟨rest2, hf2, _⟩ := pass l' a₁ w₁ hJ'
        obtain ⟨e₂, a₂, w₂, hq₂, harr₂⟩ := ih _ (by omega) l' a₁ w₁ rest2 rfl hJ' hf2
        exact ⟨e₂, a₂, w₂, hq₂, .of_steps (harr _ (by simp [gotoIn, hf2])) harr₂⟩
      | ret => exact ⟨_, a₁, w₁, hq, harr⟩
      | panic ch => exact ⟨_, a₁, w₁, hq, harr⟩
      | outgrown => exact ⟨_, a₁, w₁, hq, harr⟩
  have hfirst := first (fun l rest a w hf hJ => by
    obtain ⟨rest', hf', hr⟩ := pass l a w hJ
    obtain rfl : rest = rest' := Option.some.inj (hf.symm.trans hf')
    exact wp_mono hr (jumps_mono fun l a w h => h.1))
  obtain ⟨e, a₁, w₁, hq, harr⟩ := hfirst b (.inScope c :: k) cs
  cases e with
  | normal => exact ⟨.normal, a₁, w₁, hq, .head step_scope (Steps.trans harr (.one step_inScope))⟩
  | exit id => exact ⟨.exit id, a₁, w₁, hq, fun k' hk => .head step_scope (harr k' (by simp [exitTo, hk]))⟩
  | goto l' =>
    obtain ⟨rest2, hf2, _⟩ := pass l' a₁ w₁ hq
    obtain ⟨e₂, a₂, w₂, hq₂, harr₂⟩ := key _ l' a₁ w₁ rest2 rfl hq hf2
    exact ⟨e₂, a₂, w₂, hq₂, .of_steps (.head step_scope (harr _ (by simp [gotoIn, hf2]))) harr₂⟩
  | ret => exact ⟨_, a₁, w₁, hq, .of_steps (.one step_scope) harr⟩
  | panic ch => exact ⟨_, a₁, w₁, hq, .of_steps (.one step_scope) harr⟩
  | outgrown => exact ⟨_, a₁, w₁, hq, .of_steps (.one step_scope) harr⟩

/-- The same where each label stands ahead of the rest of its scope, as 'label; y'. -/
theorem wp_scope_labels' {c : Code} (J : Nat → Act → World → Prop) (μ : Nat → Act → World → Nat)
    (pass : ∀ l a w, J l a w → ∃ y, findLabel c l = some (.seq .skip y) ∧ y.wp P (Exit.jumps (fun l' a' w' => J l' a' w' ∧ μ l' a' w' < μ l a w) Q) a w)
    (first : (∀ l y a w, findLabel c l = some (.seq .skip y) → J l a w → y.wp P (Exit.jumps J Q) a w) → c.wp P (Exit.jumps J Q) a w) : (Code.scope c).wp P Q a w := by
  refine wp_scope_labels J μ (fun l a w h => ?_) (fun _ => first fun l y a w hf hJ => ?_)
  · obtain ⟨y, hf, hy⟩ := pass l a w h
    exact ⟨_, hf, wp_seq (wp_skip hy)⟩
  · obtain ⟨y', hf', hr⟩ := pass l a w hJ
    have e := hf.symm.trans hf'
    injection e with e
    injection e with _ e
    subst e
    exact wp_mono hr (jumps_mono fun l a w h => h.1)
end
end Go.Proofs.YtamhpnenpoamhaaGreat

/- slices.insertionSortCmpFunc of rules: the library's contract at this program; stable. -/
namespace Go.Proofs.YtamhpnenpoamhaaGreat
open Go.RowKit Go.Shelf Go.Sort Go.Lib

def insRen : Ren := ⟨fun n => if n = 20 then 79 else n, fun n => if n = 22 then 26 else if n = 24 then 37 else if n = 25 then 81 else n, fun n => n⟩
theorem insLays : SlLaysF0.n20 Tryz.prog insRen where
  mixed := by kernel_rfl
  f20 := ⟨Tryz.f79.name, by kernel_rfl, by kernel_rfl⟩
  t0 := by kernel_rfl
  a0 := Tryz.isAgg0
  z0 := Tryz.sizeOf0
  v0 := Tryz.zeroValue0
  t3 := by kernel_rfl
  a3 := Tryz.isAgg3
  z3 := Tryz.sizeOf3
  v3 := Tryz.zeroValue3
  t4 := by kernel_rfl
  a4 := Tryz.isAgg4
  z4 := Tryz.sizeOf4
  v4 := Tryz.zeroValue4
  t22 := by kernel_rfl
  a22 := Tryz.isAgg26
  z22 := Tryz.sizeOf26
  v22 := Tryz.zeroValue26
  t25 := by kernel_rfl
  a25 := Tryz.isAgg81
  z25 := Tryz.sizeOf81
  v25 := Tryz.zeroValue81
end Go.Proofs.YtamhpnenpoamhaaGreat

/- The library's stable sort at rules: an exchange of two runs. -/
namespace Go.Proofs.YtamhpnenpoamhaaGreat
open Go.RowKit Go.Shelf Go.Sort Go.Lib
variable {P : Program} {α : Type} [Inhabited α]

/-- What the walks want of the program. -/
structure Sst (P : Program) (k : Nat) : Prop where
  mixed : P.follows .mixedOrders = true
  fS : P.funcs[115]? = some Tryz.f115
  fR : P.funcs[99]? = some Tryz.f99
  fM : P.funcs[80]? = some Tryz.f80
  t0 : P.underlying 0 = some (TypeDesc.tuple #[])
  a0 : ∀ w, (isAgg 0).run P w = .ok false w
  z0 : ∀ w, (Go.sizeOf 0).run P w = .ok 1 w
  v0 : ∀ w, (zeroValue 0).run P w = .ok (Value.tuple #[]) w
  t3 : P.underlying 3 = some (TypeDesc.int IntKind.i64)
  a3 : ∀ w, (isAgg 3).run P w = .ok false w
  z3 : ∀ w, (Go.sizeOf 3).run P w = .ok 1 w
  v3 : ∀ w, (zeroValue 3).run P w = .ok (Value.int IntKind.i64 0) w
  t4 : P.underlying 4 = some (TypeDesc.bool)
  a4 : ∀ w, (isAgg 4).run P w = .ok false w
  z4 : ∀ w, (Go.sizeOf 4).run P w = .ok 1 w
  v4 : ∀ w, (zeroValue 4).run P w = .ok (Value.bool false) w
  tl : P.underlying 26 = some (TypeDesc.slice 37)
  al : ∀ w, (isAgg 26).run P w = .ok false w
  zl : ∀ w, (Go.sizeOf 26).run P w = .ok 1 w
  vl : ∀ w, (zeroValue 26).run P w = .ok (Value.slice none 0 0) w
  aE : ∀ w, (isAgg 37).run P w = .ok true w
  zE : ∀ w, (Go.sizeOf 37).run P w = .ok k w
  tu : P.underlying 160 = some (TypeDesc.int IntKind.u64)
  au : ∀ w, (isAgg 160).run P w = .ok false w
  zu : ∀ w, (Go.sizeOf 160).run P w = .ok 1 w
  vu : ∀ w, (zeroValue 160).run P w = .ok (Value.int IntKind.u64 0) w

omit [Inhabited α] in
theorem exch_step (A X B Y C : List α) (hXY : X.length = Y.length) (i : Nat) (hi : i < X.length) : ∃ A' x B' y C', A ++ ((Y.take i ++ X.drop i) ++ (B ++ ((X.take i ++ Y.drop i) ++ C))) = A' ++ x :: (B' ++ y :: C') ∧
    A ++ ((Y.take (i + 1) ++ X.drop (i + 1)) ++ (B ++ ((X.take (i + 1) ++ Y.drop (i + 1)) ++ C))) = A' ++ y :: (B' ++ x :: C') ∧ A'.length = A.length + i ∧ A'.length + 1 + B'.length = A.length + X.length + B.length + i := by
  have hy : i < Y.length := by omega
  refine ⟨A ++ Y.take i, X[i], X.drop (i + 1) ++ (B ++ X.take i), Y[i], Y.drop (i + 1) ++ C, ?_, ?_, ?_, ?_⟩
  · rw [List.drop_eq_getElem_cons hi, List.drop_eq_getElem_cons hy]; simp only [List.append_assoc, List.cons_append]
  · rw [List.take_succ_eq_append_getElem hi, List.take_succ_eq_append_getElem hy]; simp only [List.append_assoc, List.cons_append, List.nil_append]
  · simp; omega
  · simp; omega

/-- What an exchange wants, and what it leaves. -/
structure Swap (P : Program) (enc : α → List Value) (k : Nat) (w0 : World) (blk off : Nat) (l : List α) (p q : Nat) (cp cq : List Value) (W : World) : Prop where
  after : SWK enc k w0 blk off l.toArray ((W.drew.setCells blk (off + p * k) cq).setCells blk (off + q * k) cp)
  lp : Sem.run P (loadCellsFrom ⟨blk, off + p * k, none⟩ 0 k #[]) W.drew = .ok cp.toArray W.drew
  lq : Sem.run P (loadCellsFrom ⟨blk, off + q * k, none⟩ 0 k #[]) W.drew = .ok cq.toArray W.drew
  st1 : Sem.run P (storeCells ⟨blk, off + p * k, none⟩ cq 0) W.drew = .ok () (W.drew.setCells blk (off + p * k) cq)
  st2 : Sem.run P (storeCells ⟨blk, off + q * k, none⟩ cp 0) (W.drew.setCells blk (off + p * k) cq) = .ok () ((W.drew.setCells blk (off + p * k) cq).setCells blk (off + q * k) cp)
  np : cp.length = k
  nq : cq.length = k

theorem swap_of {k : Nat} {enc : α → List Value} {w0 : World} {blk off : Nat} {d0 : Array α} {W : World} (R : RowK enc k w0 blk off d0) {d : Array α} {l : List α} (S : SWK enc k w0 blk off d W) (hs : d.size = d0.size) (p q : Nat) (hp : p < d.size) (hq : q < d.size) (hl : swp d p q = l.toArray) :
    Swap P enc k w0 blk off l p q (enc d[p]!) (enc d[q]!) W := by
  refine ⟨?_, S.ld1 R hs P p hp, S.ld1 R hs P q hq, S.st1 R hs P p hp _, S.st2 R hs P p q hp hq _ _, R.hk _, R.hk _⟩
  rw [← hl]
  exact S.swapped R p q hp hq

/-- Upward: the lesser place is written first. -/
theorem swap_up {k : Nat} {enc : α → List Value} {w0 : World} {blk off : Nat} {d0 : Array α} {W : World} (R : RowK enc k w0 blk off d0) {A B C l : List α} {x y : α} (S : SWK enc k w0 blk off l.toArray W) (hs : l.length = d0.size) (he : l = A ++ x :: (B ++ y :: C)) (p q : Nat) (hp : p = A.length) (hq : q = A.length + 1 + B.length) :
    ∃ cp cq, Swap P enc k w0 blk off (A ++ y :: (B ++ x :: C)) p q cp cq W := by
  have hll : l.length = A.length + 1 + B.length + 1 + C.length := by rw [he]; simp; omega
  refine ⟨_, _, swap_of R S (by simpa using hs) p q (by simp; omega) (by simp; omega) (St.swp_eq (by rw [he]) hp hq)⟩
theorem swap_down {k : Nat} {enc : α → List Value} {w0 : World} {blk off : Nat} {d0 : Array α} {W : World} (R : RowK enc k w0 blk off d0) {A B C l : List α} {x y : α} (S : SWK enc k w0 blk off l.toArray W) (hs : l.length = d0.size) (he : l = A ++ x :: (B ++ y :: C)) (p q : Nat) (hp : p = A.length + 1 + B.length) (hq : q = A.length) :
    ∃ cp cq, Swap P enc k w0 blk off (A ++ y :: (B ++ x :: C)) p q cp cq W := by
  have hll : l.length = A.length + 1 + B.length + 1 + C.length := by rw [he]; simp; omega
  refine ⟨_, _, swap_of R S (by simpa using hs) p q (by simp; omega) (by simp; omega) ?_⟩
  rw [St.swp_comm _ _ _ (by simp; omega) (by simp; omega)]
  exact St.swp_eq (by rw [he]) hq hp

variable {k : Nat}
/-- The row holds l. -/
def LW (enc : α → List Value) (k : Nat) (w0 : World) (blk off N : Nat) (l : List α) (W : World) : Prop := l.length = N ∧ SWK enc k w0 blk off l.toArray W

set_option maxHeartbeats 4000000 in
set_option maxRecDepth 1000000 in
theorem sort_swapRange (L : Sst P k) (enc : α → List Value) (g : Nat) (cb : Array Value) (blk off cap N : Nat) (d0 : Array α) (w0 w : World) (R : RowK enc k w0 blk off d0) (hN : d0.size = N) (hsz : N < 4611686018427387904)
    (A X B Y C : List α) (hXY : X.length = Y.length) (S : LW enc k w0 blk off N (A ++ (X ++ (B ++ (Y ++ C)))) w) (a b n : Nat) (ha : a = A.length) (hb : b = A.length + X.length + B.length) (hn : n = X.length) :
    Calls P 115 #[.slice (some ⟨blk, off, none⟩) N cap, .int .i64 a, .int .i64 b, .int .i64 n, .func (.func g) #[] cb] w fun e w' => e = .returned (.tuple #[]) ∧ LW enc k w0 blk off N (A ++ (Y ++ (B ++ (X ++ C)))) w' := by
  have mixed := L.mixed; have t0 := L.t0; have a0 := L.a0; have z0 := L.z0; have v0 := L.v0; have t3 := L.t3; have a3 := L.a3; have z3 := L.z3; have v3 := L.v3; have t4 := L.t4; have a4 := L.a4; have z4 := L.z4; have v4 := L.v4; have tl := L.tl; have al := L.al; have zl := L.zl; have vl := L.vl; have aE := L.aE; have zE := L.zE
  have FG := L.fS
  obtain ⟨hlen, hS⟩ := S
  have hlen' : A.length + (X.length + (B.length + (Y.length + C.length))) = N := by simpa using hlen
  have S0 : Aside (SWK enc k w0 blk off (A ++ (X ++ (B ++ (Y ++ C)))).toArray w) := hS
  have HA := Lib.hid ha; have HB := Lib.hid hb; have HN := Lib.hid hn
  have hbn : b + n ≤ N := by omega
  have han : a + n ≤ b := by omega
  clear hS hlen ha hb hn
  go_enter FG, Tryz.ntmps115
  go_wp2
  go_loopg [10] n (fun kx s8 wr => ∃ (i : Nat), s8 = .int .i64 i ∧ i ≤ n ∧ n - i ≤ kx ∧ Aside (SWK enc k w0 blk off (A ++ ((Y.take i ++ X.drop i) ++ (B ++ ((X.take i ++ Y.drop i) ++ C)))).toArray wr))
  case atStart => exact ⟨0, rfl, Nat.zero_le _, Nat.le_refl _, by simpa using S0⟩
  case round =>
    clear S0
    obtain ⟨i, rfl, hi, hkx, S1⟩ := hrel
    by_cases hlt : i < n
    · have hltz : (i : Int) < (n : Int) := by omega
      have ea : ((a : Int) + (i : Int)).toNat = a + i := by omega
      have pa : (0 : Int) ≤ (a : Int) + (i : Int) := by omega
      have ba : (a : Int) + (i : Int) < (N : Int) := by omega
      have ra : IntKind.i64.wrap ((a : Int) + (i : Int)) = (a : Int) + (i : Int) := by rw [IntKind.wrap_i64]; omega
      have eb : ((b : Int) + (i : Int)).toNat = b + i := by omega
      have pb : (0 : Int) ≤ (b : Int) + (i : Int) := by omega
      have bb : (b : Int) + (i : Int) < (N : Int) := by omega
      have rb : IntKind.i64.wrap ((b : Int) + (i : Int)) = (b : Int) + (i : Int) := by rw [IntKind.wrap_i64]; omega
      have ha0 := HA.out; have hb0 := HB.out; have hn0 := HN.out
      obtain ⟨A', x, B', y, C', he, hn, h1, h2⟩ := exch_step A X B Y C hXY i (by omega)
      have hl : (A ++ ((Y.take i ++ X.drop i) ++ (B ++ ((X.take i ++ Y.drop i) ++ C)))).length = N := by simp; omega
      obtain ⟨cp, cq, SW⟩ := swap_up (P := P) R S1.out (hl.trans hN.symm) he (a + i) (b + i) (by omega) (by omega)
      have lp := SW.lp; have lq := SW.lq; have st1 := SW.st1; have st2 := SW.st2; have np := SW.np; have nq := SW.nq
      have SA : Aside _ := SW.after
      have HN2 := Lib.hid hn
      clear SW S1 hn he h1 h2 hl ha0 hb0 hn0
      go_wp2_with fail
      go_big_region_o
      clear lp lq st1 st2
      generalize (wr.drew.setCells blk (off + (a + i) * k) cq).setCells blk (off + (b + i) * k) cp = w2 at SA ⊢
      go_wp2
      go_roundg (n - (i + 1))
      case measure => omega
      case rel => exact ⟨i + 1, by go_num, by omega, Nat.le_refl _, by rw [HN2.out]; exact SA⟩
    · have hlt' : ¬ (i : Int) < (n : Int) := by omega
      go_wp2
      go_end0
      have hin : i = n := by omega
      have hn0 := HN.out
      refine ⟨rfl, by simp; omega, ?_⟩
      have := S1.out
      rw [hin, HN.out, hXY, List.take_of_length_le (Nat.le_refl _), List.drop_of_length_le (by omega), List.take_of_length_le (by omega), List.drop_of_length_le (Nat.le_refl _)] at this
      simpa using this
end Go.Proofs.YtamhpnenpoamhaaGreat

/- The library's stable sort at rules: two runs side by side change places. -/
namespace Go.Proofs.YtamhpnenpoamhaaGreat
open Go.RowKit Go.Shelf Go.Sort Go.Lib
variable {P : Program} {α : Type} [Inhabited α] {k : Nat}

set_option maxHeartbeats 4000000 in
set_option maxRecDepth 1000000 in
theorem sort_rotate (L : Sst P k) (enc : α → List Value) (g : Nat) (cb : Array Value) (blk off cap N : Nat) (d0 : Array α) (w0 w : World) (R : RowK enc k w0 blk off d0) (hN : d0.size = N) (hsz : N < 4611686018427387904)
    (A X Y C : List α) (hX : 0 < X.length) (hY : 0 < Y.length) (S : LW enc k w0 blk off N (A ++ (X ++ (Y ++ C))) w) (a m b : Nat) (ha : a = A.length) (hm : m = A.length + X.length) (hb : b = A.length + X.length + Y.length) :
    Calls P 99 #[.slice (some ⟨blk, off, none⟩) N cap, .int .i64 a, .int .i64 m, .int .i64 b, .func (.func g) #[] cb] w fun e w' => e = .returned (.tuple #[]) ∧ LW enc k w0 blk off N (A ++ (Y ++ (X ++ C))) w' := by
  have mixed := L.mixed; have t0 := L.t0; have a0 := L.a0; have z0 := L.z0; have v0 := L.v0; have t3 := L.t3; have a3 := L.a3; have z3 := L.z3; have v3 := L.v3; have t4 := L.t4; have a4 := L.a4; have z4 := L.z4; have v4 := L.v4; have tl := L.tl; have al := L.al; have zl := L.zl; have vl := L.vl; have aE := L.aE; have zE := L.zE
  have FG := L.fR
  have eS : ∀ args w, (callFunc 115 args).run P w = .ok (.enter 115 args) w := enters_of L.fS (by kernel_rfl) rfl
  have hlen : A.length + (X.length + (Y.length + C.length)) = N := by simpa using S.1
  have S0 : Aside (LW enc k w0 blk off N (A ++ (X ++ (Y ++ C))) w) := S
  have HA := Lib.hid ha; have HM := Lib.hid hm; have HB := Lib.hid hb
  have hmN : m ≤ b := by omega
  have hbN : b ≤ N := by omega
  have ham : a < m := by omega
  have hmb : m < b := by omega
  have HX := Lib.hid hX; have HY := Lib.hid hY
  clear S ha hm hb hX hY
  go_enter FG, Tryz.ntmps99
  go_wp2
  go_loopg [10, 11] (b - a) (fun kx s1 s2 wr => ∃ (A' U V C' : List α) (i j : Nat), s1 = .int .i64 i ∧ s2 = .int .i64 j ∧ i = U.length ∧ j = V.length ∧ 0 < i ∧ 0 < j ∧ A'.length + i = m ∧ i + j ≤ kx ∧ Hid (A' ++ (V ++ (U ++ C')) = A ++ (Y ++ (X ++ C))) ∧ A'.length + (i + (j + C'.length)) = N ∧ Aside (LW enc k w0 blk off N (A' ++ (U ++ (V ++ C'))) wr))
  case atStart =>
    have ha0 := HA.out; have hm0 := HM.out; have hb0 := HB.out; have hx := HX.out; have hy := HY.out
    exact ⟨A, X, Y, C, X.length, Y.length, by congr 1; omega, by congr 1; omega, rfl, rfl, hx, hy, by omega, by omega, rfl, hlen, S0⟩
  case round =>
    clear S0
    obtain ⟨A', U, V, C', i, j, rfl, rfl, hU, hV, hi0, hj0, hAm, hkx, HE, hN', S1⟩ := hrel
    have HU := Lib.hid hU; have HV := Lib.hid hV
    rcases Nat.lt_trichotomy i j with hij | hij | hij
    · have h1 : ((i : Int) != (j : Int)) = true := by rw [bne_iff_ne]; omega
      have h2 : ¬ (j : Int) < (i : Int) := by omega
      -- V parts: what is left, and i places at its end
      obtain ⟨V1, V2, hv, hv1, hv2⟩ : ∃ V1 V2, V = V1 ++ V2 ∧ V1.length = j - i ∧ V2.length = i := ⟨V.take (j - i), V.drop (j - i), (List.take_append_drop _ _).symm, by simp; omega, by simp; omega⟩
      subst hv
      have hs := sort_swapRange L enc g cb blk off cap N d0 w0 wr R hN hsz A' U V1 V2 C' (by omega) (by have := S1.out; simpa using this) (m - i) (m + j - i) i (by omega) (by omega) (by omega)
      rw [show ((m - i : Nat) : Int) = (m : Int) - i by omega, show ((m + j - i : Nat) : Int) = (m : Int) + j - i by omega] at hs
      have HS := Lib.hid hs
      clear hs S1 hU hV
      go_wp2_with (go_at_call 115; refine HS.out.mono ?_; rintro e w2 ⟨rfl, hw2⟩; have S2 := (show Aside _ from hw2); clear hw2)
      go_roundg j
      case measure => omega
      case rel =>
        refine ⟨A', V2, V1, U ++ C', i, j - i, rfl, by go_num, hv2.symm, hv1.symm, hi0, by omega, hAm, by omega, ?_, by simp; have := HU.out; omega, S2⟩
        have := HE.out
        show _ = _
        rw [← this]; simp
    · subst hij
      have h1 : ((i : Int) != (i : Int)) = false := by simp
      have hs := sort_swapRange L enc g cb blk off cap N d0 w0 wr R hN hsz A' U [] V C' (by omega) (by have := S1.out; simpa using this) (m - i) m i (by omega) (by simp; omega) (by omega)
      rw [show ((m - i : Nat) : Int) = (m : Int) - i by omega] at hs
      have HS := Lib.hid hs
      clear hs S1 hU hV
      go_wp2_with (go_at_call 115; refine HS.out.mono ?_; rintro e w2 ⟨rfl, hw2⟩; have S2 := (show Aside _ from hw2); clear hw2)
      go_end0
      refine ⟨rfl, ?_⟩
      rw [← HE.out]
      have := S2.out
      rw [List.nil_append] at this
      exact this
    · have h1 : ((i : Int) != (j : Int)) = true := by rw [bne_iff_ne]; omega
      have h2 : (j : Int) < (i : Int) := by omega
      obtain ⟨U1, U2, hu, hu1, hu2⟩ : ∃ U1 U2, U = U1 ++ U2 ∧ U1.length = j ∧ U2.length = i - j := ⟨U.take j, U.drop j, (List.take_append_drop _ _).symm, by simp; omega, by simp; omega⟩
      subst hu
      have hs := sort_swapRange L enc g cb blk off cap N d0 w0 wr R hN hsz A' U1 U2 V C' (by omega) (by have := S1.out; simpa using this) (m - i) m j (by omega) (by simp at hU; omega) (by omega)
      rw [show ((m - i : Nat) : Int) = (m : Int) - i by omega] at hs
      have HS := Lib.hid hs
      clear hs S1 hU hV
      go_wp2_with (go_at_call 115; refine HS.out.mono ?_; rintro e w2 ⟨rfl, hw2⟩; have S2 := (show Aside _ from hw2); clear hw2)
      go_roundg i
      case measure => omega
      case rel =>
        refine ⟨A' ++ V, U2, U1, C', i - j, j, by go_num, rfl, hu2.symm, hu1.symm, by omega, hj0, by simp; have := HV.out; omega, by omega, ?_, by simp; have := HV.out; omega, (show LW enc k w0 blk off N ((A' ++ V) ++ (U2 ++ (U1 ++ C'))) w2 by rw [List.append_assoc]; exact S2.out)⟩
        have := HE.out
        show _ = _
        rw [← this]; simp
end Go.Proofs.YtamhpnenpoamhaaGreat

/- The library's stable sort at rules: two sorted runs side by side are merged: one of them a single one. -/
namespace Go.Proofs.YtamhpnenpoamhaaGreat
open Go.RowKit Go.Shelf Go.Sort Go.Lib
variable {P : Program} {α : Type} [Inhabited α] {k : Nat}

/-- What the sort wants of its surroundings. -/
structure SortAt (P : Program) (k : Nat) (enc : α → List Value) (cf : α → α → Int) (g : Nat) (cb : Array Value) (blk off N : Nat) (d0 : Array α) (w0 : World) : Prop where
  L : Sst P k
  R : RowK enc k w0 blk off d0
  hN : d0.size = N
  hsz : N < 4611686018427387904
  eg : ∀ args w, (callFunc g args).run P w = .ok (.enter g args) w
  hcmp : CmpLays P g cb enc k cf blk off N w0
  O : SWO (ltOf cf)

/-- What a comparison wants. -/
theorem SortAt.facts {enc : α → List Value} {cf : α → α → Int} {g : Nat} {cb : Array Value} {blk off N : Nat} {d0 : Array α} {w0 : World} (H : SortAt P k enc cf g cb blk off N d0 w0) {l : List α} {W : World} (S : LW enc k w0 blk off N l W) (p q : Nat) (hp : p < N) (hq : q < N) :
    (∀ n os, Sem.run P (loadCellsFrom ⟨blk, off + p * k, none⟩ 0 k #[]) (grow (W.drewN n) os) = .ok (enc l.toArray[p]!).toArray (grow (W.drewN n) os)) ∧
    (∀ n os, Sem.run P (loadCellsFrom ⟨blk, off + q * k, none⟩ 0 k #[]) (grow (W.drewN n) os) = .ok (enc l.toArray[q]!).toArray (grow (W.drewN n) os)) ∧
    (∀ n os, Calls P g (#[.agg (enc l.toArray[p]!).toArray, .agg (enc l.toArray[q]!).toArray] ++ cb) (grow (W.drewN n) os) fun e w' => e = .returned (.int .i64 (cf l.toArray[p]! l.toArray[q]!)) ∧ ∃ q os', w' = grow ((grow (W.drewN n) os).drewN q) os') := by
  have hs : l.toArray.size = N := by simpa using S.1
  exact ⟨fun n os => S.2.ld H.R (hs.trans H.hN.symm) P p (by omega) n os, fun n os => S.2.ld H.R (hs.trans H.hN.symm) P q (by omega) n os, fun n os => S.2.cmp H.hcmp hs _ _ n os⟩
theorem LW.grown {enc : α → List Value} {blk off N : Nat} {w0 : World} {l : List α} {W : World} (S : LW enc k w0 blk off N l W) (n : Nat) (os : Array Obj) : LW enc k w0 blk off N l (grow (W.drewN n) os) := ⟨S.1, S.2.grown n os⟩

theorem ord_at {lt : α → α → Bool} (O : SWO lt) {D pre Y post : List α} (hD : D = pre ++ (Y ++ post)) (hs : St.Srt lt Y) : ∀ p q, pre.length ≤ p → p ≤ q → q < pre.length + Y.length → lt D.toArray[q]! D.toArray[p]! = false := by
  intro p q h1 h2 h3
  have at_ : ∀ j (hj : j < Y.length), D.toArray[pre.length + j]! = Y[j] := fun j hj => by
    refine St.at_eq (A := pre ++ Y.take j) (C := Y.drop (j + 1) ++ post) ?_ (by simp; omega)
    rw [hD]
    conv => lhs; rw [← List.take_append_drop j Y, List.drop_eq_getElem_cons hj]
    simp only [List.append_assoc, List.cons_append]
  obtain ⟨p', rfl⟩ : ∃ p', p = pre.length + p' := ⟨p - pre.length, by omega⟩
  obtain ⟨q', rfl⟩ : ∃ q', q = pre.length + q' := ⟨q - pre.length, by omega⟩
  rw [at_ p' (by omega), at_ q' (by omega)]
  rcases Nat.lt_or_ge p' q' with h | h
  · exact List.pairwise_iff_getElem.1 hs p' q' (by omega) (by omega) h
  · obtain rfl : p' = q' := by omega
    exact O.irrefl _

set_option maxHeartbeats 4000000 in
set_option maxRecDepth 1000000 in
theorem sort_mergeOne {enc : α → List Value} {cf : α → α → Int} {g : Nat} {cb : Array Value} {blk off N : Nat} {d0 : Array α} {w0 : World} (H : SortAt P k enc cf g cb blk off N d0 w0) (cap : Nat) (w : World)
    (A : List α) (x : α) (Y C : List α) (hs : St.Srt (ltOf cf) Y) (S : LW enc k w0 blk off N (A ++ ([x] ++ (Y ++ C))) w) (a m b : Nat) (ha : a = A.length) (hm : m = A.length + 1) (hb : b = A.length + 1 + Y.length) :
    Calls P 80 #[.slice (some ⟨blk, off, none⟩) N cap, .int .i64 a, .int .i64 m, .int .i64 b, .func (.func g) #[] cb] w fun e w' => e = .returned (.tuple #[]) ∧ ∃ Z, St.Srt (ltOf cf) Z ∧ St.SP (ltOf cf) Z ([x] ++ Y) ∧ LW enc k w0 blk off N (A ++ (Z ++ C)) w' := by
  have L := H.L
  have mixed := L.mixed; have t0 := L.t0; have a0 := L.a0; have z0 := L.z0; have v0 := L.v0; have t3 := L.t3; have a3 := L.a3; have z3 := L.z3; have v3 := L.v3; have t4 := L.t4; have a4 := L.a4; have z4 := L.z4; have v4 := L.v4; have tl := L.tl; have al := L.al; have zl := L.zl; have vl := L.vl; have aE := L.aE; have zE := L.zE; have tu := L.tu; have au := L.au; have zu := L.zu; have vu := L.vu
  have FG := L.fM
  have hsz := H.hsz
  have eg := H.eg
  have hlen : A.length + (1 + (Y.length + C.length)) = N := by have := S.1; simp at this; omega
  have S0 : Aside (LW enc k w0 blk off N (A ++ ([x] ++ (Y ++ C))) w) := S
  have HA := Lib.hid ha; have HM := Lib.hid hm; have HB := Lib.hid hb
  have hbN : b ≤ N := by omega
  have ham : m = a + 1 := by omega
  have hmb : m ≤ b := by omega
  have hd1 : (((m : Int) - (a : Int)) == 1) = true := by rw [beq_iff_eq]; omega
  have HAM := Lib.hid ham
  have ha1 : a < N := by omega
  -- the run is in order
  have hord : ∀ p q, m ≤ p → p ≤ q → q < b → ltOf cf (A ++ ([x] ++ (Y ++ C))).toArray[q]! (A ++ ([x] ++ (Y ++ C))).toArray[p]! = false := by
    intro p q h1 h2 h3
    exact ord_at H.O (pre := A ++ [x]) (Y := Y) (post := C) (by simp) hs p q (by simp; omega) h2 (by simp; omega)
  have HO := (show Aside _ from hord)
  have HH := Lib.hid H
  clear S ha hm hb ham hord H
  go_enter FG, Tryz.ntmps80
  go_wp2
  go_loopg [10, 11, 12] (b - m) (fun kx s1 s2 s3 wr => ∃ (i j : Nat), s1 = .int .i64 i ∧ s2 = .int .i64 j ∧ m ≤ i ∧ i ≤ j ∧ j ≤ b ∧ j - i ≤ kx ∧
    Aside (∀ q, m ≤ q → q < i → ltOf cf (A ++ ([x] ++ (Y ++ C))).toArray[q]! x = true) ∧ Aside (∀ q, j ≤ q → q < b → ltOf cf (A ++ ([x] ++ (Y ++ C))).toArray[q]! x = false) ∧ Aside (LW enc k w0 blk off N (A ++ ([x] ++ (Y ++ C))) wr))
  case atStart => exact ⟨m, b, rfl, rfl, Nat.le_refl _, hmb, Nat.le_refl _, Nat.le_refl _, fun q h1 h2 => by omega, fun q h1 h2 => by omega, S0⟩
  case round =>
    clear S0
    obtain ⟨i, j, rfl, rfl, hmi, hij, hjb, hkx, HL, HG, S1⟩ := hrel
    by_cases hlt : i < j
    · have hltz : (i : Int) < (j : Int) := by omega
      go_wp2
      obtain ⟨h, hh⟩ : ∃ h : Nat, h = (i + j) / 2 := ⟨_, rfl⟩
      have hz : ((i : Int) + (j : Int)) / 2 = (h : Int) := by omega
      rw [hz]
      have hih : i ≤ h := by omega
      have hhj : h < j := by omega
      have eh : ((h : Int)).toNat = h := by omega
      have ph : (0 : Int) ≤ (h : Int) := by omega
      have bh : (h : Int) < (N : Int) := by omega
      have rh : IntKind.i64.wrap ((h : Int)) = (h : Int) := by rw [IntKind.wrap_i64]; omega
      have ea : ((a : Int)).toNat = a := by omega
      have pa : (0 : Int) ≤ (a : Int) := by omega
      have ba : (a : Int) < (N : Int) := by omega
      have ra : IntKind.i64.wrap ((a : Int)) = (a : Int) := by rw [IntKind.wrap_i64]; omega
      obtain ⟨l1, l2, hc⟩ := HH.out.facts S1.out h a (by omega) (by omega)
      have hx : (A ++ ([x] ++ (Y ++ C))).toArray[a]! = x := St.at_eq (A := A) (C := Y ++ C) (by simp) HA.out
      obtain ⟨u, hu⟩ : ∃ u, u = (A ++ ([x] ++ (Y ++ C))).toArray[h]! := ⟨_, rfl⟩
      rw [hx] at l2 hc
      rw [← hu] at l1 hc
      have HU := Lib.hid hu
      clear hu hx hh hz
      cases hv : ltOf cf u x with
      | true =>
        have hd : decide (cf u x < 0) = true := hv
        have hv2 : cf u x < 0 := of_decide_eq_true hd
        have HL2 : Aside (∀ q, m ≤ q → q < h + 1 → ltOf cf (A ++ ([x] ++ (Y ++ C))).toArray[q]! x = true) := fun q h1 h2 => by
          by_cases hq : q < i
          · exact HL.out q h1 hq
          · cases hf : ltOf cf (A ++ ([x] ++ (Y ++ C))).toArray[q]! x with
            | true => rfl
            | false =>
              have := HH.out.O.ntrans _ _ _ (HO.out q h h1 (by omega) (by omega)) hf
              rw [← HU.out, hv] at this
              cases this
        clear hv
        go_wp2_with fail
        go_quiet_grown (first | (go_at_fn g; refine Calls.grown_of (hc _ _)))
        have S2 : Aside (LW enc k w0 blk off N (A ++ ([x] ++ (Y ++ C))) (grow (wr.drewN nq) osq)) := S1.out.grown nq osq
        clear l1 l2 hc S1 HL
        generalize grow (wr.drewN nq) osq = w2 at S2 ⊢
        go_wp2
        go_roundg (j - (h + 1))
        case measure => omega
        case rel => exact ⟨h + 1, j, by go_num, rfl, by omega, by omega, by omega, Nat.le_refl _, HL2, HG, S2⟩
      | false =>
        have hd : decide (cf u x < 0) = false := hv
        have hv2 : ¬ cf u x < 0 := of_decide_eq_false hd
        have HG2 : Aside (∀ q, h ≤ q → q < b → ltOf cf (A ++ ([x] ++ (Y ++ C))).toArray[q]! x = false) := fun q h1 h2 => by
          refine HH.out.O.ntrans _ _ _ (HO.out h q (by omega) h1 h2) ?_
          rw [← HU.out, hv]
        clear hv
        go_wp2_with fail
        go_quiet_grown (first | (go_at_fn g; refine Calls.grown_of (hc _ _)))
        have S2 : Aside (LW enc k w0 blk off N (A ++ ([x] ++ (Y ++ C))) (grow (wr.drewN nq) osq)) := S1.out.grown nq osq
        clear l1 l2 hc S1 HG
        generalize grow (wr.drewN nq) osq = w2 at S2 ⊢
        go_wp2
        go_roundg (h - i)
        case measure => omega
        case rel => exact ⟨i, h, rfl, rfl, by omega, by omega, by omega, Nat.le_refl _, HL, HG2, S2⟩
    · have hltz : ¬ (i : Int) < (j : Int) := by omega
      obtain rfl : i = j := by omega
      -- what is less, and what is not
      obtain ⟨Y1, Y2, hY, hY1⟩ : ∃ Y1 Y2, Y = Y1 ++ Y2 ∧ Y1.length = i - m := ⟨Y.take (i - m), Y.drop (i - m), (List.take_append_drop _ _).symm, by have := HM.out; have := HB.out; simp; omega⟩
      have hl1 : ∀ y ∈ Y1, ltOf cf y x = true := by
        intro y hy
        obtain ⟨q, hq, rfl⟩ := List.mem_iff_getElem.1 hy
        have := HL.out (m + q) (by omega) (by omega)
        rwa [show (A ++ ([x] ++ (Y ++ C))).toArray[m + q]! = Y1[q] from by
          have hm0 := HM.out
          have e : Y1 = Y1.take q ++ Y1[q] :: Y1.drop (q + 1) := by rw [← List.drop_eq_getElem_cons hq, List.take_append_drop]
          refine St.at_eq (A := A ++ [x] ++ Y1.take q) (C := Y1.drop (q + 1) ++ Y2 ++ C) ?_ (by simp; omega)
          rw [hY]; conv => lhs; rw [e]
          simp only [List.append_assoc, List.cons_append]] at this
      have hl2 : ∀ y ∈ Y2, ltOf cf y x = false := by
        intro y hy
        obtain ⟨q, hq, rfl⟩ := List.mem_iff_getElem.1 hy
        have hb0 := HB.out; have hm0 := HM.out
        have hyl : Y.length = Y1.length + Y2.length := by rw [hY, List.length_append]
        have := HG.out (i + q) (by omega) (by omega)
        rwa [show (A ++ ([x] ++ (Y ++ C))).toArray[i + q]! = Y2[q] from by
          have e : Y2 = Y2.take q ++ Y2[q] :: Y2.drop (q + 1) := by rw [← List.drop_eq_getElem_cons hq, List.take_append_drop]
          refine St.at_eq (A := A ++ [x] ++ Y1 ++ Y2.take q) (C := Y2.drop (q + 1) ++ C) ?_ (by simp; omega)
          rw [hY]; conv => lhs; rw [e]
          simp only [List.append_assoc, List.cons_append]] at this
      clear HL HG
      have hmm := HAM.out
      have hia : a + 1 ≤ i := by omega
      have hYl : Y1.length = i - 1 - a := by omega
      have H1 := (show Aside _ from hl1); have H2 := (show Aside _ from hl2); have HY := Lib.hid hY; have HY1 := Lib.hid hYl
      clear hl1 hl2 hY hY1 hYl hmm
      go_wp2
      go_loopg [13] (i - 1 - a) (fun kx s1 wr => ∃ (q : Nat), s1 = .int .i64 q ∧ a ≤ q ∧ q ≤ i - 1 ∧ i - 1 - q ≤ kx ∧ Aside (LW enc k w0 blk off N (A ++ (Y1.take (q - a) ++ x :: (Y1.drop (q - a) ++ (Y2 ++ C)))) wr))
      case atStart => exact ⟨a, rfl, Nat.le_refl _, by omega, Nat.le_refl _, by have := S1.out; rw [HY.out] at this; rw [Nat.sub_self]; show LW _ _ _ _ _ _ _ _; simpa using this⟩
      case round =>
        clear S1
        obtain ⟨q, rfl, haq, hqi, hkq, S2⟩ := hrel
        by_cases hqlt : q < i - 1
        · have hqz : (q : Int) < (i : Int) - 1 := by omega
          have ea : ((q : Int)).toNat = q := by omega
          have pa : (0 : Int) ≤ (q : Int) := by omega
          have ba : (q : Int) < (N : Int) := by omega
          have ra : IntKind.i64.wrap ((q : Int)) = (q : Int) := by rw [IntKind.wrap_i64]; omega
          have eb : ((q : Int) + 1).toNat = q + 1 := by omega
          have pb : (0 : Int) ≤ (q : Int) + 1 := by omega
          have bb : (q : Int) + 1 < (N : Int) := by omega
          have rb : IntKind.i64.wrap ((q : Int) + 1) = (q : Int) + 1 := by rw [IntKind.wrap_i64]; omega
          have hy1 := HY1.out
          have hqa : q - a < Y1.length := by omega
          have he : A ++ (Y1.take (q - a) ++ x :: (Y1.drop (q - a) ++ (Y2 ++ C))) = (A ++ Y1.take (q - a)) ++ x :: ([] ++ Y1[q - a] :: (Y1.drop (q - a + 1) ++ (Y2 ++ C))) := by
            rw [List.drop_eq_getElem_cons hqa]; simp only [List.append_assoc, List.cons_append, List.nil_append]
          have hnx : (A ++ Y1.take (q - a)) ++ Y1[q - a] :: ([] ++ x :: (Y1.drop (q - a + 1) ++ (Y2 ++ C))) = A ++ (Y1.take (q + 1 - a) ++ x :: (Y1.drop (q + 1 - a) ++ (Y2 ++ C))) := by
            rw [show q + 1 - a = q - a + 1 by omega, List.take_succ_eq_append_getElem hqa]; simp only [List.append_assoc, List.cons_append, List.nil_append]
          have ha0 := HA.out
          obtain ⟨cp, cq, SW⟩ := swap_up (P := P) HH.out.R S2.out.2 (S2.out.1.trans HH.out.hN.symm) he q (q + 1) (by simp; omega) (by simp; omega)
          rw [hnx] at SW
          have lp := SW.lp; have lq := SW.lq; have st1 := SW.st1; have st2 := SW.st2; have np := SW.np; have nq := SW.nq
          have SA : Aside (LW enc k w0 blk off N (A ++ (Y1.take (q + 1 - a) ++ x :: (Y1.drop (q + 1 - a) ++ (Y2 ++ C)))) _) := ⟨by rw [← hnx]; have := S2.out.1; rw [he] at this; simpa using this, SW.after⟩
          clear SW S2 hnx he hy1 hqa ha0
          go_wp2_with fail
          go_big_region_o
          clear lp lq st1 st2
          generalize (wr.drew.setCells blk (off + q * k) cq).setCells blk (off + (q + 1) * k) cp = w2 at SA ⊢
          go_wp2
          go_roundg (i - 1 - (q + 1))
          case measure => omega
          case rel => exact ⟨q + 1, by go_num, by omega, by omega, Nat.le_refl _, SA⟩
        · have hqz : ¬ (q : Int) < (i : Int) - 1 := by omega
          have hqe : q - a = Y1.length := by have := HY1.out; omega
          have HQ := Lib.hid hqe
          clear hqe
          go_wp2
          refine bodyPost_ret (v := .tuple #[]) (results_none rfl _ _ _) rfl ?_
          have hsY := hs
          rw [HY.out] at hsY
          refine ⟨rfl, Y1 ++ x :: Y2, ?_, ?_, ?_⟩
          · refine St.Srt.append hsY.left (List.pairwise_cons.2 ⟨H2.out, hsY.right⟩) ?_
            intro y hy z hz
            rcases List.mem_cons.1 hz with rfl | hz
            · cases h : ltOf cf z y with
              | false => rfl
              | true => exact absurd (HH.out.O.trans _ _ _ h (H1.out y hy)) (by rw [HH.out.O.irrefl]; simp)
            · exact hsY.cross y hy z hz
          · rw [HY.out]
            have := St.SP.append (St.SP.rotate HH.out.O (L := [x]) (R := Y1) (fun z hz y hy => by rw [List.mem_singleton.1 hz]; exact H1.out y hy)) (St.SP.refl (lt := ltOf cf) Y2)
            have := this.symm
            simpa using this
          · have := S2.out
            rw [HQ.out, List.take_of_length_le (Nat.le_refl _), List.drop_of_length_le (Nat.le_refl _)] at this
            have e : A ++ (Y1 ++ x :: ([] ++ (Y2 ++ C))) = A ++ (Y1 ++ x :: Y2 ++ C) := by simp
            rw [e] at this
            exact this
end Go.Proofs.YtamhpnenpoamhaaGreat

/- The library's stable sort at rules: two sorted runs side by side are merged: the second one a single one. -/
namespace Go.Proofs.YtamhpnenpoamhaaGreat
open Go.RowKit Go.Shelf Go.Sort Go.Lib
variable {P : Program} {α : Type} [Inhabited α] {k : Nat}

set_option maxHeartbeats 4000000 in
set_option maxRecDepth 1000000 in
theorem sort_mergeLast {enc : α → List Value} {cf : α → α → Int} {g : Nat} {cb : Array Value} {blk off N : Nat} {d0 : Array α} {w0 : World} (H : SortAt P k enc cf g cb blk off N d0 w0) (cap : Nat) (w : World)
    (A X : List α) (y : α) (C : List α) (hX : 2 ≤ X.length) (hs : St.Srt (ltOf cf) X) (S : LW enc k w0 blk off N (A ++ (X ++ ([y] ++ C))) w) (a m b : Nat) (ha : a = A.length) (hm : m = A.length + X.length) (hb : b = A.length + X.length + 1) :
    Calls P 80 #[.slice (some ⟨blk, off, none⟩) N cap, .int .i64 a, .int .i64 m, .int .i64 b, .func (.func g) #[] cb] w fun e w' => e = .returned (.tuple #[]) ∧ ∃ Z, St.Srt (ltOf cf) Z ∧ St.SP (ltOf cf) Z (X ++ [y]) ∧ LW enc k w0 blk off N (A ++ (Z ++ C)) w' := by
  have L := H.L
  have mixed := L.mixed; have t0 := L.t0; have a0 := L.a0; have z0 := L.z0; have v0 := L.v0; have t3 := L.t3; have a3 := L.a3; have z3 := L.z3; have v3 := L.v3; have t4 := L.t4; have a4 := L.a4; have z4 := L.z4; have v4 := L.v4; have tl := L.tl; have al := L.al; have zl := L.zl; have vl := L.vl; have aE := L.aE; have zE := L.zE; have tu := L.tu; have au := L.au; have zu := L.zu; have vu := L.vu
  have FG := L.fM
  have hsz := H.hsz
  have eg := H.eg
  have hlen : A.length + (X.length + (1 + C.length)) = N := by have := S.1; simp at this; omega
  have S0 : Aside (LW enc k w0 blk off N (A ++ (X ++ ([y] ++ C))) w) := S
  have HA := Lib.hid ha; have HM := Lib.hid hm; have HB := Lib.hid hb
  have hbN : b ≤ N := by omega
  have hbm : b = m + 1 := by omega
  have ham : a + 2 ≤ m := by omega
  have hd1 : (((m : Int) - (a : Int)) == 1) = false := by rw [beq_eq_false_iff_ne]; omega
  have hd2 : (((b : Int) - (m : Int)) == 1) = true := by rw [beq_iff_eq]; omega
  have HBM := Lib.hid hbm
  have hmN : m < N := by omega
  have hord : ∀ p q, a ≤ p → p ≤ q → q < m → ltOf cf (A ++ (X ++ ([y] ++ C))).toArray[q]! (A ++ (X ++ ([y] ++ C))).toArray[p]! = false := by
    intro p q h1 h2 h3
    exact ord_at H.O (pre := A) (Y := X) (post := [y] ++ C) (by simp) hs p q (by omega) h2 (by omega)
  have HO := (show Aside _ from hord)
  have HH := Lib.hid H
  clear S ha hm hb hbm hord H
  go_enter FG, Tryz.ntmps80
  go_wp2
  go_loopg [14, 15, 16] (m - a) (fun kx s1 s2 s3 wr => ∃ (i j : Nat), s1 = .int .i64 i ∧ s2 = .int .i64 j ∧ a ≤ i ∧ i ≤ j ∧ j ≤ m ∧ j - i ≤ kx ∧
    Aside (∀ q, a ≤ q → q < i → ltOf cf y (A ++ (X ++ ([y] ++ C))).toArray[q]! = false) ∧ Aside (∀ q, j ≤ q → q < m → ltOf cf y (A ++ (X ++ ([y] ++ C))).toArray[q]! = true) ∧ Aside (LW enc k w0 blk off N (A ++ (X ++ ([y] ++ C))) wr))
  case atStart => exact ⟨a, m, rfl, rfl, Nat.le_refl _, by omega, Nat.le_refl _, Nat.le_refl _, fun q h1 h2 => by omega, fun q h1 h2 => by omega, S0⟩
  case round =>
    clear S0
    obtain ⟨i, j, rfl, rfl, hmi, hij, hjb, hkx, HL, HG, S1⟩ := hrel
    by_cases hlt : i < j
    · have hltz : (i : Int) < (j : Int) := by omega
      go_wp2
      obtain ⟨h, hh⟩ : ∃ h : Nat, h = (i + j) / 2 := ⟨_, rfl⟩
      have hz : ((i : Int) + (j : Int)) / 2 = (h : Int) := by omega
      rw [hz]
      have hih : i ≤ h := by omega
      have hhj : h < j := by omega
      have eh : ((h : Int)).toNat = h := by omega
      have ph : (0 : Int) ≤ (h : Int) := by omega
      have bh : (h : Int) < (N : Int) := by omega
      have rh : IntKind.i64.wrap ((h : Int)) = (h : Int) := by rw [IntKind.wrap_i64]; omega
      have ea : ((m : Int)).toNat = m := by omega
      have pa : (0 : Int) ≤ (m : Int) := by omega
      have ba : (m : Int) < (N : Int) := by omega
      have ra : IntKind.i64.wrap ((m : Int)) = (m : Int) := by rw [IntKind.wrap_i64]; omega
      obtain ⟨l1, l2, hc⟩ := HH.out.facts S1.out m h (by omega) (by omega)
      have hx : (A ++ (X ++ ([y] ++ C))).toArray[m]! = y := St.at_eq (A := A ++ X) (C := C) (by simp) (by simp; exact HM.out)
      obtain ⟨u, hu⟩ : ∃ u, u = (A ++ (X ++ ([y] ++ C))).toArray[h]! := ⟨_, rfl⟩
      rw [hx] at l1 hc
      rw [← hu] at l2 hc
      have HU := Lib.hid hu
      clear hu hx hh hz
      cases hv : ltOf cf y u with
      | false =>
        have hd : decide (cf y u < 0) = false := hv
        have hv2 : ¬ cf y u < 0 := of_decide_eq_false hd
        have HL2 : Aside (∀ q, a ≤ q → q < h + 1 → ltOf cf y (A ++ (X ++ ([y] ++ C))).toArray[q]! = false) := fun q h1 h2 => by
          refine HH.out.O.ntrans _ _ _ ?_ (HO.out q h h1 (by omega) (by omega))
          rw [← HU.out, hv]
        clear hv
        go_wp2_with fail
        go_quiet_grown (first | (go_at_fn g; refine Calls.grown_of (hc _ _)))
        have S2 : Aside (LW enc k w0 blk off N (A ++ (X ++ ([y] ++ C))) (grow (wr.drewN nq) osq)) := S1.out.grown nq osq
        clear l1 l2 hc S1 HL
        generalize grow (wr.drewN nq) osq = w2 at S2 ⊢
        go_wp2
        go_roundg (j - (h + 1))
        case measure => omega
        case rel => exact ⟨h + 1, j, by go_num, rfl, by omega, by omega, by omega, Nat.le_refl _, HL2, HG, S2⟩
      | true =>
        have hd : decide (cf y u < 0) = true := hv
        have hv2 : cf y u < 0 := of_decide_eq_true hd
        have HG2 : Aside (∀ q, h ≤ q → q < m → ltOf cf y (A ++ (X ++ ([y] ++ C))).toArray[q]! = true) := fun q h1 h2 => by
          cases hf : ltOf cf y (A ++ (X ++ ([y] ++ C))).toArray[q]! with
          | true => rfl
          | false =>
            have := HH.out.O.ntrans _ _ _ hf (HO.out h q (by omega) h1 h2)
            rw [← HU.out, hv] at this
            cases this
        clear hv
        go_wp2_with fail
        go_quiet_grown (first | (go_at_fn g; refine Calls.grown_of (hc _ _)))
        have S2 : Aside (LW enc k w0 blk off N (A ++ (X ++ ([y] ++ C))) (grow (wr.drewN nq) osq)) := S1.out.grown nq osq
        clear l1 l2 hc S1 HG
        generalize grow (wr.drewN nq) osq = w2 at S2 ⊢
        go_wp2
        go_roundg (h - i)
        case measure => omega
        case rel => exact ⟨i, h, rfl, rfl, by omega, by omega, by omega, Nat.le_refl _, HL, HG2, S2⟩
    · have hltz : ¬ (i : Int) < (j : Int) := by omega
      obtain rfl : i = j := by omega
      obtain ⟨X1, X2, hY, hY1⟩ : ∃ X1 X2, X = X1 ++ X2 ∧ X1.length = i - a := ⟨X.take (i - a), X.drop (i - a), (List.take_append_drop _ _).symm, by have := HM.out; have := HA.out; simp; omega⟩
      have hl1 : ∀ x ∈ X1, ltOf cf y x = false := by
        intro x hx
        obtain ⟨q, hq, rfl⟩ := List.mem_iff_getElem.1 hx
        have := HL.out (a + q) (by omega) (by omega)
        rwa [show (A ++ (X ++ ([y] ++ C))).toArray[a + q]! = X1[q] from by
          have hm0 := HA.out
          have e : X1 = X1.take q ++ X1[q] :: X1.drop (q + 1) := by rw [← List.drop_eq_getElem_cons hq, List.take_append_drop]
          refine St.at_eq (A := A ++ X1.take q) (C := X1.drop (q + 1) ++ X2 ++ ([y] ++ C)) ?_ (by simp; omega)
          rw [hY]; conv => lhs; rw [e]
          simp only [List.append_assoc, List.cons_append]] at this
      have hX2 : X2.length = m - i := by have := HM.out; have := HA.out; have := congrArg List.length hY; simp at this; omega
      have hl2 : ∀ x ∈ X2, ltOf cf y x = true := by
        intro x hx
        obtain ⟨q, hq, rfl⟩ := List.mem_iff_getElem.1 hx
        have := HG.out (i + q) (by omega) (by omega)
        rwa [show (A ++ (X ++ ([y] ++ C))).toArray[i + q]! = X2[q] from by
          have hm0 := HA.out
          have e : X2 = X2.take q ++ X2[q] :: X2.drop (q + 1) := by rw [← List.drop_eq_getElem_cons hq, List.take_append_drop]
          refine St.at_eq (A := A ++ X1 ++ X2.take q) (C := X2.drop (q + 1) ++ ([y] ++ C)) ?_ (by simp; omega)
          rw [hY]; conv => lhs; rw [e]
          simp only [List.append_assoc, List.cons_append]] at this
      clear HL HG
      have H1 := (show Aside _ from hl1); have H2 := (show Aside _ from hl2); have HY := Lib.hid hY; have HY1 := Lib.hid hY1; have HX2 := Lib.hid hX2
      clear hl1 hl2 hY hY1 hX2
      go_wp2
      go_loopg [17] (m - i) (fun kx s1 wr => ∃ (q : Nat), s1 = .int .i64 q ∧ i ≤ q ∧ q ≤ m ∧ q - i ≤ kx ∧ Aside (LW enc k w0 blk off N (A ++ (X1 ++ (X2.take (q - i) ++ y :: (X2.drop (q - i) ++ C)))) wr))
      case atStart => exact ⟨m, rfl, hjb, Nat.le_refl _, Nat.le_refl _, by have := S1.out; rw [HY.out] at this; rw [List.take_of_length_le (by rw [HX2.out]; exact Nat.le_refl _), List.drop_of_length_le (by rw [HX2.out]; exact Nat.le_refl _)]; show LW _ _ _ _ _ _ _ _; simpa using this⟩
      case round =>
        clear S1
        obtain ⟨q, rfl, hiq, hqm, hkq, S2⟩ := hrel
        by_cases hqlt : i < q
        · have hqz : (i : Int) < (q : Int) := by omega
          have ea : ((q : Int)).toNat = q := by omega
          have pa : (0 : Int) ≤ (q : Int) := by omega
          have ba : (q : Int) < (N : Int) := by omega
          have ra : IntKind.i64.wrap ((q : Int)) = (q : Int) := by rw [IntKind.wrap_i64]; omega
          have eb : ((q : Int) - 1).toNat = q - 1 := by omega
          have pb : (0 : Int) ≤ (q : Int) - 1 := by omega
          have bb : (q : Int) - 1 < (N : Int) := by omega
          have rb : IntKind.i64.wrap ((q : Int) - 1) = (q : Int) - 1 := by rw [IntKind.wrap_i64]; omega
          have hx2 := HX2.out
          have hy1 := HY1.out
          have ha0 := HA.out
          have hqa : q - 1 - i < X2.length := by omega
          have he : A ++ (X1 ++ (X2.take (q - i) ++ y :: (X2.drop (q - i) ++ C))) = (A ++ X1 ++ X2.take (q - 1 - i)) ++ X2[q - 1 - i] :: ([] ++ y :: (X2.drop (q - i) ++ C)) := by
            rw [show q - i = q - 1 - i + 1 by omega, List.take_succ_eq_append_getElem hqa]; simp only [List.append_assoc, List.cons_append, List.nil_append]
          have hnx : (A ++ X1 ++ X2.take (q - 1 - i)) ++ y :: ([] ++ X2[q - 1 - i] :: (X2.drop (q - i) ++ C)) = A ++ (X1 ++ (X2.take (q - 1 - i) ++ y :: (X2.drop (q - 1 - i) ++ C))) := by
            rw [List.drop_eq_getElem_cons hqa, show q - i = q - 1 - i + 1 by omega]; simp only [List.append_assoc, List.cons_append, List.nil_append]
          obtain ⟨cp, cq, SW⟩ := swap_down (P := P) HH.out.R S2.out.2 (S2.out.1.trans HH.out.hN.symm) he q (q - 1) (by simp; omega) (by simp; omega)
          rw [hnx] at SW
          have lp := SW.lp; have lq := SW.lq; have st1 := SW.st1; have st2 := SW.st2; have np := SW.np; have nq := SW.nq
          have SA : Aside (LW enc k w0 blk off N (A ++ (X1 ++ (X2.take (q - 1 - i) ++ y :: (X2.drop (q - 1 - i) ++ C)))) _) := ⟨by rw [← hnx]; have := S2.out.1; rw [he] at this; simpa using this, SW.after⟩
          clear SW S2 hnx he hy1 hqa ha0 hx2
          go_wp2_with fail
          go_big_region_o
          clear lp lq st1 st2
          generalize (wr.drew.setCells blk (off + q * k) cq).setCells blk (off + (q - 1) * k) cp = w2 at SA ⊢
          go_wp2
          go_roundg (q - 1 - i)
          case measure => omega
          case rel => exact ⟨q - 1, by congr 1; omega, by omega, by omega, Nat.le_refl _, SA⟩
        · have hqz : ¬ (i : Int) < (q : Int) := by omega
          obtain rfl : i = q := by omega
          go_wp2
          refine bodyPost_ret (v := .tuple #[]) (results_none rfl _ _ _) rfl ?_
          have hsY := hs
          rw [HY.out] at hsY
          refine ⟨rfl, X1 ++ y :: X2, ?_, ?_, ?_⟩
          · refine St.Srt.append hsY.left (List.pairwise_cons.2 ⟨fun z hz => ?_, hsY.right⟩) ?_
            · cases h : ltOf cf z y with
              | false => rfl
              | true => exact absurd (HH.out.O.trans _ _ _ h (H2.out z hz)) (by rw [HH.out.O.irrefl]; simp)
            · intro x hx z hz
              rcases List.mem_cons.1 hz with rfl | hz
              · exact H1.out x hx
              · exact hsY.cross x hx z hz
          · rw [HY.out]
            have := St.SP.append (St.SP.refl (lt := ltOf cf) X1) (St.SP.rotate HH.out.O (L := X2) (R := [y]) (fun z hz x hx => by rw [List.mem_singleton.1 hx]; exact H2.out z hz))
            have := this.symm
            simpa using this
          · have := S2.out
            rw [Nat.sub_self, List.take_zero, List.drop_zero] at this
            have e : A ++ (X1 ++ ([] ++ y :: (X2 ++ C))) = A ++ (X1 ++ y :: X2 ++ C) := by simp
            rw [e] at this
            exact this
end Go.Proofs.YtamhpnenpoamhaaGreat

/- The library's stable sort at rules: two sorted runs side by side are merged. -/
namespace Go.Proofs.YtamhpnenpoamhaaGreat
open Go.RowKit Go.Shelf Go.Sort Go.Lib
variable {P : Program} {α : Type} [Inhabited α] {k : Nat}

theorem LW.eq {enc : α → List Value} {blk off N : Nat} {w0 : World} {l l' : List α} {W : World} (h : LW enc k w0 blk off N l W) (e : l = l') : LW enc k w0 blk off N l' W := e ▸ h

/-- A split of two runs: what stands ahead of it is not greater than what stands behind it. -/
structure Cut (lt : α → α → Bool) (X1 X2 Y1 Y2 : List α) : Prop where
  far : ∀ x ∈ X1, ∀ y ∈ Y2, lt y x = false
  near : ∀ x ∈ X2, ∀ y ∈ Y1, lt y x = true

omit [Inhabited α] in
theorem Cut.done {lt : α → α → Bool} (O : SWO lt) {X1 X2 Y1 Y2 Z1 Z2 : List α} (c : Cut lt X1 X2 Y1 Y2) (hX : St.Srt lt (X1 ++ X2)) (hY : St.Srt lt (Y1 ++ Y2)) (h1 : St.Srt lt Z1) (p1 : St.SP lt Z1 (X1 ++ Y1)) (h2 : St.Srt lt Z2) (p2 : St.SP lt Z2 (X2 ++ Y2)) :
    St.Srt lt (Z1 ++ Z2) ∧ St.SP lt (Z1 ++ Z2) (X1 ++ X2 ++ (Y1 ++ Y2)) := by
  refine ⟨St.Srt.append h1 h2 fun x hx y hy => ?_, ?_⟩
  · rcases List.mem_append.1 (p1.mem.1 hx) with hx | hx
    · rcases List.mem_append.1 (p2.mem.1 hy) with hy | hy
      · exact hX.cross x hx y hy
      · exact c.far x hx y hy
    · rcases List.mem_append.1 (p2.mem.1 hy) with hy | hy
      · cases h : lt y x with
        | false => rfl
        | true => exact absurd (O.trans _ _ _ h (c.near y hy x hx)) (by rw [O.irrefl]; simp)
      · exact hY.cross x hx y hy
  · refine (St.SP.append p1 p2).trans ?_
    have := St.SP.append (St.SP.append (St.SP.refl (lt := lt) X1) (St.SP.rotate O (L := X2) (R := Y1) c.near).symm) (St.SP.refl (lt := lt) Y2)
    simpa using this

/-- The merge's contract, for runs of n elements at most. -/
def Merges (P : Program) (k : Nat) (enc : α → List Value) (cf : α → α → Int) (g : Nat) (cb : Array Value) (blk off N cap : Nat) (w0 : World) (n : Nat) : Prop :=
  ∀ (A X Y C : List α) (w : World) (a m b : Nat), X.length + Y.length ≤ n → 0 < X.length → 0 < Y.length → St.Srt (ltOf cf) X → St.Srt (ltOf cf) Y → LW enc k w0 blk off N (A ++ (X ++ (Y ++ C))) w → a = A.length → m = A.length + X.length → b = A.length + X.length + Y.length →
    Calls P 80 #[.slice (some ⟨blk, off, none⟩) N cap, .int .i64 a, .int .i64 m, .int .i64 b, .func (.func g) #[] cb] w fun e w' => e = .returned (.tuple #[]) ∧ ∃ Z, St.Srt (ltOf cf) Z ∧ St.SP (ltOf cf) Z (X ++ Y) ∧ LW enc k w0 blk off N (A ++ (Z ++ C)) w'

/-- The split out of the search. -/
theorem cut_of {lt : α → α → Bool} (O : SWO lt) {A X Y C D : List α} (hD : D = A ++ (X ++ (Y ++ C))) (hX : St.Srt lt X) (hY : St.Srt lt Y) (a m b mid p s lo hi : Nat) (hp0 : p + 1 = mid + m) (ha : a = A.length) (hm : m = A.length + X.length) (hb : b = A.length + X.length + Y.length)
    (hlo : (lo = a ∧ hi = m ∧ m ≤ mid) ∨ (lo + b = mid + m ∧ hi = mid ∧ mid < m)) (h2 : 2 * mid ≤ a + b) (h3 : a + b ≤ 2 * mid + 1) (hl : lo ≤ s) (hh : s ≤ hi)
    (hL : ∀ c, lo ≤ c → c < s → lt D.toArray[p - c]! D.toArray[c]! = false) (hG : ∀ c, s ≤ c → c < hi → lt D.toArray[p - c]! D.toArray[c]! = true) :
    ∃ X1 X2 Y1 Y2, X = X1 ++ X2 ∧ Y = Y1 ++ Y2 ∧ X1.length = s - a ∧ X2.length = m - s ∧ Y1.length = mid - s ∧ Y2.length = b - (mid + m - s) ∧ a ≤ s ∧ s ≤ m ∧ s ≤ mid ∧ mid + m - s ≤ b ∧ Cut lt X1 X2 Y1 Y2 := by
  have hX' : D = A ++ (X ++ (Y ++ C)) := hD
  have hY' : D = (A ++ X) ++ (Y ++ C) := by rw [hD]; simp
  have ox := ord_at O hX' hX
  have oy := ord_at O hY' hY
  have hAX : (A ++ X).length = A.length + X.length := List.length_append
  rw [hAX] at oy
  have hbs : a ≤ s ∧ s ≤ m ∧ s ≤ mid ∧ mid + m - s ≤ b := by omega
  refine ⟨X.take (s - a), X.drop (s - a), Y.take (mid - s), Y.drop (mid - s), (List.take_append_drop _ _).symm, (List.take_append_drop _ _).symm, by simp; omega, by simp; omega, by simp; omega, by simp; omega, hbs.1, hbs.2.1, hbs.2.2.1, hbs.2.2.2, ?_, ?_⟩
  · intro x hx y hy
    obtain ⟨i, hi', rfl⟩ := List.mem_iff_getElem.1 hx
    obtain ⟨j, hj', rfl⟩ := List.mem_iff_getElem.1 hy
    simp only [List.length_take, List.length_drop] at hi' hj'
    rw [List.getElem_take, List.getElem_drop]
    have ex : D.toArray[a + i]! = X[i]'(by omega) := by
      refine St.at_eq (A := A ++ X.take i) (C := X.drop (i + 1) ++ (Y ++ C)) ?_ (by simp; omega)
      rw [hX']; conv => lhs; rw [← List.take_append_drop i X, List.drop_eq_getElem_cons (show i < X.length by omega)]
      simp only [List.append_assoc, List.cons_append]
    have ey : D.toArray[m + (mid - s + j)]! = Y[mid - s + j]'(by omega) := by
      refine St.at_eq (A := A ++ X ++ Y.take (mid - s + j)) (C := Y.drop (mid - s + j + 1) ++ C) ?_ (by simp; omega)
      rw [hY']; conv => lhs; rw [← List.take_append_drop (mid - s + j) Y, List.drop_eq_getElem_cons (show mid - s + j < Y.length by omega)]
      simp only [List.append_assoc, List.cons_append]
    rw [← ex, ← ey]
    have hp := hL (s - 1) (by omega) (by omega)
    rw [show p - (s - 1) = mid + m - s by omega] at hp
    exact O.ntrans _ _ _ (oy (mid + m - s) (m + (mid - s + j)) (by omega) (by omega) (by omega)) (O.ntrans _ _ _ hp (ox (a + i) (s - 1) (by omega) (by omega) (by omega)))
  · intro x hx y hy
    obtain ⟨i, hi', rfl⟩ := List.mem_iff_getElem.1 hx
    obtain ⟨j, hj', rfl⟩ := List.mem_iff_getElem.1 hy
    simp only [List.length_take, List.length_drop] at hi' hj'
    rw [List.getElem_take, List.getElem_drop]
    have ex : D.toArray[a + (s - a + i)]! = X[s - a + i]'(by omega) := by
      refine St.at_eq (A := A ++ X.take (s - a + i)) (C := X.drop (s - a + i + 1) ++ (Y ++ C)) ?_ (by simp; omega)
      rw [hX']; conv => lhs; rw [← List.take_append_drop (s - a + i) X, List.drop_eq_getElem_cons (show s - a + i < X.length by omega)]
      simp only [List.append_assoc, List.cons_append]
    have ey : D.toArray[m + j]! = Y[j]'(by omega) := by
      refine St.at_eq (A := A ++ X ++ Y.take j) (C := Y.drop (j + 1) ++ C) ?_ (by simp; omega)
      rw [hY']; conv => lhs; rw [← List.take_append_drop j Y, List.drop_eq_getElem_cons (show j < Y.length by omega)]
      simp only [List.append_assoc, List.cons_append]
    rw [← ex, ← ey]
    have hp := hG s (Nat.le_refl _) (by omega)
    cases h : lt D.toArray[m + j]! D.toArray[a + (s - a + i)]! with
    | true => rfl
    | false =>
      have q1 := oy (m + j) (p - s) (by omega) (by omega) (by omega)
      have q2 := ox s (a + (s - a + i)) (by omega) (by omega) (by omega)
      rw [O.ntrans _ _ _ (O.ntrans _ _ _ q1 h) q2] at hp
      cases hp
end Go.Proofs.YtamhpnenpoamhaaGreat

/- The library's stable sort at rules: two sorted runs side by side are merged: two runs of two elements or more. -/
namespace Go.Proofs.YtamhpnenpoamhaaGreat
open Go.RowKit Go.Shelf Go.Sort Go.Lib
variable {P : Program} {α : Type} [Inhabited α] {k : Nat}

set_option maxHeartbeats 8000000 in
set_option maxRecDepth 1000000 in
theorem sort_mergeGen {enc : α → List Value} {cf : α → α → Int} {g : Nat} {cb : Array Value} {blk off N : Nat} {d0 : Array α} {w0 : World} (H : SortAt P k enc cf g cb blk off N d0 w0) (cap n : Nat) (IH : Merges P k enc cf g cb blk off N cap w0 n) (w : World)
    (A X Y C : List α) (hX2 : 2 ≤ X.length) (hY2 : 2 ≤ Y.length) (hn : X.length + Y.length ≤ n + 1) (hsX : St.Srt (ltOf cf) X) (hsY : St.Srt (ltOf cf) Y) (S : LW enc k w0 blk off N (A ++ (X ++ (Y ++ C))) w) (a m b : Nat) (ha : a = A.length) (hm : m = A.length + X.length) (hb : b = A.length + X.length + Y.length) :
    Calls P 80 #[.slice (some ⟨blk, off, none⟩) N cap, .int .i64 a, .int .i64 m, .int .i64 b, .func (.func g) #[] cb] w fun e w' => e = .returned (.tuple #[]) ∧ ∃ Z, St.Srt (ltOf cf) Z ∧ St.SP (ltOf cf) Z (X ++ Y) ∧ LW enc k w0 blk off N (A ++ (Z ++ C)) w' := by
  have L := H.L
  have mixed := L.mixed; have t0 := L.t0; have a0 := L.a0; have z0 := L.z0; have v0 := L.v0; have t3 := L.t3; have a3 := L.a3; have z3 := L.z3; have v3 := L.v3; have t4 := L.t4; have a4 := L.a4; have z4 := L.z4; have v4 := L.v4; have tl := L.tl; have al := L.al; have zl := L.zl; have vl := L.vl; have aE := L.aE; have zE := L.zE; have tu := L.tu; have au := L.au; have zu := L.zu; have vu := L.vu
  have FG := L.fM
  have eM : ∀ args w, (callFunc 80 args).run P w = .ok (.enter 80 args) w := enters_of L.fM (by kernel_rfl) rfl
  have eR : ∀ args w, (callFunc 99 args).run P w = .ok (.enter 99 args) w := enters_of L.fR (by kernel_rfl) rfl
  have hsz := H.hsz
  have eg := H.eg
  have hlen : A.length + (X.length + (Y.length + C.length)) = N := by have := S.1; simp at this; omega
  have S0 : Aside (LW enc k w0 blk off N (A ++ (X ++ (Y ++ C))) w) := S
  have HA := Lib.hid ha; have HM := Lib.hid hm; have HB := Lib.hid hb
  have hbN : b ≤ N := by omega
  have ham : a + 2 ≤ m := by omega
  have hmb : m + 2 ≤ b := by omega
  have hd1 : (((m : Int) - (a : Int)) == 1) = false := by rw [beq_eq_false_iff_ne]; omega
  have hd2 : (((b : Int) - (m : Int)) == 1) = false := by rw [beq_eq_false_iff_ne]; omega
  have hmN : m < N := by omega
  have HO1 := (show Aside _ from ord_at H.O (pre := A) (Y := X) (post := Y ++ C) (D := (A ++ (X ++ (Y ++ C)))) rfl hsX)
  have HO2 := (show Aside _ from ord_at H.O (pre := A ++ X) (Y := Y) (post := C) (D := (A ++ (X ++ (Y ++ C)))) (by simp) hsY)
  have HAX := Lib.hid (show (A ++ X).length = A.length + X.length from List.length_append)
  have HH := Lib.hid H
  have HIH := (show Aside _ from IH); clear IH
  obtain ⟨mid, hmid⟩ : ∃ mid : Nat, mid = (a + b) / 2 := ⟨_, rfl⟩
  have hz : ((a : Int) + (b : Int)) / 2 = (mid : Int) := by omega
  have HZ := Lib.hid hz
  have hm1 : 2 * mid ≤ a + b := by omega
  have hm2 : a + b ≤ 2 * mid + 1 := by omega
  have HSX := Lib.hid hsX; have HSY := Lib.hid hsY
  clear S ha hm hb H hmid hsX hsY
  have hmidz : ((a : Int) + (b : Int)) / 2 = (mid : Int) := hz
  by_cases hcm : mid < m
  · have hcz : ((a : Int) + (b : Int)) / 2 < (m : Int) := by omega
    clear hz hmidz
    go_enter FG, Tryz.ntmps80
    go_wp2
    rw [HZ.out]
    obtain ⟨lo, hlo⟩ : ∃ lo : Nat, lo = mid + m - b := ⟨_, rfl⟩
    obtain ⟨hi, hhi⟩ : ∃ hi : Nat, hi = mid := ⟨_, rfl⟩
    have hlh : (lo = a ∧ hi = m ∧ m ≤ mid) ∨ (lo + b = mid + m ∧ hi = mid ∧ mid < m) := by omega
    have hle : lo ≤ hi := by omega
    have hloz : (mid : Int) + (m : Int) - (b : Int) = (lo : Int) := by omega
    have hhiz : (mid : Int) = (hi : Int) := by omega
    have HLZ := Lib.hid hloz; have HHZ := Lib.hid hhiz
    clear hlo hhi hloz hhiz hcz
    obtain ⟨p, hp0⟩ : ∃ p : Nat, p + 1 = mid + m := ⟨mid + m - 1, by omega⟩
    have hpz : (mid : Int) + (m : Int) - 1 = (p : Int) := by omega
    rw [hpz]
    clear hpz
    go_loopg [20, 21, 23] (hi - lo) (fun kx s1 s2 s3 wr => ∃ (i j : Nat), s1 = .int .i64 i ∧ s2 = .int .i64 j ∧ lo ≤ i ∧ i ≤ j ∧ j ≤ hi ∧ j - i ≤ kx ∧
      Aside (∀ c, lo ≤ c → c < i → ltOf cf (A ++ (X ++ (Y ++ C))).toArray[p - c]! (A ++ (X ++ (Y ++ C))).toArray[c]! = false) ∧ Aside (∀ c, j ≤ c → c < hi → ltOf cf (A ++ (X ++ (Y ++ C))).toArray[p - c]! (A ++ (X ++ (Y ++ C))).toArray[c]! = true) ∧ Aside (LW enc k w0 blk off N (A ++ (X ++ (Y ++ C))) wr))
    case atStart => exact ⟨lo, hi, by first | rfl | (rw [HLZ.out]) | (congr 1; omega), by first | rfl | (rw [HHZ.out]) | (congr 1; omega), Nat.le_refl _, hle, Nat.le_refl _, Nat.le_refl _, fun q h1 h2 => by omega, fun q h1 h2 => by omega, S0⟩
    case round =>
      clear S0
      obtain ⟨i, j, rfl, rfl, hmi, hij, hjb, hkx, HL, HG, S1⟩ := hrel
      by_cases hlt : i < j
      · have hltz : (i : Int) < (j : Int) := by omega
        go_wp2
        obtain ⟨h, hh⟩ : ∃ h : Nat, h = (i + j) / 2 := ⟨_, rfl⟩
        have hz : ((i : Int) + (j : Int)) / 2 = (h : Int) := by omega
        rw [hz]
        have hih : i ≤ h := by omega
        have hhj : h < j := by omega
        have hhm : h < m := by omega
        have hah : a ≤ h := by omega
        have hpm : m ≤ p - h := by omega
        have hpb : p - h < b := by omega
        have eh : ((h : Int)).toNat = h := by omega
        have ph : (0 : Int) ≤ (h : Int) := by omega
        have bh : (h : Int) < (N : Int) := by omega
        have rh : IntKind.i64.wrap ((h : Int)) = (h : Int) := by rw [IntKind.wrap_i64]; omega
        have ea : ((p : Int) - (h : Int)).toNat = p - h := by omega
        have pa : (0 : Int) ≤ (p : Int) - (h : Int) := by omega
        have ba : (p : Int) - (h : Int) < (N : Int) := by omega
        have pa2 : (h : Int) ≤ (p : Int) := by omega
        have ba2 : (p : Int) < (N : Int) + (h : Int) := by omega
        have ra : IntKind.i64.wrap ((p : Int) - (h : Int)) = (p : Int) - (h : Int) := by rw [IntKind.wrap_i64]; omega
        obtain ⟨l1, l2, hc⟩ := HH.out.facts S1.out (p - h) h (by omega) (by omega)
        obtain ⟨u, hu⟩ : ∃ u, u = (A ++ (X ++ (Y ++ C))).toArray[h]! := ⟨_, rfl⟩
        obtain ⟨v, hv⟩ : ∃ v, v = (A ++ (X ++ (Y ++ C))).toArray[p - h]! := ⟨_, rfl⟩
        rw [← hu] at l2 hc
        rw [← hv] at l1 hc
        have HU := Lib.hid hu; have HV := Lib.hid hv
        -- once true it stays so
        have hmono : ∀ c c', lo ≤ c → c ≤ c' → c' < hi → ltOf cf (A ++ (X ++ (Y ++ C))).toArray[p - c']! (A ++ (X ++ (Y ++ C))).toArray[c']! = false → ltOf cf (A ++ (X ++ (Y ++ C))).toArray[p - c]! (A ++ (X ++ (Y ++ C))).toArray[c]! = false := fun c c' h1 h2 h3 h4 => by
          have ha0 := HA.out; have hm0 := HM.out; have hb0 := HB.out; have hax := HAX.out
          have q1 := HO2.out (p - c') (p - c) (by omega) (by omega) (by omega)
          have q2 := HO1.out c c' (by omega) (by omega) (by omega)
          exact HH.out.O.ntrans _ _ _ (HH.out.O.ntrans _ _ _ q1 h4) q2
        have HMO := (show Aside _ from hmono)
        clear hu hv hh hz hmono
        cases hvv : ltOf cf v u with
        | false =>
          have hd : decide (cf v u < 0) = false := hvv
          have hv2 : ¬ cf v u < 0 := of_decide_eq_false hd
          have HL2 : Aside (∀ c, lo ≤ c → c < h + 1 → ltOf cf (A ++ (X ++ (Y ++ C))).toArray[p - c]! (A ++ (X ++ (Y ++ C))).toArray[c]! = false) := fun c h1 h2 => by
            refine HMO.out c h h1 (by omega) (by omega) ?_
            rw [← HU.out, ← HV.out, hvv]
          clear hvv
          go_wp2_with fail
          go_quiet_grown (first | (go_at_fn g; refine Calls.grown_of (hc _ _)))
          have S2 : Aside (LW enc k w0 blk off N (A ++ (X ++ (Y ++ C))) (grow (wr.drewN nq) osq)) := S1.out.grown nq osq
          clear l1 l2 hc S1 HL
          generalize grow (wr.drewN nq) osq = w2 at S2 ⊢
          go_wp2
          go_roundg (j - (h + 1))
          case measure => omega
          case rel => exact ⟨h + 1, j, by go_num, rfl, by omega, by omega, by omega, Nat.le_refl _, HL2, HG, S2⟩
        | true =>
          have hd : decide (cf v u < 0) = true := hvv
          have hv2 : cf v u < 0 := of_decide_eq_true hd
          have HG2 : Aside (∀ c, h ≤ c → c < hi → ltOf cf (A ++ (X ++ (Y ++ C))).toArray[p - c]! (A ++ (X ++ (Y ++ C))).toArray[c]! = true) := fun c h1 h2 => by
            cases hf : ltOf cf (A ++ (X ++ (Y ++ C))).toArray[p - c]! (A ++ (X ++ (Y ++ C))).toArray[c]! with
            | true => rfl
            | false =>
              have := HMO.out h c (by omega) h1 h2 hf
              rw [← HU.out, ← HV.out, hvv] at this
              cases this
          clear hvv
          go_wp2_with fail
          go_quiet_grown (first | (go_at_fn g; refine Calls.grown_of (hc _ _)))
          have S2 : Aside (LW enc k w0 blk off N (A ++ (X ++ (Y ++ C))) (grow (wr.drewN nq) osq)) := S1.out.grown nq osq
          clear l1 l2 hc S1 HG
          generalize grow (wr.drewN nq) osq = w2 at S2 ⊢
          go_wp2
          go_roundg (h - i)
          case measure => omega
          case rel => exact ⟨i, h, rfl, rfl, by omega, by omega, by omega, Nat.le_refl _, HL, HG2, S2⟩
      · have hltz : ¬ (i : Int) < (j : Int) := by omega
        obtain rfl : i = j := by omega
        obtain ⟨X1, X2, Y1, Y2, hX, hY, hx1, hx2, hy1, hy2, hai, him, himid, hib, hcut⟩ := cut_of HH.out.O (D := (A ++ (X ++ (Y ++ C)))) rfl HSX.out HSY.out a m b mid p i lo hi hp0 HA.out HM.out HB.out hlh hm1 hm2 hmi hjb HL.out HG.out
        clear HL HG
        have HXX := Lib.hid hX; have HYY := Lib.hid hY; have HC := Lib.hid hcut
        have hXl : X.length = X1.length + X2.length := by rw [hX]; exact List.length_append
        have hYl : Y.length = Y1.length + Y2.length := by rw [hY]; exact List.length_append
        have h10 : (i : Int) ≤ (mid : Int) := by omega
        have h11 : (mid : Int) + (m : Int) - (i : Int) ≤ (b : Int) := by omega
        have S1' : Aside (LW enc k w0 blk off N (A ++ ((X1 ++ X2) ++ ((Y1 ++ Y2) ++ C))) wr) := by rw [← hX, ← hY]; exact S1
        have HSX1 := Lib.hid (show St.Srt (ltOf cf) (X1 ++ X2) by rw [← hX]; exact HSX.out)
        have HSY1 := Lib.hid (show St.Srt (ltOf cf) (Y1 ++ Y2) by rw [← hY]; exact HSY.out)
        clear S1 hX hY hcut
        have ha0 := HA.out; have hm0 := HM.out; have hb0 := HB.out
        have K0 := Lib.hid (fun (w2 : World) (hw : LW enc k w0 blk off N (A ++ ((X1 ++ X2) ++ ((Y1 ++ Y2) ++ C))) w2) (h2 : 0 < X2.length) (h3 : 0 < Y1.length) => sort_rotate HH.out.L enc g cb blk off cap N d0 w0 w2 HH.out.R HH.out.hN hsz (A ++ X1) X2 Y1 (Y2 ++ C) h2 h3 (by simpa using hw) i m (mid + m - i) (by simp; omega) (by simp; omega) (by simp; omega))
        have K1 := Lib.hid (fun (w2 : World) (hw : LW enc k w0 blk off N (A ++ (X1 ++ (Y1 ++ (X2 ++ (Y2 ++ C))))) w2) (h2 : 0 < X1.length) (h3 : 0 < Y1.length) => HIH.out A X1 Y1 (X2 ++ (Y2 ++ C)) w2 a i mid (by omega) h2 h3 HSX1.out.left HSY1.out.left hw (by omega) (by omega) (by omega))
        have K2 := Lib.hid (fun (Z1 : List α) (w2 : World) (h1 : Z1.length = X1.length + Y1.length) (hw : LW enc k w0 blk off N (A ++ (Z1 ++ (X2 ++ (Y2 ++ C)))) w2) (h2 : 0 < X2.length) (h3 : 0 < Y2.length) => HIH.out (A ++ Z1) X2 Y2 C w2 mid (mid + m - i) b (by omega) h2 h3 HSX1.out.right HSY1.out.right (by simpa using hw) (by simp; omega) (by simp; omega) (by simp; omega))
        have hez : ((mid + m - i : Nat) : Int) = (mid : Int) + (m : Int) - (i : Int) := by omega
        rw [hez] at K0 K2
        clear hez
        have E1 := Lib.hid (show X1.length = 0 → St.Srt (ltOf cf) (X1 ++ Y1) from fun e => by rw [List.eq_nil_of_length_eq_zero e, List.nil_append]; exact HSY1.out.left)
        have E2 := Lib.hid (show Y1.length = 0 → St.Srt (ltOf cf) (X1 ++ Y1) from fun e => by rw [List.eq_nil_of_length_eq_zero e, List.append_nil]; exact HSX1.out.left)
        have E3 := Lib.hid (show X2.length = 0 → St.Srt (ltOf cf) (X2 ++ Y2) from fun e => by rw [List.eq_nil_of_length_eq_zero e, List.nil_append]; exact HSY1.out.right)
        have E4 := Lib.hid (show Y2.length = 0 → St.Srt (ltOf cf) (X2 ++ Y2) from fun e => by rw [List.eq_nil_of_length_eq_zero e, List.append_nil]; exact HSX1.out.right)
        have EL := Lib.hid (fun (Z : List α) (h : St.SP (ltOf cf) Z (X1 ++ Y1)) => (show Z.length = X1.length + Y1.length by rw [h.length, List.length_append]))
        clear ha0 hm0 hb0
        rcases Nat.eq_zero_or_pos X2.length with e2 | e2
        · -- nothing behind in the first run
          have S2 : Aside (LW enc k w0 blk off N (A ++ (X1 ++ (Y1 ++ (X2 ++ (Y2 ++ C))))) wr) := LW.eq S1'.out (by rw [List.eq_nil_of_length_eq_zero e2]; simp)
          have n1 : ¬ (i : Int) < (m : Int) := by omega
          have n2 : (a : Int) < (i : Int) := by omega
          have n3 : ¬ (mid : Int) < (mid : Int) + (m : Int) - (i : Int) := by omega
          rcases Nat.eq_zero_or_pos Y1.length with f1 | f1
          · have n4 : ¬ (i : Int) < (mid : Int) := by omega
            go_wp2
            all_goals (
              go_end0
              obtain ⟨q1, q2⟩ := HC.out.done HH.out.O HSX1.out HSY1.out (E2.out f1) (St.SP.refl (lt := ltOf cf) _) (E3.out e2) (St.SP.refl (lt := ltOf cf) _)
              refine ⟨rfl, (X1 ++ Y1) ++ (X2 ++ Y2), q1, by rw [HXX.out, HYY.out]; exact q2, ?_⟩
              exact LW.eq S2.out (by simp))
          · have n4 : (i : Int) < (mid : Int) := by omega
            go_wp2_with (first | (go_at_call 80; refine (K1.out _ S2.out (by omega) (by omega)).mono ?_; rintro e w3 ⟨rfl, Z1, g1, g2, g3⟩; have G1 := Lib.hid (And.intro g1 g2); have S3 := (show Aside _ from g3); clear g1 g2 g3))
            all_goals (
              go_end0
              obtain ⟨q1, q2⟩ := HC.out.done HH.out.O HSX1.out HSY1.out G1.out.1 G1.out.2 (E3.out e2) (St.SP.refl (lt := ltOf cf) _)
              refine ⟨rfl, Z1 ++ (X2 ++ Y2), q1, by rw [HXX.out, HYY.out]; exact q2, ?_⟩
              exact LW.eq S3.out (by simp))
        · have n1 : (i : Int) < (m : Int) := by omega
          have n3 : (mid : Int) < (mid : Int) + (m : Int) - (i : Int) := by omega
          rcases Nat.eq_zero_or_pos Y1.length with f1 | f1
          · have S2 : Aside (LW enc k w0 blk off N (A ++ (X1 ++ (Y1 ++ (X2 ++ (Y2 ++ C))))) wr) := LW.eq S1'.out (by rw [List.eq_nil_of_length_eq_zero f1]; simp)
            have S3 : Aside (LW enc k w0 blk off N (A ++ ((X1 ++ Y1) ++ (X2 ++ (Y2 ++ C)))) wr) := LW.eq S2.out (by simp)
            have n2 : ¬ (m : Int) < (mid : Int) + (m : Int) - (i : Int) := by omega
            have n4 : ¬ (i : Int) < (mid : Int) := by omega
            have n5 : (mid : Int) + (m : Int) - (i : Int) < (b : Int) := by omega
            by_cases n6 : (a : Int) < (i : Int)
            · skip
              go_wp2_with (first | (go_at_call 80; refine (K2.out (X1 ++ Y1) _ List.length_append S3.out (by omega) (by omega)).mono ?_; rintro e w4 ⟨rfl, Z2, g1, g2, g3⟩; have G2 := Lib.hid (And.intro g1 g2); have S4 := (show Aside _ from g3); clear g1 g2 g3))
              all_goals (
                go_end0
                obtain ⟨q1, q2⟩ := HC.out.done HH.out.O HSX1.out HSY1.out (E2.out f1) (St.SP.refl (lt := ltOf cf) _) G2.out.1 G2.out.2
                refine ⟨rfl, (X1 ++ Y1) ++ Z2, q1, by rw [HXX.out, HYY.out]; exact q2, ?_⟩
                exact LW.eq S4.out (by simp))
            · skip
              go_wp2_with (first | (go_at_call 80; refine (K2.out (X1 ++ Y1) _ List.length_append S3.out (by omega) (by omega)).mono ?_; rintro e w4 ⟨rfl, Z2, g1, g2, g3⟩; have G2 := Lib.hid (And.intro g1 g2); have S4 := (show Aside _ from g3); clear g1 g2 g3))
              all_goals (
                go_end0
                obtain ⟨q1, q2⟩ := HC.out.done HH.out.O HSX1.out HSY1.out (E2.out f1) (St.SP.refl (lt := ltOf cf) _) G2.out.1 G2.out.2
                refine ⟨rfl, (X1 ++ Y1) ++ Z2, q1, by rw [HXX.out, HYY.out]; exact q2, ?_⟩
                exact LW.eq S4.out (by simp))
          · have n2 : (m : Int) < (mid : Int) + (m : Int) - (i : Int) := by omega
            have n4 : (i : Int) < (mid : Int) := by omega
            rcases Nat.eq_zero_or_pos X1.length with e1 | e1
            · have n6 : ¬ (a : Int) < (i : Int) := by omega
              rcases Nat.eq_zero_or_pos Y2.length with f2 | f2
              · have n5 : ¬ (mid : Int) + (m : Int) - (i : Int) < (b : Int) := by omega
                go_wp2_with (first | (go_at_call 99; refine (K0.out _ S1'.out (by omega) (by omega)).mono ?_; rintro e w2 ⟨rfl, g3⟩; have S2 : Aside (LW enc k w0 blk off N (A ++ (X1 ++ (Y1 ++ (X2 ++ (Y2 ++ C))))) w2) := LW.eq g3 (by simp); clear g3))
                all_goals (
                  go_end0
                  obtain ⟨q1, q2⟩ := HC.out.done HH.out.O HSX1.out HSY1.out (E1.out e1) (St.SP.refl (lt := ltOf cf) _) (E4.out f2) (St.SP.refl (lt := ltOf cf) _)
                  refine ⟨rfl, (X1 ++ Y1) ++ (X2 ++ Y2), q1, by rw [HXX.out, HYY.out]; exact q2, ?_⟩
                  exact LW.eq S2.out (by simp))
              · have n5 : (mid : Int) + (m : Int) - (i : Int) < (b : Int) := by omega
                go_wp2_with (first | (go_at_call 99; refine (K0.out _ S1'.out (by omega) (by omega)).mono ?_; rintro e w2 ⟨rfl, g3⟩; have S2 : Aside (LW enc k w0 blk off N (A ++ (X1 ++ (Y1 ++ (X2 ++ (Y2 ++ C))))) w2) := LW.eq g3 (by simp); clear g3; have S3 : Aside (LW enc k w0 blk off N (A ++ ((X1 ++ Y1) ++ (X2 ++ (Y2 ++ C)))) w2) := LW.eq S2.out (by simp)) | (go_at_call 80; refine (K2.out (X1 ++ Y1) _ List.length_append S3.out (by omega) (by omega)).mono ?_; rintro e w4 ⟨rfl, Z2, g1, g2, g3⟩; have G2 := Lib.hid (And.intro g1 g2); have S4 := (show Aside _ from g3); clear g1 g2 g3))
                all_goals (
                  go_end0
                  obtain ⟨q1, q2⟩ := HC.out.done HH.out.O HSX1.out HSY1.out (E1.out e1) (St.SP.refl (lt := ltOf cf) _) G2.out.1 G2.out.2
                  refine ⟨rfl, (X1 ++ Y1) ++ Z2, q1, by rw [HXX.out, HYY.out]; exact q2, ?_⟩
                  exact LW.eq S4.out (by simp))
            · have n6 : (a : Int) < (i : Int) := by omega
              rcases Nat.eq_zero_or_pos Y2.length with f2 | f2
              · have n5 : ¬ (mid : Int) + (m : Int) - (i : Int) < (b : Int) := by omega
                go_wp2_with (first | (go_at_call 99; refine (K0.out _ S1'.out (by omega) (by omega)).mono ?_; rintro e w2 ⟨rfl, g3⟩; have S2 : Aside (LW enc k w0 blk off N (A ++ (X1 ++ (Y1 ++ (X2 ++ (Y2 ++ C))))) w2) := LW.eq g3 (by simp); clear g3) | (go_at_call 80; refine (K1.out _ S2.out (by omega) (by omega)).mono ?_; rintro e w3 ⟨rfl, Z1, g1, g2, g3⟩; have G1 := Lib.hid (And.intro g1 g2); have S3 := (show Aside _ from g3); clear g1 g2 g3))
                all_goals (
                  go_end0
                  obtain ⟨q1, q2⟩ := HC.out.done HH.out.O HSX1.out HSY1.out G1.out.1 G1.out.2 (E4.out f2) (St.SP.refl (lt := ltOf cf) _)
                  refine ⟨rfl, Z1 ++ (X2 ++ Y2), q1, by rw [HXX.out, HYY.out]; exact q2, ?_⟩
                  exact LW.eq S3.out (by simp))
              · have n5 : (mid : Int) + (m : Int) - (i : Int) < (b : Int) := by omega
                go_wp2_with (first | (go_at_call 99; refine (K0.out _ S1'.out (by omega) (by omega)).mono ?_; rintro e w2 ⟨rfl, g3⟩; have S2 : Aside (LW enc k w0 blk off N (A ++ (X1 ++ (Y1 ++ (X2 ++ (Y2 ++ C))))) w2) := LW.eq g3 (by simp); clear g3) | (go_at_call 80; refine (K1.out _ S2.out (by omega) (by omega)).mono ?_; rintro e w3 ⟨rfl, Z1, g1, g2, g3⟩; have G1 := Lib.hid (And.intro g1 g2); have S3 := (show Aside _ from g3); clear g1 g2 g3) | (go_at_call 80; refine (K2.out Z1 _ (EL.out _ G1.out.2) S3.out (by omega) (by omega)).mono ?_; rintro e w4 ⟨rfl, Z2, g1, g2, g3⟩; have G2 := Lib.hid (And.intro g1 g2); have S4 := (show Aside _ from g3); clear g1 g2 g3))
                all_goals (
                  go_end0
                  obtain ⟨q1, q2⟩ := HC.out.done HH.out.O HSX1.out HSY1.out G1.out.1 G1.out.2 G2.out.1 G2.out.2
                  refine ⟨rfl, Z1 ++ Z2, q1, by rw [HXX.out, HYY.out]; exact q2, ?_⟩
                  exact LW.eq S4.out (by simp))
  · have hcz : ¬ ((a : Int) + (b : Int)) / 2 < (m : Int) := by omega
    clear hz hmidz
    go_enter FG, Tryz.ntmps80
    go_wp2
    rw [HZ.out]
    obtain ⟨lo, hlo⟩ : ∃ lo : Nat, lo = a := ⟨_, rfl⟩
    obtain ⟨hi, hhi⟩ : ∃ hi : Nat, hi = m := ⟨_, rfl⟩
    have hlh : (lo = a ∧ hi = m ∧ m ≤ mid) ∨ (lo + b = mid + m ∧ hi = mid ∧ mid < m) := by omega
    have hle : lo ≤ hi := by omega
    have hloz : (a : Int) = (lo : Int) := by omega
    have hhiz : (m : Int) = (hi : Int) := by omega
    have HLZ := Lib.hid hloz; have HHZ := Lib.hid hhiz
    clear hlo hhi hloz hhiz hcz
    obtain ⟨p, hp0⟩ : ∃ p : Nat, p + 1 = mid + m := ⟨mid + m - 1, by omega⟩
    have hpz : (mid : Int) + (m : Int) - 1 = (p : Int) := by omega
    rw [hpz]
    clear hpz
    go_loopg [20, 21, 23] (hi - lo) (fun kx s1 s2 s3 wr => ∃ (i j : Nat), s1 = .int .i64 i ∧ s2 = .int .i64 j ∧ lo ≤ i ∧ i ≤ j ∧ j ≤ hi ∧ j - i ≤ kx ∧
      Aside (∀ c, lo ≤ c → c < i → ltOf cf (A ++ (X ++ (Y ++ C))).toArray[p - c]! (A ++ (X ++ (Y ++ C))).toArray[c]! = false) ∧ Aside (∀ c, j ≤ c → c < hi → ltOf cf (A ++ (X ++ (Y ++ C))).toArray[p - c]! (A ++ (X ++ (Y ++ C))).toArray[c]! = true) ∧ Aside (LW enc k w0 blk off N (A ++ (X ++ (Y ++ C))) wr))
    case atStart => exact ⟨lo, hi, by first | rfl | (rw [HLZ.out]) | (congr 1; omega), by first | rfl | (rw [HHZ.out]) | (congr 1; omega), Nat.le_refl _, hle, Nat.le_refl _, Nat.le_refl _, fun q h1 h2 => by omega, fun q h1 h2 => by omega, S0⟩
    case round =>
      clear S0
      obtain ⟨i, j, rfl, rfl, hmi, hij, hjb, hkx, HL, HG, S1⟩ := hrel
      by_cases hlt : i < j
      · have hltz : (i : Int) < (j : Int) := by omega
        go_wp2
        obtain ⟨h, hh⟩ : ∃ h : Nat, h = (i + j) / 2 := ⟨_, rfl⟩
        have hz : ((i : Int) + (j : Int)) / 2 = (h : Int) := by omega
        rw [hz]
        have hih : i ≤ h := by omega
        have hhj : h < j := by omega
        have hhm : h < m := by omega
        have hah : a ≤ h := by omega
        have hpm : m ≤ p - h := by omega
        have hpb : p - h < b := by omega
        have eh : ((h : Int)).toNat = h := by omega
        have ph : (0 : Int) ≤ (h : Int) := by omega
        have bh : (h : Int) < (N : Int) := by omega
        have rh : IntKind.i64.wrap ((h : Int)) = (h : Int) := by rw [IntKind.wrap_i64]; omega
        have ea : ((p : Int) - (h : Int)).toNat = p - h := by omega
        have pa : (0 : Int) ≤ (p : Int) - (h : Int) := by omega
        have ba : (p : Int) - (h : Int) < (N : Int) := by omega
        have pa2 : (h : Int) ≤ (p : Int) := by omega
        have ba2 : (p : Int) < (N : Int) + (h : Int) := by omega
        have ra : IntKind.i64.wrap ((p : Int) - (h : Int)) = (p : Int) - (h : Int) := by rw [IntKind.wrap_i64]; omega
        obtain ⟨l1, l2, hc⟩ := HH.out.facts S1.out (p - h) h (by omega) (by omega)
        obtain ⟨u, hu⟩ : ∃ u, u = (A ++ (X ++ (Y ++ C))).toArray[h]! := ⟨_, rfl⟩
        obtain ⟨v, hv⟩ : ∃ v, v = (A ++ (X ++ (Y ++ C))).toArray[p - h]! := ⟨_, rfl⟩
        rw [← hu] at l2 hc
        rw [← hv] at l1 hc
        have HU := Lib.hid hu; have HV := Lib.hid hv
        -- once true it stays so
        have hmono : ∀ c c', lo ≤ c → c ≤ c' → c' < hi → ltOf cf (A ++ (X ++ (Y ++ C))).toArray[p - c']! (A ++ (X ++ (Y ++ C))).toArray[c']! = false → ltOf cf (A ++ (X ++ (Y ++ C))).toArray[p - c]! (A ++ (X ++ (Y ++ C))).toArray[c]! = false := fun c c' h1 h2 h3 h4 => by
          have ha0 := HA.out; have hm0 := HM.out; have hb0 := HB.out; have hax := HAX.out
          have q1 := HO2.out (p - c') (p - c) (by omega) (by omega) (by omega)
          have q2 := HO1.out c c' (by omega) (by omega) (by omega)
          exact HH.out.O.ntrans _ _ _ (HH.out.O.ntrans _ _ _ q1 h4) q2
        have HMO := (show Aside _ from hmono)
        clear hu hv hh hz hmono
        cases hvv : ltOf cf v u with
        | false =>
          have hd : decide (cf v u < 0) = false := hvv
          have hv2 : ¬ cf v u < 0 := of_decide_eq_false hd
          have HL2 : Aside (∀ c, lo ≤ c → c < h + 1 → ltOf cf (A ++ (X ++ (Y ++ C))).toArray[p - c]! (A ++ (X ++ (Y ++ C))).toArray[c]! = false) := fun c h1 h2 => by
            refine HMO.out c h h1 (by omega) (by omega) ?_
            rw [← HU.out, ← HV.out, hvv]
          clear hvv
          go_wp2_with fail
          go_quiet_grown (first | (go_at_fn g; refine Calls.grown_of (hc _ _)))
          have S2 : Aside (LW enc k w0 blk off N (A ++ (X ++ (Y ++ C))) (grow (wr.drewN nq) osq)) := S1.out.grown nq osq
          clear l1 l2 hc S1 HL
          generalize grow (wr.drewN nq) osq = w2 at S2 ⊢
          go_wp2
          go_roundg (j - (h + 1))
          case measure => omega
          case rel => exact ⟨h + 1, j, by go_num, rfl, by omega, by omega, by omega, Nat.le_refl _, HL2, HG, S2⟩
        | true =>
          have hd : decide (cf v u < 0) = true := hvv
          have hv2 : cf v u < 0 := of_decide_eq_true hd
          have HG2 : Aside (∀ c, h ≤ c → c < hi → ltOf cf (A ++ (X ++ (Y ++ C))).toArray[p - c]! (A ++ (X ++ (Y ++ C))).toArray[c]! = true) := fun c h1 h2 => by
            cases hf : ltOf cf (A ++ (X ++ (Y ++ C))).toArray[p - c]! (A ++ (X ++ (Y ++ C))).toArray[c]! with
            | true => rfl
            | false =>
              have := HMO.out h c (by omega) h1 h2 hf
              rw [← HU.out, ← HV.out, hvv] at this
              cases this
          clear hvv
          go_wp2_with fail
          go_quiet_grown (first | (go_at_fn g; refine Calls.grown_of (hc _ _)))
          have S2 : Aside (LW enc k w0 blk off N (A ++ (X ++ (Y ++ C))) (grow (wr.drewN nq) osq)) := S1.out.grown nq osq
          clear l1 l2 hc S1 HG
          generalize grow (wr.drewN nq) osq = w2 at S2 ⊢
          go_wp2
          go_roundg (h - i)
          case measure => omega
          case rel => exact ⟨i, h, rfl, rfl, by omega, by omega, by omega, Nat.le_refl _, HL, HG2, S2⟩
      · have hltz : ¬ (i : Int) < (j : Int) := by omega
        obtain rfl : i = j := by omega
        obtain ⟨X1, X2, Y1, Y2, hX, hY, hx1, hx2, hy1, hy2, hai, him, himid, hib, hcut⟩ := cut_of HH.out.O (D := (A ++ (X ++ (Y ++ C)))) rfl HSX.out HSY.out a m b mid p i lo hi hp0 HA.out HM.out HB.out hlh hm1 hm2 hmi hjb HL.out HG.out
        clear HL HG
        have HXX := Lib.hid hX; have HYY := Lib.hid hY; have HC := Lib.hid hcut
        have hXl : X.length = X1.length + X2.length := by rw [hX]; exact List.length_append
        have hYl : Y.length = Y1.length + Y2.length := by rw [hY]; exact List.length_append
        have h10 : (i : Int) ≤ (mid : Int) := by omega
        have h11 : (mid : Int) + (m : Int) - (i : Int) ≤ (b : Int) := by omega
        have S1' : Aside (LW enc k w0 blk off N (A ++ ((X1 ++ X2) ++ ((Y1 ++ Y2) ++ C))) wr) := by rw [← hX, ← hY]; exact S1
        have HSX1 := Lib.hid (show St.Srt (ltOf cf) (X1 ++ X2) by rw [← hX]; exact HSX.out)
        have HSY1 := Lib.hid (show St.Srt (ltOf cf) (Y1 ++ Y2) by rw [← hY]; exact HSY.out)
        clear S1 hX hY hcut
        have ha0 := HA.out; have hm0 := HM.out; have hb0 := HB.out
        have K0 := Lib.hid (fun (w2 : World) (hw : LW enc k w0 blk off N (A ++ ((X1 ++ X2) ++ ((Y1 ++ Y2) ++ C))) w2) (h2 : 0 < X2.length) (h3 : 0 < Y1.length) => sort_rotate HH.out.L enc g cb blk off cap N d0 w0 w2 HH.out.R HH.out.hN hsz (A ++ X1) X2 Y1 (Y2 ++ C) h2 h3 (by simpa using hw) i m (mid + m - i) (by simp; omega) (by simp; omega) (by simp; omega))
        have K1 := Lib.hid (fun (w2 : World) (hw : LW enc k w0 blk off N (A ++ (X1 ++ (Y1 ++ (X2 ++ (Y2 ++ C))))) w2) (h2 : 0 < X1.length) (h3 : 0 < Y1.length) => HIH.out A X1 Y1 (X2 ++ (Y2 ++ C)) w2 a i mid (by omega) h2 h3 HSX1.out.left HSY1.out.left hw (by omega) (by omega) (by omega))
        have K2 := Lib.hid (fun (Z1 : List α) (w2 : World) (h1 : Z1.length = X1.length + Y1.length) (hw : LW enc k w0 blk off N (A ++ (Z1 ++ (X2 ++ (Y2 ++ C)))) w2) (h2 : 0 < X2.length) (h3 : 0 < Y2.length) => HIH.out (A ++ Z1) X2 Y2 C w2 mid (mid + m - i) b (by omega) h2 h3 HSX1.out.right HSY1.out.right (by simpa using hw) (by simp; omega) (by simp; omega) (by simp; omega))
        have hez : ((mid + m - i : Nat) : Int) = (mid : Int) + (m : Int) - (i : Int) := by omega
        rw [hez] at K0 K2
        clear hez
        have E1 := Lib.hid (show X1.length = 0 → St.Srt (ltOf cf) (X1 ++ Y1) from fun e => by rw [List.eq_nil_of_length_eq_zero e, List.nil_append]; exact HSY1.out.left)
        have E2 := Lib.hid (show Y1.length = 0 → St.Srt (ltOf cf) (X1 ++ Y1) from fun e => by rw [List.eq_nil_of_length_eq_zero e, List.append_nil]; exact HSX1.out.left)
        have E3 := Lib.hid (show X2.length = 0 → St.Srt (ltOf cf) (X2 ++ Y2) from fun e => by rw [List.eq_nil_of_length_eq_zero e, List.nil_append]; exact HSY1.out.right)
        have E4 := Lib.hid (show Y2.length = 0 → St.Srt (ltOf cf) (X2 ++ Y2) from fun e => by rw [List.eq_nil_of_length_eq_zero e, List.append_nil]; exact HSX1.out.right)
        have EL := Lib.hid (fun (Z : List α) (h : St.SP (ltOf cf) Z (X1 ++ Y1)) => (show Z.length = X1.length + Y1.length by rw [h.length, List.length_append]))
        clear ha0 hm0 hb0
        rcases Nat.eq_zero_or_pos X2.length with e2 | e2
        · -- nothing behind in the first run
          have S2 : Aside (LW enc k w0 blk off N (A ++ (X1 ++ (Y1 ++ (X2 ++ (Y2 ++ C))))) wr) := LW.eq S1'.out (by rw [List.eq_nil_of_length_eq_zero e2]; simp)
          have n1 : ¬ (i : Int) < (m : Int) := by omega
          have n2 : (a : Int) < (i : Int) := by omega
          have n3 : ¬ (mid : Int) < (mid : Int) + (m : Int) - (i : Int) := by omega
          rcases Nat.eq_zero_or_pos Y1.length with f1 | f1
          · have n4 : ¬ (i : Int) < (mid : Int) := by omega
            go_wp2
            all_goals (
              go_end0
              obtain ⟨q1, q2⟩ := HC.out.done HH.out.O HSX1.out HSY1.out (E2.out f1) (St.SP.refl (lt := ltOf cf) _) (E3.out e2) (St.SP.refl (lt := ltOf cf) _)
              refine ⟨rfl, (X1 ++ Y1) ++ (X2 ++ Y2), q1, by rw [HXX.out, HYY.out]; exact q2, ?_⟩
              exact LW.eq S2.out (by simp))
          · have n4 : (i : Int) < (mid : Int) := by omega
            go_wp2_with (first | (go_at_call 80; refine (K1.out _ S2.out (by omega) (by omega)).mono ?_; rintro e w3 ⟨rfl, Z1, g1, g2, g3⟩; have G1 := Lib.hid (And.intro g1 g2); have S3 := (show Aside _ from g3); clear g1 g2 g3))
            all_goals (
              go_end0
              obtain ⟨q1, q2⟩ := HC.out.done HH.out.O HSX1.out HSY1.out G1.out.1 G1.out.2 (E3.out e2) (St.SP.refl (lt := ltOf cf) _)
              refine ⟨rfl, Z1 ++ (X2 ++ Y2), q1, by rw [HXX.out, HYY.out]; exact q2, ?_⟩
              exact LW.eq S3.out (by simp))
        · have n1 : (i : Int) < (m : Int) := by omega
          have n3 : (mid : Int) < (mid : Int) + (m : Int) - (i : Int) := by omega
          rcases Nat.eq_zero_or_pos Y1.length with f1 | f1
          · have S2 : Aside (LW enc k w0 blk off N (A ++ (X1 ++ (Y1 ++ (X2 ++ (Y2 ++ C))))) wr) := LW.eq S1'.out (by rw [List.eq_nil_of_length_eq_zero f1]; simp)
            have S3 : Aside (LW enc k w0 blk off N (A ++ ((X1 ++ Y1) ++ (X2 ++ (Y2 ++ C)))) wr) := LW.eq S2.out (by simp)
            have n2 : ¬ (m : Int) < (mid : Int) + (m : Int) - (i : Int) := by omega
            have n4 : ¬ (i : Int) < (mid : Int) := by omega
            have n5 : (mid : Int) + (m : Int) - (i : Int) < (b : Int) := by omega
            by_cases n6 : (a : Int) < (i : Int)
            · skip
              go_wp2_with (first | (go_at_call 80; refine (K2.out (X1 ++ Y1) _ List.length_append S3.out (by omega) (by omega)).mono ?_; rintro e w4 ⟨rfl, Z2, g1, g2, g3⟩; have G2 := Lib.hid (And.intro g1 g2); have S4 := (show Aside _ from g3); clear g1 g2 g3))
              all_goals (
                go_end0
                obtain ⟨q1, q2⟩ := HC.out.done HH.out.O HSX1.out HSY1.out (E2.out f1) (St.SP.refl (lt := ltOf cf) _) G2.out.1 G2.out.2
                refine ⟨rfl, (X1 ++ Y1) ++ Z2, q1, by rw [HXX.out, HYY.out]; exact q2, ?_⟩
                exact LW.eq S4.out (by simp))
            · skip
              go_wp2_with (first | (go_at_call 80; refine (K2.out (X1 ++ Y1) _ List.length_append S3.out (by omega) (by omega)).mono ?_; rintro e w4 ⟨rfl, Z2, g1, g2, g3⟩; have G2 := Lib.hid (And.intro g1 g2); have S4 := (show Aside _ from g3); clear g1 g2 g3))
              all_goals (
                go_end0
                obtain ⟨q1, q2⟩ := HC.out.done HH.out.O HSX1.out HSY1.out (E2.out f1) (St.SP.refl (lt := ltOf cf) _) G2.out.1 G2.out.2
                refine ⟨rfl, (X1 ++ Y1) ++ Z2, q1, by rw [HXX.out, HYY.out]; exact q2, ?_⟩
                exact LW.eq S4.out (by simp))
          · have n2 : (m : Int) < (mid : Int) + (m : Int) - (i : Int) := by omega
            have n4 : (i : Int) < (mid : Int) := by omega
            rcases Nat.eq_zero_or_pos X1.length with e1 | e1
            · have n6 : ¬ (a : Int) < (i : Int) := by omega
              rcases Nat.eq_zero_or_pos Y2.length with f2 | f2
              · have n5 : ¬ (mid : Int) + (m : Int) - (i : Int) < (b : Int) := by omega
                go_wp2_with (first | (go_at_call 99; refine (K0.out _ S1'.out (by omega) (by omega)).mono ?_; rintro e w2 ⟨rfl, g3⟩; have S2 : Aside (LW enc k w0 blk off N (A ++ (X1 ++ (Y1 ++ (X2 ++ (Y2 ++ C))))) w2) := LW.eq g3 (by simp); clear g3))
                all_goals (
                  go_end0
                  obtain ⟨q1, q2⟩ := HC.out.done HH.out.O HSX1.out HSY1.out (E1.out e1) (St.SP.refl (lt := ltOf cf) _) (E4.out f2) (St.SP.refl (lt := ltOf cf) _)
                  refine ⟨rfl, (X1 ++ Y1) ++ (X2 ++ Y2), q1, by rw [HXX.out, HYY.out]; exact q2, ?_⟩
                  exact LW.eq S2.out (by simp))
              · have n5 : (mid : Int) + (m : Int) - (i : Int) < (b : Int) := by omega
                go_wp2_with (first | (go_at_call 99; refine (K0.out _ S1'.out (by omega) (by omega)).mono ?_; rintro e w2 ⟨rfl, g3⟩; have S2 : Aside (LW enc k w0 blk off N (A ++ (X1 ++ (Y1 ++ (X2 ++ (Y2 ++ C))))) w2) := LW.eq g3 (by simp); clear g3; have S3 : Aside (LW enc k w0 blk off N (A ++ ((X1 ++ Y1) ++ (X2 ++ (Y2 ++ C)))) w2) := LW.eq S2.out (by simp)) | (go_at_call 80; refine (K2.out (X1 ++ Y1) _ List.length_append S3.out (by omega) (by omega)).mono ?_; rintro e w4 ⟨rfl, Z2, g1, g2, g3⟩; have G2 := Lib.hid (And.intro g1 g2); have S4 := (show Aside _ from g3); clear g1 g2 g3))
                all_goals (
                  go_end0
                  obtain ⟨q1, q2⟩ := HC.out.done HH.out.O HSX1.out HSY1.out (E1.out e1) (St.SP.refl (lt := ltOf cf) _) G2.out.1 G2.out.2
                  refine ⟨rfl, (X1 ++ Y1) ++ Z2, q1, by rw [HXX.out, HYY.out]; exact q2, ?_⟩
                  exact LW.eq S4.out (by simp))
            · have n6 : (a : Int) < (i : Int) := by omega
              rcases Nat.eq_zero_or_pos Y2.length with f2 | f2
              · have n5 : ¬ (mid : Int) + (m : Int) - (i : Int) < (b : Int) := by omega
                go_wp2_with (first | (go_at_call 99; refine (K0.out _ S1'.out (by omega) (by omega)).mono ?_; rintro e w2 ⟨rfl, g3⟩; have S2 : Aside (LW enc k w0 blk off N (A ++ (X1 ++ (Y1 ++ (X2 ++ (Y2 ++ C))))) w2) := LW.eq g3 (by simp); clear g3) | (go_at_call 80; refine (K1.out _ S2.out (by omega) (by omega)).mono ?_; rintro e w3 ⟨rfl, Z1, g1, g2, g3⟩; have G1 := Lib.hid (And.intro g1 g2); have S3 := (show Aside _ from g3); clear g1 g2 g3))
                all_goals (
                  go_end0
                  obtain ⟨q1, q2⟩ := HC.out.done HH.out.O HSX1.out HSY1.out G1.out.1 G1.out.2 (E4.out f2) (St.SP.refl (lt := ltOf cf) _)
                  refine ⟨rfl, Z1 ++ (X2 ++ Y2), q1, by rw [HXX.out, HYY.out]; exact q2, ?_⟩
                  exact LW.eq S3.out (by simp))
              · have n5 : (mid : Int) + (m : Int) - (i : Int) < (b : Int) := by omega
                go_wp2_with (first | (go_at_call 99; refine (K0.out _ S1'.out (by omega) (by omega)).mono ?_; rintro e w2 ⟨rfl, g3⟩; have S2 : Aside (LW enc k w0 blk off N (A ++ (X1 ++ (Y1 ++ (X2 ++ (Y2 ++ C))))) w2) := LW.eq g3 (by simp); clear g3) | (go_at_call 80; refine (K1.out _ S2.out (by omega) (by omega)).mono ?_; rintro e w3 ⟨rfl, Z1, g1, g2, g3⟩; have G1 := Lib.hid (And.intro g1 g2); have S3 := (show Aside _ from g3); clear g1 g2 g3) | (go_at_call 80; refine (K2.out Z1 _ (EL.out _ G1.out.2) S3.out (by omega) (by omega)).mono ?_; rintro e w4 ⟨rfl, Z2, g1, g2, g3⟩; have G2 := Lib.hid (And.intro g1 g2); have S4 := (show Aside _ from g3); clear g1 g2 g3))
                all_goals (
                  go_end0
                  obtain ⟨q1, q2⟩ := HC.out.done HH.out.O HSX1.out HSY1.out G1.out.1 G1.out.2 G2.out.1 G2.out.2
                  refine ⟨rfl, Z1 ++ Z2, q1, by rw [HXX.out, HYY.out]; exact q2, ?_⟩
                  exact LW.eq S4.out (by simp))
end Go.Proofs.YtamhpnenpoamhaaGreat
