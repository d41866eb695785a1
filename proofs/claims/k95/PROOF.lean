import PyProof.Rows.All
import Wide.All
import OpenK.AllK
import Wide.FinOn
import KE.KStateDown
import HandS.ForMost
import HandS.Defaults
import HandS.WordsExc
import HandS.Head0
import HandS.Head1
import HandS.Head2
import HandS.HeadEnd
import HandS.HeadHook1
import HandS.HeadHook2
import PySem.Challenge.RW_evenmeet_k95_whole_turned_from_bases
import HandS.TupSets
import HandS.DictTup
import HandS.Conv
import HandS.SortOrd
import KE.DataMinMax
import HandS.IsInst
set_option autoImplicit false
namespace K95
/-! ### the tuples' order -/
def ltL : List Int → List Int → Bool
  | [], [] => false
  | [], _ :: _ => true
  | _ :: _, [] => false
  | a :: r, b :: q => if a = b then ltL r q else decide (a < b)
theorem ltL_cons (a b : Int) (r q : List Int) : ltL (a :: r) (b :: q) = if a = b then ltL r q else decide (a < b) := rfl
theorem ltL_irrefl : ∀ a : List Int, ltL a a = false
  | [] => rfl
  | a :: r => by rw [ltL_cons, if_pos rfl]; exact ltL_irrefl r
theorem ltL_trans : ∀ {a b c : List Int}, ltL a b = true → ltL b c = true → ltL a c = true
  | [], [], _, h, _ => by simp [ltL] at h
  | [], _ :: _, [], _, h => by simp [ltL] at h
  | [], _ :: _, _ :: _, _, _ => rfl
  | _ :: _, [], _, h, _ => by simp [ltL] at h
  | _ :: _, _ :: _, [], _, h => by simp [ltL] at h
  | a :: r, b :: q, c :: s, h1, h2 => by
    rw [ltL_cons] at h1 h2 ⊢
    by_cases e1 : a = b
    · subst e1
      rw [if_pos rfl] at h1
      by_cases e2 : a = c
      · subst e2
        rw [if_pos rfl] at h2 ⊢
        exact ltL_trans h1 h2
      · rw [if_neg e2] at h2 ⊢
        exact h2
    · rw [if_neg e1] at h1
      have g1 := of_decide_eq_true h1
      by_cases e2 : b = c
      · subst e2
        rw [if_neg e1]
        exact h1
      · rw [if_neg e2] at h2
        have g2 := of_decide_eq_true h2
        rw [if_neg (by omega)]
        exact decide_eq_true (by omega)
theorem ltL_tri : ∀ a b : List Int, ltL a b = true ∨ a = b ∨ ltL b a = true
  | [], [] => .inr (.inl rfl)
  | [], _ :: _ => .inl rfl
  | _ :: _, [] => .inr (.inr rfl)
  | a :: r, b :: q => by
    by_cases e : a = b
    · subst e
      rw [ltL_cons, ltL_cons, if_pos rfl, if_pos rfl]
      rcases ltL_tri r q with h | h | h
      · exact .inl h
      · exact .inr (.inl (by rw [h]))
      · exact .inr (.inr h)
    · rw [ltL_cons, ltL_cons, if_neg e, if_neg (fun z => e z.symm)]
      by_cases h : a < b
      · exact .inl (decide_eq_true h)
      · exact .inr (.inr (decide_eq_true (by omega)))
theorem ltL_asymm {a b : List Int} (h : ltL a b = true) : ltL b a = false := by
  cases e : ltL b a with
  | false => rfl
  | true =>
    have z := ltL_trans h e
    rw [ltL_irrefl] at z
    exact absurd z (by decide)
/-- not above: the order that a sort leaves -/
def leL (a b : List Int) : Prop := ltL b a = false
theorem leL_anti {a b : List Int} (h1 : leL a b) (h2 : leL b a) : a = b := by
  rcases ltL_tri a b with h | h | h
  · rw [show ltL a b = false from h2] at h; exact absurd h (by decide)
  · exact h
  · rw [show ltL b a = false from h1] at h; exact absurd h (by decide)
theorem leL_trans {a b c : List Int} (h1 : leL a b) (h2 : leL b c) : leL a c := by
  show ltL c a = false
  cases e : ltL c a with
  | false => rfl
  | true =>
    rcases ltL_tri b c with h | h | h
    · have z := ltL_trans h e
      rw [show ltL b a = false from h1] at z
      exact absurd z (by decide)
    · subst h
      rw [show ltL b a = false from h1] at e
      exact absurd e (by decide)
    · rw [show ltL c b = false from h2] at h
      exact absurd h (by decide)
/-- one sorted list of a kind -/
theorem sorted_unique {l m : List (List Int)} (h1 : l.Pairwise leL) (h2 : m.Pairwise leL) (p : l.Perm m) : l = m :=
  p.eq_of_pairwise (fun _ _ _ _ a b => leL_anti a b) h1 h2

/-! ### rising lists of points -/
abbrev Rise (b : List Int) : Prop := b.Pairwise (· < ·)
structure Good (n : Nat) (b : List Int) : Prop where
  rise : Rise b
  bd : ∀ x ∈ b, 0 ≤ x ∧ x < (n : Int)
theorem Rise.nodup {b : List Int} (h : Rise b) : b.Nodup := List.Pairwise.imp (fun h => Int.ne_of_lt h) h
theorem rise_ext {a b : List Int} (ha : Rise a) (hb : Rise b) (h : ∀ x, x ∈ a ↔ x ∈ b) : a = b := by
  refine List.Perm.eq_of_pairwise (le := fun x y : Int => x < y) (fun x y _ _ h1 h2 => absurd h1 (by omega)) ha hb ?_
  exact (List.perm_ext_iff_of_nodup (Rise.nodup ha) (Rise.nodup hb)).mpr h
theorem rise_of {b : List Int} (h1 : b.Pairwise (· ≤ ·)) (h2 : b.Nodup) : Rise b := by
  refine List.Pairwise.imp (fun {x y} h => ?_) (List.Pairwise.and h1 h2)
  have := h.1
  have := h.2
  omega
theorem Good.len {n : Nat} {b : List Int} (h : Good n b) : b.length ≤ n := by
  have h1 : (b.map Int.toNat).Nodup := by
    refine List.pairwise_map.mpr (List.Pairwise.imp_of_mem (fun {x y} hx hy hne e => hne ?_) (Rise.nodup h.rise))
    have := h.bd x hx
    have := h.bd y hy
    omega
  have h2 := List.Nodup.length_le_of_subset (l₂ := List.range n) h1 (fun x hx => by
    obtain ⟨y, hy, rfl⟩ := List.mem_map.mp hx
    have := h.bd y hy
    exact List.mem_range.mpr (by omega))
  simpa using h2
/-- the rising list of the same numbers -/
def srt (l : List Int) : List Int := l.mergeSort fun a b => decide (a ≤ b)
theorem srt_perm (l : List Int) : (srt l).Perm l := List.mergeSort_perm l _
theorem srt_mem (l : List Int) (x : Int) : x ∈ srt l ↔ x ∈ l := (srt_perm l).mem_iff
theorem srt_sorted (l : List Int) : (srt l).Pairwise (· ≤ ·) := by
  have h := List.pairwise_mergeSort (le := fun a b : Int => decide (a ≤ b)) (fun a b c h1 h2 => by
    have := of_decide_eq_true h1
    have := of_decide_eq_true h2
    exact decide_eq_true (by omega)) (fun a b => by
    by_cases h : a ≤ b
    · simp [h]
    · have : b ≤ a := by omega
      simp [this]) l
  exact List.Pairwise.imp (fun h => of_decide_eq_true h) h
theorem srt_of {l m : List Int} (p : m.Perm l) (h : m.Pairwise (· ≤ ·)) : m = srt l :=
  List.Perm.eq_of_pairwise (le := fun x y : Int => x ≤ y) (fun x y _ _ h1 h2 => by omega) h (srt_sorted l) (p.trans (srt_perm l).symm)

/-! ### turning -/
def turn (n : Nat) (k : Int) (b : List Int) : List Int := srt (b.map fun x => (x + k) % (n : Int))
theorem mem_turn {n : Nat} {k x : Int} {b : List Int} : x ∈ turn n k b ↔ ∃ y ∈ b, (y + k) % (n : Int) = x := by
  unfold turn
  rw [srt_mem, List.mem_map]
theorem turn_length (n : Nat) (k : Int) (b : List Int) : (turn n k b).length = b.length := by
  unfold turn
  rw [(srt_perm _).length_eq, List.length_map]
theorem back {n : Nat} {x k : Int} (h0 : 0 ≤ x) (h1 : x < n) : ((x + k) % (n : Int) - k) % (n : Int) = x := by
  rw [Int.emod_sub_emod, Int.add_sub_cancel]
  exact Int.emod_eq_of_lt h0 h1
theorem turn_good {n : Nat} {k : Int} {b : List Int} (hn : 0 < n) (h : Good n b) : Good n (turn n k b) := by
  refine ⟨rise_of (srt_sorted _) ?_, fun x hx => ?_⟩
  · refine (srt_perm _).nodup_iff.mpr ?_
    refine List.pairwise_map.mpr (List.Pairwise.imp_of_mem (fun {x y} hx hy hne e => hne ?_) (Rise.nodup h.rise))
    have := h.bd x hx
    have := h.bd y hy
    rw [← back (n := n) (x := x) (k := k) (by omega) (by omega), ← back (n := n) (x := y) (k := k) (by omega) (by omega), e]
  · obtain ⟨y, hy, rfl⟩ := mem_turn.mp hx
    exact ⟨Int.emod_nonneg _ (by omega), Int.emod_lt_of_pos _ (by omega)⟩
theorem turn_turn {n : Nat} {j k : Int} {b : List Int} (hn : 0 < n) (h : Good n b) : turn n j (turn n k b) = turn n (k + j) b := by
  refine rise_ext (turn_good hn (turn_good hn h)).rise (turn_good hn h).rise fun x => ?_
  rw [mem_turn, mem_turn]
  constructor
  · rintro ⟨y, hy, rfl⟩
    obtain ⟨z, hz, rfl⟩ := mem_turn.mp hy
    refine ⟨z, hz, ?_⟩
    rw [Int.emod_add_emod, Int.add_assoc]
  · rintro ⟨z, hz, rfl⟩
    refine ⟨(z + k) % (n : Int), mem_turn.mpr ⟨z, hz, rfl⟩, ?_⟩
    rw [Int.emod_add_emod, Int.add_assoc]
theorem turn_congr {n : Nat} {j k : Int} {b : List Int} (h : j % (n : Int) = k % (n : Int)) : turn n j b = turn n k b := by
  unfold turn
  have e : (fun x : Int => (x + j) % (n : Int)) = fun x : Int => (x + k) % (n : Int) := by
    funext x
    rw [Int.add_emod, h, ← Int.add_emod]
  rw [e]
theorem turn_zero {n : Nat} {b : List Int} (hn : 0 < n) (h : Good n b) : turn n 0 b = b := by
  refine rise_ext (turn_good hn h).rise h.rise fun x => ?_
  rw [mem_turn]
  constructor
  · rintro ⟨y, hy, rfl⟩
    have := h.bd y hy
    rw [Int.add_zero, Int.emod_eq_of_lt this.1 this.2]
    exact hy
  · intro hx
    have := h.bd x hx
    exact ⟨x, hx, by rw [Int.add_zero, Int.emod_eq_of_lt this.1 this.2]⟩
theorem turn_n {n : Nat} {b : List Int} (hn : 0 < n) (h : Good n b) : turn n n b = b := by
  have e : turn n n b = turn n 0 b := turn_congr (by simp)
  rw [e, turn_zero hn h]
theorem turn_undo {n : Nat} {k : Int} {b : List Int} (hn : 0 < n) (h : Good n b) : turn n (-k) (turn n k b) = b := by
  rw [turn_turn hn h, Int.add_right_neg, turn_zero hn h]
theorem turn_redo {n : Nat} {k : Int} {b : List Int} (hn : 0 < n) (h : Good n b) : turn n k (turn n (-k) b) = b := by
  rw [turn_turn hn h, Int.add_left_neg, turn_zero hn h]

/-! ### a layout that turns -/
/-- every block comes as often as its turned one -/
def Trn (n : Nat) (bs : List (List Int)) : Prop := ∀ b, Good n b → bs.count (turn n 1 b) = bs.count b
/-- what the program asks -/
def Asked (n : Nat) (bs : List (List Int)) : Prop := ∀ b ∈ bs, bs.count b ≤ bs.count (turn n 1 b)
def AllGood (n : Nat) (bs : List (List Int)) : Prop := ∀ b ∈ bs, Good n b
theorem Trn.nat {n : Nat} {bs : List (List Int)} (hn : 0 < n) (I : Trn n bs) {b : List Int} (h : Good n b) : ∀ k : Nat, bs.count (turn n k b) = bs.count b
  | 0 => by
    have e : turn n ((0 : Nat) : Int) b = b := turn_zero hn h
    rw [e]
  | k + 1 => by
    have e : turn n ((k + 1 : Nat) : Int) b = turn n 1 (turn n k b) := by
      rw [turn_turn hn h]
      exact congrArg (fun z => turn n z b) (by omega)
    rw [e, I _ (turn_good hn h), Trn.nat hn I h k]
theorem mod_nat {n : Nat} (hn : 0 < n) (k : Int) : ∃ j : Nat, j < n ∧ k % (n : Int) = (j : Int) % (n : Int) := by
  refine ⟨(k % (n : Int)).toNat, ?_, ?_⟩
  · have := Int.emod_nonneg k (show (n : Int) ≠ 0 by omega)
    have := Int.emod_lt_of_pos k (show (0 : Int) < n by omega)
    omega
  · have := Int.emod_nonneg k (show (n : Int) ≠ 0 by omega)
    rw [Int.toNat_of_nonneg this, Int.emod_emod]
theorem Trn.int {n : Nat} {bs : List (List Int)} (hn : 0 < n) (I : Trn n bs) {b : List Int} (h : Good n b) (k : Int) : bs.count (turn n k b) = bs.count b := by
  obtain ⟨j, _, e⟩ := mod_nat hn k
  rw [turn_congr e, I.nat hn h]
theorem trn_of_asked {n : Nat} {bs : List (List Int)} (hn : 0 < n) (hg : AllGood n bs) (A : Asked n bs) : Trn n bs := by
  have up : ∀ b, Good n b → bs.count b ≤ bs.count (turn n 1 b) := fun b h => by
    by_cases m : b ∈ bs
    · exact A b m
    · rw [List.count_eq_zero_of_not_mem m]
      exact Nat.zero_le _
  have ups : ∀ b, Good n b → ∀ k : Nat, bs.count b ≤ bs.count (turn n k b) := fun b h k => by
    induction k with
    | zero =>
      have e : turn n ((0 : Nat) : Int) b = b := turn_zero hn h
      rw [e]
      exact Nat.le_refl _
    | succ k ih =>
      have e : turn n ((k + 1 : Nat) : Int) b = turn n 1 (turn n k b) := by
        rw [turn_turn hn h]
        exact congrArg (fun z => turn n z b) (by omega)
      rw [e]
      exact Nat.le_trans ih (up _ (turn_good hn h))
  intro b h
  refine Nat.le_antisymm ?_ (up b h)
  have z := ups (turn n 1 b) (turn_good hn h) (n - 1)
  rw [turn_turn hn h] at z
  have e : (1 : Int) + ((n - 1 : Nat) : Int) = n := by omega
  rw [e, turn_n hn h] at z
  exact z
theorem asked_of_trn {n : Nat} {bs : List (List Int)} (hg : AllGood n bs) (I : Trn n bs) : Asked n bs := fun b m => Nat.le_of_eq (I b (hg b m)).symm
theorem asked_iff {n : Nat} {bs : List (List Int)} (hn : 0 < n) (hg : AllGood n bs) : Asked n bs ↔ Trn n bs := ⟨trn_of_asked hn hg, asked_of_trn hg⟩
/-- counts through a map that parts the good blocks -/
theorem count_map {n : Nat} {f : List Int → List Int} (inj : ∀ a b, Good n a → Good n b → f a = f b → a = b) {b : List Int} (hb : Good n b) : ∀ bs : List (List Int), AllGood n bs → (bs.map f).count (f b) = bs.count b
  | [], _ => rfl
  | c :: bs, h => by
    have ih := count_map inj hb bs fun x m => h x (List.mem_cons_of_mem _ m)
    rw [List.map_cons]
    by_cases e : c = b
    · subst e
      rw [List.count_cons_self, List.count_cons_self, ih]
    · rw [List.count_cons_of_ne e, List.count_cons_of_ne (fun z => e (inj _ _ (h c List.mem_cons_self) hb z)), ih]
theorem turn_inj {n : Nat} {k : Int} (hn : 0 < n) (a b : List Int) (ha : Good n a) (hb : Good n b) (e : turn n k a = turn n k b) : a = b := by
  rw [← turn_undo (k := k) hn ha, ← turn_undo (k := k) hn hb, e]
theorem map_good {n : Nat} {f : List Int → List Int} (hf : ∀ b, Good n b → Good n (f b)) {bs : List (List Int)} (h : AllGood n bs) : AllGood n (bs.map f) := fun x m => by
  obtain ⟨b, hb, rfl⟩ := List.mem_map.mp m
  exact hf b (h b hb)
/-- the sorted layouts are alike just where the layout turns -/
theorem perm_iff_trn {n : Nat} {bs : List (List Int)} (hn : 0 < n) (hg : AllGood n bs) : (bs.map (turn n 1)).Perm bs ↔ Trn n bs := by
  have hm := map_good (fun b h => turn_good (k := 1) hn h) hg
  rw [List.perm_iff_count]
  constructor
  · intro h b hb
    rw [← h (turn n 1 b), count_map (turn_inj hn) hb bs hg]
  · intro I a
    by_cases ha : Good n a
    · have e : a = turn n 1 (turn n (-1) a) := (turn_redo hn ha).symm
      have g := turn_good (k := -1) hn ha
      have e2 : (bs.map (turn n 1)).count a = bs.count (turn n (-1) a) := by
        have z := count_map (turn_inj (k := 1) hn) g bs hg
        rw [← e] at z
        exact z
      rw [e2, I.int hn ha]
    · rw [List.count_eq_zero_of_not_mem (fun m => ha (hm a m)), List.count_eq_zero_of_not_mem (fun m => ha (hg a m))]
/-- a change of all blocks that goes with turning and can be taken back -/
theorem trn_map {n : Nat} {f g : List Int → List Int} (hf : ∀ b, Good n b → Good n (f b)) (hgd : ∀ b, Good n b → Good n (g b)) (fg : ∀ b, Good n b → f (g b) = b) (gf : ∀ b, Good n b → g (f b) = b)
    (hn : 0 < n) (com : ∀ b, Good n b → f (turn n 1 b) = turn n 1 (f b)) {bs : List (List Int)} (h : AllGood n bs) : Trn n (bs.map f) ↔ Trn n bs := by
  have inj : ∀ a b, Good n a → Good n b → f a = f b → a = b := fun a b ha hb e => by rw [← gf a ha, ← gf b hb, e]
  constructor
  · intro I b hb
    have z := I (f b) (hf b hb)
    rw [← com b hb, count_map inj (turn_good hn hb) bs h, count_map inj hb bs h] at z
    exact z
  · intro I c hc
    have e : c = f (g c) := (fg c hc).symm
    have gc := hgd c hc
    rw [e, ← com _ gc, count_map inj (turn_good hn gc) bs h, count_map inj gc bs h]
    exact I _ gc
theorem trn_turned {n : Nat} {bs : List (List Int)} (hn : 0 < n) (h : AllGood n bs) : Trn n (bs.map (turn n 1)) ↔ Trn n bs :=
  trn_map (g := turn n (-1)) (fun _ => turn_good hn) (fun _ => turn_good hn) (fun _ h => turn_redo hn h) (fun _ h => turn_undo hn h) hn (fun _ _ => rfl) h
theorem trn_perm {n : Nat} {bs bs' : List (List Int)} (p : bs'.Perm bs) : Trn n bs' ↔ Trn n bs := by
  unfold Trn
  constructor
  · intro h b hb
    rw [← p.count_eq, ← p.count_eq]
    exact h b hb
  · intro h b hb
    rw [p.count_eq, p.count_eq]
    exact h b hb
theorem good_perm {n : Nat} {bs bs' : List (List Int)} (p : bs'.Perm bs) (h : AllGood n bs) : AllGood n bs' := fun b m => h b (p.mem_iff.mp m)

/-! ### the complement -/
def pts (n : Nat) : List Int := (List.range n).map fun k : Nat => (k : Int)
theorem mem_pts {n : Nat} {x : Int} : x ∈ pts n ↔ 0 ≤ x ∧ x < n := by
  unfold pts
  rw [List.mem_map]
  constructor
  · rintro ⟨k, hk, rfl⟩
    have := List.mem_range.mp hk
    omega
  · rintro ⟨h0, h1⟩
    exact ⟨x.toNat, List.mem_range.mpr (by omega), by omega⟩
theorem pts_rise (n : Nat) : Rise (pts n) := by
  unfold pts
  refine List.pairwise_map.mpr (List.Pairwise.imp (fun {a b} h => ?_) (List.pairwise_lt_range (n := n)))
  omega
theorem pts_good (n : Nat) : Good n (pts n) := ⟨pts_rise n, fun _ h => mem_pts.mp h⟩
def compl (n : Nat) (b : List Int) : List Int := (pts n).filter fun x => !decide (x ∈ b)
theorem mem_compl {n : Nat} {b : List Int} {x : Int} : x ∈ compl n b ↔ (0 ≤ x ∧ x < n) ∧ ¬ x ∈ b := by
  unfold compl
  rw [List.mem_filter, mem_pts]
  simp
theorem compl_good {n : Nat} (b : List Int) : Good n (compl n b) :=
  ⟨(pts_rise n).sublist List.filter_sublist, fun _ h => (mem_compl.mp h).1⟩
theorem compl_compl {n : Nat} {b : List Int} (h : Good n b) : compl n (compl n b) = b := by
  refine rise_ext (compl_good _).rise h.rise fun x => ?_
  rw [mem_compl, mem_compl]
  constructor
  · rintro ⟨h1, h2⟩
    exact Classical.byContradiction fun z => h2 ⟨h1, z⟩
  · intro hx
    exact ⟨h.bd x hx, fun z => z.2 hx⟩
theorem compl_turn {n : Nat} {b : List Int} (hn : 0 < n) (h : Good n b) : compl n (turn n 1 b) = turn n 1 (compl n b) := by
  refine rise_ext (compl_good _).rise (turn_good hn (compl_good _)).rise fun x => ?_
  rw [mem_compl, mem_turn, mem_turn]
  constructor
  · rintro ⟨h1, h2⟩
    refine ⟨(x - 1) % (n : Int), mem_compl.mpr ⟨⟨Int.emod_nonneg _ (by omega), Int.emod_lt_of_pos _ (by omega)⟩, fun m => h2 ⟨_, m, ?_⟩⟩, ?_⟩
    all_goals
      rw [Int.emod_add_emod, Int.sub_add_cancel]
      exact Int.emod_eq_of_lt h1.1 h1.2
  · rintro ⟨y, hy, rfl⟩
    obtain ⟨g1, g2⟩ := mem_compl.mp hy
    refine ⟨⟨Int.emod_nonneg _ (by omega), Int.emod_lt_of_pos _ (by omega)⟩, ?_⟩
    rintro ⟨z, hz, e⟩
    have b1 := h.bd z hz
    have e1 := back (n := n) (x := z) (k := 1) b1.1 b1.2
    have e2 := back (n := n) (x := y) (k := 1) g1.1 g1.2
    rw [e, e2] at e1
    rw [e1] at g2
    exact g2 hz
theorem trn_compl {n : Nat} {bs : List (List Int)} (hn : 0 < n) (h : AllGood n bs) : Trn n (bs.map (compl n)) ↔ Trn n bs :=
  trn_map (g := compl n) (fun b _ => compl_good b) (fun b _ => compl_good b) (fun _ h => compl_compl h) (fun _ h => compl_compl h) hn (fun _ h => compl_turn hn h) h

/-! ### what a base becomes -/
def orb (n : Nat) (b : List Int) : List (List Int) := (List.range n).map fun k : Nat => turn n k b
theorem orb_length (n : Nat) (b : List Int) : (orb n b).length = n := by unfold orb; rw [List.length_map, List.length_range]
theorem mem_orb {n : Nat} {b x : List Int} (hn : 0 < n) : x ∈ orb n b ↔ ∃ k : Int, x = turn n k b := by
  unfold orb
  rw [List.mem_map]
  constructor
  · rintro ⟨k, _, rfl⟩
    exact ⟨k, rfl⟩
  · rintro ⟨k, rfl⟩
    obtain ⟨j, hj, e⟩ := mod_nat hn k
    exact ⟨j, List.mem_range.mpr hj, (turn_congr e).symm⟩
theorem orb_good {n : Nat} {b : List Int} (hn : 0 < n) (h : Good n b) : AllGood n (orb n b) := fun x m => by
  obtain ⟨k, rfl⟩ := (mem_orb hn).mp m
  exact turn_good hn h
theorem orb_self {n : Nat} {b : List Int} (hn : 0 < n) (h : Good n b) : b ∈ orb n b := (mem_orb hn).mpr ⟨0, (turn_zero hn h).symm⟩
theorem orb_symm {n : Nat} {b x : List Int} (hn : 0 < n) (h : Good n b) (m : x ∈ orb n b) : b ∈ orb n x := by
  obtain ⟨k, rfl⟩ := (mem_orb hn).mp m
  exact (mem_orb hn).mpr ⟨-k, (turn_undo hn h).symm⟩
theorem orb_trans {n : Nat} {a b c : List Int} (hn : 0 < n) (h : Good n a) (m1 : b ∈ orb n a) (m2 : c ∈ orb n b) : c ∈ orb n a := by
  obtain ⟨k, rfl⟩ := (mem_orb hn).mp m1
  obtain ⟨j, rfl⟩ := (mem_orb hn).mp m2
  exact (mem_orb hn).mpr ⟨k + j, turn_turn hn h⟩
theorem orb_turned {n : Nat} {b : List Int} (hn : 0 < n) (h : Good n b) : ((orb n b).map (turn n 1)).Perm (orb n b) := by
  obtain ⟨m, rfl⟩ : ∃ m, n = m + 1 := ⟨n - 1, by omega⟩
  have e1 : (orb (m + 1) b).map (turn (m + 1) 1) = ((List.range m).map fun k : Nat => turn (m + 1) ((k + 1 : Nat) : Int) b) ++ [b] := by
    unfold orb
    rw [List.map_map, List.range_succ, List.map_append]
    congr 1
    · refine List.map_congr_left fun k _ => ?_
      show turn (m + 1) 1 (turn (m + 1) k b) = _
      rw [turn_turn hn h]
      exact congrArg (fun z => turn (m + 1) z b) (by omega)
    · show [turn (m + 1) 1 (turn (m + 1) m b)] = [b]
      rw [turn_turn hn h]
      have e : (m : Int) + 1 = ((m + 1 : Nat) : Int) := by omega
      rw [e, turn_n hn h]
  have e2 : orb (m + 1) b = b :: ((List.range m).map fun k : Nat => turn (m + 1) ((k + 1 : Nat) : Int) b) := by
    unfold orb
    rw [List.range_succ_eq_map, List.map_cons, List.map_map]
    congr 1
    exact turn_zero hn h
  rw [e1, e2]
  exact List.perm_append_singleton _ _
/-- the developed blocks -/
def dev (n : Nat) (bases : List (List Int)) : List (List Int) := bases.flatMap (orb n)
theorem dev_good {n : Nat} {bases : List (List Int)} (hn : 0 < n) (h : AllGood n bases) : AllGood n (dev n bases) := fun x m => by
  obtain ⟨b, hb, hx⟩ := List.mem_flatMap.mp m
  exact orb_good hn (h b hb) x hx
theorem dev_perm {n : Nat} (hn : 0 < n) : ∀ bases : List (List Int), AllGood n bases → ((dev n bases).map (turn n 1)).Perm (dev n bases)
  | [], _ => List.Perm.refl _
  | b :: r, h => by
    have ih := dev_perm hn r fun x m => h x (List.mem_cons_of_mem _ m)
    have e : dev n (b :: r) = orb n b ++ dev n r := List.flatMap_cons
    rw [e, List.map_append]
    exact (orb_turned hn (h b List.mem_cons_self)).append ih
theorem dev_trn {n : Nat} {bases : List (List Int)} (hn : 0 < n) (h : AllGood n bases) : Trn n (dev n bases) := (perm_iff_trn hn (dev_good hn h)).mp (dev_perm hn bases h)
theorem dev_length (n : Nat) : ∀ bases : List (List Int), (dev n bases).length = n * bases.length
  | [] => by simp [dev]
  | b :: r => by
    have e : dev n (b :: r) = orb n b ++ dev n r := List.flatMap_cons
    rw [e, List.length_append, orb_length, dev_length n r, List.length_cons, Nat.mul_add, Nat.mul_one, Nat.add_comm]

/-! ### the least one of all that a block becomes -/
def minL (m : List Int) (l : List (List Int)) : List Int := l.foldl (fun m x => if ltL x m = true then x else m) m
theorem minL_spec : ∀ (l : List (List Int)) (m : List Int), (minL m l = m ∨ minL m l ∈ l) ∧ leL (minL m l) m ∧ ∀ x ∈ l, leL (minL m l) x
  | [], m => ⟨.inl rfl, ltL_irrefl m, fun x h => by cases h⟩
  | y :: l, m => by
    have hd : minL m (y :: l) = minL (if ltL y m = true then y else m) l := rfl
    obtain ⟨h1, h2, h3⟩ := minL_spec l (if ltL y m = true then y else m)
    rw [hd]
    by_cases c : ltL y m = true
    · rw [if_pos c] at h1 h2 h3 ⊢
      refine ⟨.inr ?_, leL_trans h2 (ltL_asymm c), fun x hx => ?_⟩
      · rcases h1 with e | e
        · rw [e]; exact List.mem_cons_self
        · exact List.mem_cons_of_mem _ e
      · rcases List.mem_cons.mp hx with e | e
        · rw [e]; exact h2
        · exact h3 x e
    · rw [if_neg c] at h1 h2 h3 ⊢
      refine ⟨?_, h2, fun x hx => ?_⟩
      · rcases h1 with e | e
        · exact .inl e
        · exact .inr (List.mem_cons_of_mem _ e)
      · rcases List.mem_cons.mp hx with e | e
        · rw [e]
          refine leL_trans h2 ?_
          show ltL y m = false
          cases q : ltL y m with
          | false => rfl
          | true => exact absurd q c
        · exact h3 x e
def least (n : Nat) (b : List Int) : List Int := minL b (orb n b)
theorem least_mem {n : Nat} {b : List Int} (hn : 0 < n) (h : Good n b) : least n b ∈ orb n b := by
  rcases (minL_spec (orb n b) b).1 with e | e
  · show minL b (orb n b) ∈ orb n b
    rw [e]
    exact orb_self hn h
  · exact e
theorem least_le {n : Nat} {b x : List Int} (m : x ∈ orb n b) : leL (least n b) x := (minL_spec (orb n b) b).2.2 x m
theorem least_unique {n : Nat} {b m : List Int} (hn : 0 < n) (h : Good n b) (h1 : m ∈ orb n b) (h2 : ∀ x ∈ orb n b, leL m x) : m = least n b :=
  leL_anti (h2 _ (least_mem hn h)) (least_le h1)
theorem least_congr {n : Nat} {b x : List Int} (hn : 0 < n) (h : Good n b) (m : x ∈ orb n b) : least n x = least n b := by
  have hx := orb_good hn h x m
  refine least_unique hn h (orb_trans hn h m (least_mem hn hx)) fun y hy => least_le (orb_trans hn hx (orb_symm hn h m) hy)
theorem least_good {n : Nat} {b : List Int} (hn : 0 < n) (h : Good n b) : Good n (least n b) := orb_good hn h _ (least_mem hn h)
theorem trn_orb {n : Nat} {bs : List (List Int)} (hn : 0 < n) (I : Trn n bs) {b x : List Int} (h : Good n b) (m : x ∈ orb n b) : bs.count x = bs.count b := by
  obtain ⟨k, rfl⟩ := (mem_orb hn).mp m
  exact I.int hn h k
theorem trn_least {n : Nat} {bs : List (List Int)} (hn : 0 < n) (I : Trn n bs) {b : List Int} (h : Good n b) : bs.count (least n b) = bs.count b := trn_orb hn I h (least_mem hn h)

/-! ### the told bases -/
structure Told (n : Nat) (bs : List (List Int)) (T : List (List Int × Nat)) : Prop where
  sorted : T.Pairwise fun p q => ltL p.1 q.1 = true
  mem : ∀ p, p ∈ T ↔ (∃ b ∈ bs, p.1 = least n b) ∧ p.2 = bs.count p.1
theorem Told.nodup {n : Nat} {bs : List (List Int)} {T : List (List Int × Nat)} (h : Told n bs T) : (T.map (·.1)).Nodup := by
  refine List.pairwise_map.mpr (List.Pairwise.imp (fun {p q} z e => ?_) h.sorted)
  rw [e, ltL_irrefl] at z
  exact absurd z (by decide)
theorem Told.unique {n : Nat} {bs bs' : List (List Int)} {T T' : List (List Int × Nat)} (h : Told n bs T) (h' : Told n bs' T') (p : bs'.Perm bs) : T' = T := by
  have nd : ∀ {T : List (List Int × Nat)}, (T.map (·.1)).Nodup → T.Nodup := fun {T} z => List.Pairwise.imp (fun {p q} hne e => hne (congrArg (·.1) e)) (List.pairwise_map.mp z)
  refine List.Perm.eq_of_pairwise (le := fun p q : List Int × Nat => ltL p.1 q.1 = true) (fun a b _ _ h1 h2 => ?_) h'.sorted h.sorted ((List.perm_ext_iff_of_nodup (nd h'.nodup) (nd h.nodup)).mpr fun q => ?_)
  · have z := ltL_trans h1 h2
    rw [ltL_irrefl] at z
    exact absurd z (by decide)
  · rw [h'.mem, h.mem, p.count_eq]
    constructor
    · rintro ⟨⟨b, hb, e⟩, e2⟩
      exact ⟨⟨b, p.mem_iff.mp hb, e⟩, e2⟩
    · rintro ⟨⟨b, hb, e⟩, e2⟩
      exact ⟨⟨b, p.mem_iff.mpr hb, e⟩, e2⟩
/-- the blocks rebl, out of bases and how often -/
def rebl (U : List Int → List (List Int)) (T : List (List Int × Nat)) : List (List Int) := T.flatMap fun p => (List.replicate p.2 (U p.1)).flatten
theorem count_reps (x : List Int) (l : List (List Int)) : ∀ k : Nat, ((List.replicate k l).flatten).count x = k * l.count x
  | 0 => by simp
  | k + 1 => by
    rw [List.replicate_succ, List.flatten_cons, List.count_append, count_reps x l k, Nat.succ_mul, Nat.add_comm]
theorem count_rebl {U : List Int → List (List Int)} {x : List Int} : ∀ {T : List (List Int × Nat)}, (∀ p ∈ T, x ∉ U p.1) → (rebl U T).count x = 0
  | [], _ => rfl
  | p :: T, h => by
    have ih := count_rebl (T := T) fun q m => h q (List.mem_cons_of_mem _ m)
    have e : rebl U (p :: T) = (List.replicate p.2 (U p.1)).flatten ++ rebl U T := List.flatMap_cons
    rw [e, List.count_append, ih, count_reps, List.count_eq_zero_of_not_mem (h p List.mem_cons_self), Nat.mul_zero]
theorem count_rebl_one {U : List Int → List (List Int)} {x : List Int} {p : List Int × Nat} (hx : (U p.1).count x = 1) : ∀ {T : List (List Int × Nat)}, (T.map (·.1)).Nodup → p ∈ T → (∀ q ∈ T, x ∈ U q.1 → q.1 = p.1) → (rebl U T).count x = p.2
  | [], _, m, _ => by cases m
  | q :: T, nd, m, h => by
    have e : rebl U (q :: T) = (List.replicate q.2 (U q.1)).flatten ++ rebl U T := List.flatMap_cons
    rw [List.map_cons] at nd
    obtain ⟨n1, n2⟩ := List.nodup_cons.mp nd
    rw [e, List.count_append, count_reps]
    rcases List.mem_cons.mp m with z | z
    · subst z
      rw [hx, Nat.mul_one, count_rebl fun r mr hxr => n1 ?_, Nat.add_zero]
      have e2 := h r (List.mem_cons_of_mem _ mr) hxr
      rw [← e2]
      exact List.mem_map.mpr ⟨r, mr, rfl⟩
    · have ne : x ∉ U q.1 := fun hq => n1 (by
        rw [h q List.mem_cons_self hq]
        exact List.mem_map.mpr ⟨p, z, rfl⟩)
      rw [List.count_eq_zero_of_not_mem ne, Nat.mul_zero, Nat.zero_add]
      exact count_rebl_one hx n2 z fun r mr => h r (List.mem_cons_of_mem _ mr)
theorem Told.good {n : Nat} {bs : List (List Int)} {T : List (List Int × Nat)} (hn : 0 < n) (hg : AllGood n bs) (h : Told n bs T) : ∀ p ∈ T, Good n p.1 := fun p m => by
  obtain ⟨⟨b, hb, e⟩, _⟩ := (h.mem p).mp m
  rw [e]
  exact least_good hn (hg b hb)
theorem rebl_perm {n : Nat} {bs : List (List Int)} {T : List (List Int × Nat)} {U : List Int → List (List Int)} (hn : 0 < n) (hg : AllGood n bs) (I : Trn n bs) (h : Told n bs T)
    (hU : ∀ p ∈ T, (U p.1).Nodup ∧ ∀ x, x ∈ U p.1 ↔ x ∈ orb n p.1) : (rebl U T).Perm bs := by
  refine List.perm_iff_count.mpr fun x => ?_
  by_cases m : x ∈ bs
  · have gx := hg x m
    have hp : (least n x, bs.count (least n x)) ∈ T := (h.mem _).mpr ⟨⟨x, m, rfl⟩, rfl⟩
    have hx : (U (least n x)).count x = 1 := by
      rw [List.Nodup.count (hU _ hp).1, if_pos (((hU _ hp).2 x).mpr (orb_symm hn gx (least_mem hn gx)))]
    rw [count_rebl_one (p := (least n x, bs.count (least n x))) hx h.nodup hp fun q mq hq => ?_]
    · exact trn_least hn I gx
    · obtain ⟨⟨b, hb, e⟩, _⟩ := (h.mem q).mp mq
      have o := ((hU q mq).2 x).mp hq
      rw [e] at o
      have gb := hg b hb
      have o2 := orb_trans hn gb (least_mem hn gb) o
      rw [e]
      exact (least_congr hn gb o2).symm
  · rw [List.count_eq_zero_of_not_mem m]
    refine count_rebl fun p mp hx => m ?_
    obtain ⟨⟨b, hb, e⟩, _⟩ := (h.mem p).mp mp
    have o := ((hU p mp).2 x).mp hx
    have gb := hg b hb
    rw [e] at o
    have z := trn_orb hn I gb (orb_trans hn gb (least_mem hn gb) o)
    refine List.count_pos_iff.mp ?_
    rw [z]
    exact List.count_pos_iff.mpr hb
/-- the bases, each so often -/
def wholeOf (T : List (List Int × Nat)) : List (List Int) := T.flatMap fun p => List.replicate p.2 p.1
theorem dev_append (n : Nat) (a b : List (List Int)) : dev n (a ++ b) = dev n a ++ dev n b := List.flatMap_append
theorem dev_reps (n : Nat) (b : List Int) : ∀ k : Nat, dev n (List.replicate k b) = (List.replicate k (orb n b)).flatten
  | 0 => rfl
  | k + 1 => by
    have e : dev n (b :: List.replicate k b) = orb n b ++ dev n (List.replicate k b) := List.flatMap_cons
    rw [List.replicate_succ, e, dev_reps n b k, List.replicate_succ, List.flatten_cons]
theorem dev_whole (n : Nat) : ∀ T : List (List Int × Nat), dev n (wholeOf T) = rebl (orb n) T
  | [] => rfl
  | p :: T => by
    have e1 : wholeOf (p :: T) = List.replicate p.2 p.1 ++ wholeOf T := List.flatMap_cons
    have e2 : rebl (orb n) (p :: T) = (List.replicate p.2 (orb n p.1)).flatten ++ rebl (orb n) T := List.flatMap_cons
    rw [e1, e2, dev_append, dev_reps, dev_whole n T]
theorem whole_perm {n : Nat} {bs : List (List Int)} {T : List (List Int × Nat)} (hn : 0 < n) (hg : AllGood n bs) (I : Trn n bs) (h : Told n bs T) (nd : ∀ p ∈ T, (orb n p.1).Nodup) : (dev n (wholeOf T)).Perm bs := by
  rw [dev_whole]
  exact rebl_perm hn hg I h fun p m => ⟨nd p m, fun _ => Iff.rfl⟩
theorem whole_good {n : Nat} {bs : List (List Int)} {T : List (List Int × Nat)} (hn : 0 < n) (hg : AllGood n bs) (h : Told n bs T) : AllGood n (wholeOf T) := fun x m => by
  obtain ⟨p, mp, hx⟩ := List.mem_flatMap.mp m
  rw [List.eq_of_mem_replicate hx]
  exact h.good hn hg p mp
/-- as many unlike ones as there are: no two alike -/
theorem nodup_of_len {α : Type} [DecidableEq α] : ∀ {M L : List α}, L.Nodup → (∀ x ∈ L, x ∈ M) → M.length ≤ L.length → M.Nodup
  | [], _, _, _, _ => List.nodup_nil
  | a :: M, L, nd, hs, hl => by
    have na : a ∉ M := fun ha => by
      have z := List.Nodup.length_le_of_subset (l₂ := M) nd fun x hx => by
        rcases List.mem_cons.mp (hs x hx) with e | e
        · rw [e]; exact ha
        · exact e
      rw [List.length_cons] at hl
      omega
    refine List.nodup_cons.mpr ⟨na, nodup_of_len (L := L.erase a) (nd.erase a) (fun x hx => ?_) ?_⟩
    · rcases List.mem_cons.mp (hs x (List.mem_of_mem_erase hx)) with e | e
      · subst e
        exact absurd hx (fun z => by
          have := (List.Nodup.mem_erase_iff nd).mp z
          exact this.1 rfl)
      · exact e
    · rw [List.length_erase]
      rw [List.length_cons] at hl
      split <;> omega
end K95

set_option Elab.async false
set_option linter.all false
set_option maxRecDepth 100000
namespace K95
open PySem PySem.Spec PyProof.Rows L2
/-! ### the text by places -/
def top (i : Nat) : Stmt := PySem.Challenge.pw_evenmeet_k95_whole_turned_from_bases.main.body.getD i (.Pass ⟨0, 0, 0, 0⟩)
abbrev sWholeL : Stmt := top 7
abbrev sPoint : Stmt := top 9
abbrev sBlock : Stmt := top 10
abbrev sSorted : Stmt := top 11
abbrev sIsRow : Stmt := top 12
abbrev sRenamed : Stmt := top 13
abbrev sWholeN : Stmt := top 15
abbrev sCheck : Stmt := top 18
abbrev sTurned : Stmt := top 19
abbrev sDev : Stmt := top 20
abbrev sCounted : Stmt := top 21
abbrev sTold : Stmt := top 22
abbrev sCompl : Stmt := top 24
abbrev sCell : Stmt := top 26
abbrev sNumbers : Stmt := top 27
abbrev sRow : Stmt := top 28
abbrev sMask : Stmt := top 29
abbrev sOfSize : Stmt := top 30
abbrev sAllSets : Stmt := top 31
abbrev sTurnedBase : Stmt := top 32
abbrev sEven : Stmt := top 33
abbrev sLayout : Stmt := top 34
abbrev sRebuilt : Stmt := top 35
abbrev sTurning : Stmt := top 36
abbrev sLaw : Stmt := top 37
abbrev FnP (K : PySem.W.Frag) (x : Str) (st : Stmt) (f : Addr) (fd : FuncData) : Prop := FunD K x x (defArgs st) (defBody st) (defScope st) [] [] f fd
end K95

set_option Elab.async false
set_option linter.all false
set_option maxRecDepth 100000
set_option maxHeartbeats 0
namespace K95
open PySem PySem.Spec PyProof.Rows L2
abbrev dd (x n : Str) (st : Stmt) : He.DefD := ⟨(x, none), n, n, defArgs st, defBody st, defScope st, [], []⟩
def fn : List He.DefD := [dd "is_whole_layouts" "is_whole" sWholeL, dd "is_point" "is_point" sPoint, dd "is_block" "is_block" sBlock, dd "sorted_layout" "sorted_layout" sSorted,
  dd "is_row" "is_row" sIsRow, dd "renamed" "renamed" sRenamed, dd "is_whole_numbers" "is_whole" sWholeN, dd "check_bases" "check_bases" sCheck, dd "turned" "turned" sTurned,
  dd "developed" "developed" sDev, dd "counted" "counted" sCounted, dd "turns_told" "turns_told" sTold, dd "complement" "complement" sCompl,
  dd "_law_cell" "_law_cell" sCell, dd "_law_numbers" "_law_numbers" sNumbers, dd "_law_row" "_law_row" sRow, dd "_law_mask" "_law_mask" sMask, dd "_law_of_size" "_law_of_size" sOfSize,
  dd "_law_all_sets" "_law_all_sets" sAllSets, dd "_law_turned_base" "_law_turned_base" sTurnedBase, dd "_law_even_blocks" "_law_even_blocks" sEven, dd "_law_layout" "_law_layout" sLayout,
  dd "_law_rebuilt" "_law_rebuilt" sRebuilt, dd "_law_turning" "_law_turning" sTurning, dd "law" "law" sLaw]
def fa : List He.Fa := [.int "MOST_POINTS" 60, .int "MOST_BLOCKS" 200, .free "isinstance", .free "int", .free "bool", .free "list", .free "tuple", .free "len", .free "all", .free "set", .free "sorted", .free "range", .free "min", .free "abs",
  .glo "is_whole_layouts", .glo "is_point", .glo "is_block", .glo "sorted_layout", .glo "is_row", .glo "renamed", .glo "is_whole_numbers", .glo "check_bases", .glo "turned", .glo "developed", .glo "counted", .glo "turns_told", .glo "complement",
  .glo "_law_cell", .glo "_law_numbers", .glo "_law_row", .glo "_law_mask", .glo "_law_of_size", .glo "_law_all_sets", .glo "_law_turned_base", .glo "_law_even_blocks", .glo "_law_layout", .glo "_law_rebuilt", .glo "_law_turning", .glo "law"]
abbrev RR : PySem.W.OpenRow := PySem.W.OpenLaw.row PySem.Challenge.rw_evenmeet_k95_whole_turned_from_bases
abbrev hk : PySem.W.Hook := He.hookD 5 fa fn
def ob (s : PySem.W.SharedT) : He.AlD := He.obsDG 5 fa fn (HandSHeadRun.getT s)
theorem ob_eq (s : PySem.W.SharedT) : ob s = hk.obs s.abs := He.obsDG_eq (HandSHeadRun.getT_eq s)
def names : List PySem.Str := ["MeetError", "NoRow", "NoBases", "MOST_POINTS", "MOST_BLOCKS", "is_whole", "is_whole_layouts", "is_point", "is_block", "sorted_layout", "is_row", "renamed", "is_whole_numbers", "check_bases", "turned", "developed", "counted", "turns_told", "complement",
  "_law_cell", "_law_numbers", "_law_row", "_law_mask", "_law_of_size", "_law_all_sets", "_law_turned_base", "_law_even_blocks", "_law_layout", "_law_rebuilt", "_law_turning"]
theorem run (w : World) : HandSHeadRun.RunEq RR (PySem.W.view RR.prog [37]) hk ob 3000 names w := by
  intro os
  kernel_rfl
end K95

set_option Elab.async false
set_option linter.all false
set_option maxRecDepth 100000
set_option maxHeartbeats 1000000
namespace K95
open PySem PySem.Spec PyProof.Rows L2

theorem lexLt_ltL : ∀ a b : List Int, HT.lexLt a b = ltL a b
  | [], [] => rfl
  | [], _ :: _ => rfl
  | _ :: _, [] => rfl
  | x :: a, y :: b => by rw [HT.lexLt_cons, ltL_cons, lexLt_ltL a b]
theorem swo_ltL {α : Type} (f : α → List Int) : SrtO.Swo fun u v => ltL (f u) (f v) := by
  refine ⟨fun x y h => ltL_asymm h, fun x y z h1 h2 => ?_⟩
  exact leL_trans (a := f x) (b := f y) (c := f z) h1 h2

/-! ### tuples of ints of any lengths, as keys of a sort -/
section
variable {prog : Program} {w : World} {A : Around} {E : Value → Shared → Prop} {s : Shared}

theorem lex_any {b fin : Bool} {Q : Bool → Shared → Prop} {xs ys : List Value} {ns ms : List Int} (i : Nat) (hx : IntsAre xs ns) (hy : IntsAre ys ms) (hf : fin = decide (ns.length < ms.length))
    (h : Q (ltL ns ms) s) : PySem.W.KatLex prog w A b fin Q (xs.zip ys) i s := by
  induction hx generalizing ys ms i with
  | nil =>
    cases hy with
    | nil =>
      have e : fin = ltL [] [] := by rw [hf]; rfl
      rw [← e] at h
      exact PySem.W.kat_nil h
    | @cons q u ys ms hy =>
      have e : fin = ltL [] (q :: ms) := by
        rw [hf]
        exact decide_eq_true (by simp)
      rw [← e] at h
      exact PySem.W.kat_nil h
  | @cons p t xs ns hx ih =>
    cases hy with
    | nil =>
      have e : fin = ltL (p :: ns) [] := by
        rw [hf]
        exact decide_eq_false (by simp)
      rw [← e] at h
      exact PySem.W.kat_nil h
    | @cons q u ys ms hy =>
      have hf' : fin = decide (ns.length < ms.length) := by
        rw [hf]
        simp
      show PySem.W.KatLex prog w A b fin Q ((Value.int p t, Value.int q u) :: xs.zip ys) i s
      refine PySem.W.kat_cons (wpAny_eqBool_int ?_)
      rw [ltL_cons] at h
      by_cases e : p = q
      · rw [if_pos e] at h
        have e2 : (p == q) = true := beq_iff_eq.mpr e
        rw [e2]
        exact PySem.W.kat_yes (ih (i + 1) hy hf' h)
      · rw [if_neg e] at h
        have e2 : (p == q) = false := beq_eq_false_iff_ne.mpr e
        rw [e2]
        exact PySem.W.kat_no (TS.oneLt_ints _ h)

theorem tups_general {u v : Value} {ns ms : List Int} {Q : Bool → Shared → Prop} (h1 : TS.TupInts s.heap u ns) (h2 : TS.TupInts s.heap v ms) (hu : A.units < cLine) (h : Q (ltL ns ms) s) :
    wpAny (model prog w) A (keyLt' general' u v) Q E s := by
  obtain ⟨a, xs, rfl, ta, ia⟩ := h1
  obtain ⟨b, ys, rfl, tb, ib⟩ := h2
  show wpAny _ _ (oneLt' false _ _) _ _ _
  refine PySem.W.kat_one _ _ (HT.lt_tupInts ta tb ia ib hu ?_)
  rw [lexLt_ltL]
  exact h
theorem tups_one {u v : Value} {ns ms : List Int} {Q : Bool → Shared → Prop} (h1 : TS.TupInts s.heap u ns) (h2 : TS.TupInts s.heap v ms) (hu : A.units < cLine) (h : Q (ltL ns ms) s) :
    wpAny (model prog w) A (keyLt' oneType' u v) Q E s := by
  obtain ⟨a, xs, rfl, ⟨⟨cls, dd, data, sl⟩, ho, hc, n, hd⟩, ia⟩ := h1
  obtain ⟨b, ys, rfl, ⟨⟨cls2, dd2, data2, sl2⟩, ho2, hc2, n2, hd2⟩, ib⟩ := h2
  simp only at hc hd hc2 hd2
  subst hc hd hc2 hd2
  rw [keyLt'_oneType, oneLt'_eq]
  simp only [if_true]
  refine wpAny_bind (wpAny_cRoomFor hu ?_)
  refine wpAny_bind (wpAny_callSpecialIfBound?_slot (T := "tuple") ⟨_, ho, rfl⟩ PySem.F.slot_tuple_lt (call_meets PySem.F.slot_tuple_lt ⟨_, ho, rfl⟩ PySem.F.entry_tuple_lt (PySem.F.args_tuple_lt_2 _ _) (HT.tuple_lt_ints a b xs ys n n2 dd dd2 sl sl2 ns ms ia ib) ⟨ho, ho2, ?_⟩))
  rw [lexLt_ltL]
  exact wpAny_truthy_bool h
theorem tups_pairs {u v : Value} {ns ms : List Int} {k : Bool} {Q : Bool → Shared → Prop} (h1 : TS.TupInts s.heap u ns) (h2 : TS.TupInts s.heap v ms) (h : Q (ltL ns ms) s) :
    wpAny (model prog w) A (keyLt' (tuples' k) u v) Q E s := by
  obtain ⟨a, xs, rfl, ⟨o, ho, hc, n, hd⟩, ia⟩ := h1
  obtain ⟨b, ys, rfl, ⟨o2, ho2, hc2, n2, hd2⟩, ib⟩ := h2
  refine PySem.W.kat_lt ho hd ho2 hd2 (lex_any 0 ia ib ?_ h)
  have l1 := ia.length
  have l2 := ib.length
  rw [Array.length_toList] at l1 l2
  rw [l1, l2]

/-- the first items -/
theorem firsts_opt {f : Value → List Int} : ∀ (vs : List Value), (∀ v ∈ vs, TS.TupInts s.heap v (f v)) → ∃ fs : List (Option Value), fs.length = vs.length ∧
    (∀ {R : List (Option Value) → Shared → Prop}, R fs s → wpAny (model prog w) A (vs.mapM firstOfTuple') R E s) ∧ (fs.all (·.isSome) = true → ∀ v ∈ vs, f v ≠ [])
  | [], _ => ⟨[], rfl, fun h => by rw [List.mapM_nil]; exact wpAny_pure h, fun _ v hv => nomatch hv⟩
  | v :: vs, hx => by
    obtain ⟨fs, hl, hr, hn⟩ := firsts_opt vs fun u hu => hx u (List.mem_cons_of_mem _ hu)
    obtain ⟨a, xs, e, ⟨o, ho, hc, n, hd⟩, i⟩ := hx v (List.mem_cons_self ..)
    refine ⟨xs[0]? :: fs, by rw [List.length_cons, List.length_cons, hl], fun {R} h => ?_, fun h u hu => ?_⟩
    · rw [List.mapM_cons, e]
      refine wpAny_bind ?_
      rw [PySem.W.kas_first_eq]
      refine wpAny_bind (PySem.W.Looks.here (show PySem.W.Looks _ s.heap (typeOf (.ref a)) o.cls from (PySem.W.Looks.ld ho).andThen .now) ?_)
      rw [hc, if_neg (by first | decide | simp)]
      refine wpAny_bind (listItems_at ho hd (wpAny_pure ?_))
      exact wpAny_bind (hr (R := fun bs s' => wpAny _ A (pure (xs[0]? :: bs)) R E s') (wpAny_pure h))
    · rw [List.all_cons, Bool.and_eq_true] at h
      rcases List.mem_cons.mp hu with z | z
      · rw [z]
        intro q
        rw [q] at i
        have l := i.length
        rw [Array.length_toList, List.length_nil] at l
        have e0 : xs[0]? = none := by
          rw [Array.getElem?_eq_none]
          omega
        rw [e0] at h
        exact absurd h.1 (by simp)
      · exact hn h.2 u z
theorem firsts_all {h : Heap} {f : Value → List Int} : ∀ (vs : List Value), (∀ v ∈ vs, TS.TupInts h v (f v)) → (∀ v ∈ vs, f v ≠ []) → ∃ fs, PySem.W.KatTups h vs fs ∧ fs.length = vs.length ∧ ∀ u, u ∈ fs → ∃ n t, u = Value.int n t
  | [], _, _ => ⟨[], PySem.W.KatTups.nil, rfl, fun u hu => nomatch hu⟩
  | v :: vs, x, ne => by
    obtain ⟨fs, k, hl, hi⟩ := firsts_all vs (fun u hu => x u (List.mem_cons_of_mem _ hu)) fun u hu => ne u (List.mem_cons_of_mem _ hu)
    obtain ⟨a, xs, rfl, ⟨o, ho, hc, n, hd⟩, i⟩ := x v (List.mem_cons_self ..)
    have hne := ne _ (List.mem_cons_self ..)
    obtain ⟨y, ys, e⟩ : ∃ y ys, xs.toList = y :: ys := by
      cases q : xs.toList with
      | nil =>
        rw [q] at i
        generalize f (Value.ref a) = z at i hne
        cases i
        exact absurd rfl hne
      | cons y ys => exact ⟨y, ys, rfl⟩
    obtain ⟨m, t, hy⟩ := i.all y (by rw [e]; exact List.mem_cons_self ..)
    have hf : xs[0]? = some y := by
      have z := congrArg (fun l : List Value => l[0]?) e
      simpa using z
    refine ⟨y :: fs, PySem.W.KatTups.cons ho hc hd hf k, by rw [List.length_cons, List.length_cons, hl], fun u hu => ?_⟩
    rcases List.mem_cons.mp hu with rfl | hu
    · exact ⟨m, t, hy⟩
    · exact hi u hu
/-- the kind that is found, and what it asks -/
theorem kind_any {vs : List Value} {f : Value → List Int} (h2 : 2 ≤ vs.length) (x : ∀ v ∈ vs, TS.TupInts s.heap v (f v)) : ∃ κ, (κ = general' ∨ κ = oneType' ∨ κ = tuples' true) ∧
    ∀ (Q : SortKind → Shared → Prop) (E : Value → Shared → Prop), Q κ s → wpAny (model prog w) A (keyKind' vs.toArray) Q E s := by
  by_cases hne : ∀ v ∈ vs, f v ≠ []
  · obtain ⟨fs, k, hl, hi⟩ := firsts_all vs x hne
    refine ⟨tuples' true, .inr (.inr rfl), fun Q E hQ => PySem.W.kat_kind (T := Value.type "int") k (by omega) (fun u hu => ?_) rfl ?_⟩
    · obtain ⟨n, t, rfl⟩ := hi u hu
      exact PySem.W.Looks.of_pure rfl
    · have e : (Value.type "int" != Value.type "tuple") = true := by first | decide +kernel | rfl | decide
      rw [e]
      exact hQ
  · have hl0 : ∀ (E : Value → Shared → Prop), ∃ fs : List (Option Value), fs.length = vs.length ∧ (∀ {R : List (Option Value) → Shared → Prop}, R fs s → wpAny (model prog w) A (vs.mapM firstOfTuple') R E s) ∧ fs.all (·.isSome) = false := fun E => by
      obtain ⟨fs, hl, hr, hn⟩ := firsts_opt (prog := prog) (w := w) (A := A) (E := E) vs x
      refine ⟨fs, hl, hr, ?_⟩
      cases q : fs.all (·.isSome) with
      | false => rfl
      | true => exact absurd (hn q) hne
    have ty : ∀ v ∈ vs, PySem.W.Looks (model prog w) s.heap (typeOf v) (Value.type "tuple") := fun v hv => by
      obtain ⟨a, xs, rfl, ⟨o, ho, hc, n, hd⟩, i⟩ := x v hv
      have z : PySem.W.Looks (model prog w) s.heap (typeOf (.ref a)) o.cls := (PySem.W.Looks.ld ho).andThen .now
      rw [hc] at z
      exact z
    obtain ⟨v0, vr, ev⟩ : ∃ v0 vr, vs = v0 :: vr := by
      match vs, h2 with
      | v0 :: vr, _ => exact ⟨v0, vr, rfl⟩
    obtain ⟨a0, xs0, e0, ⟨o0, ho0, hc0, n0, hd0⟩, i0⟩ := x v0 (by rw [ev]; exact List.mem_cons_self ..)
    have fin : ∀ (κ : SortKind), (if (xs0[0]?).isSome = true then κ = general' else κ = oneType') → ∀ (Q : SortKind → Shared → Prop) (E : Value → Shared → Prop), Q κ s → wpAny (model prog w) A (keyKind' vs.toArray) Q E s := by
      intro κ hκ Q E hQ
      rw [kat_kind_eq, List.mapM_toArray, map_eq_pure_bind]
      -- the first one's first
      have step : ∃ fr : List (Option Value), (∀ {R : List (Option Value) → Shared → Prop}, R (xs0[0]? :: fr) s → wpAny (model prog w) A (vs.mapM firstOfTuple') R E s) ∧ (xs0[0]? :: fr).all (·.isSome) = false := by
        obtain ⟨fs, hl, hr, hn⟩ := firsts_opt (prog := prog) (w := w) (A := A) (E := E) vr (f := f) fun u hu => x u (by rw [ev]; exact List.mem_cons_of_mem _ hu)
        refine ⟨fs, fun {R} h => ?_, ?_⟩
        · rw [ev, List.mapM_cons, e0]
          refine wpAny_bind ?_
          rw [PySem.W.kas_first_eq]
          refine wpAny_bind (PySem.W.Looks.here (show PySem.W.Looks _ s.heap (typeOf (.ref a0)) o0.cls from (PySem.W.Looks.ld ho0).andThen .now) ?_)
          rw [hc0, if_neg (by first | decide | simp)]
          refine wpAny_bind (listItems_at ho0 hd0 (wpAny_pure ?_))
          exact wpAny_bind (hr (R := fun bs s' => wpAny _ A (pure (xs0[0]? :: bs)) R E s') (wpAny_pure h))
        · cases q : (xs0[0]? :: fs).all (·.isSome) with
          | false => rfl
          | true =>
            rw [List.all_cons, Bool.and_eq_true] at q
            refine absurd (fun v hv => ?_) hne
            rw [ev] at hv
            rcases List.mem_cons.mp hv with z | z
            · rw [z]
              intro z2
              rw [z2] at i0
              have l := i0.length
              rw [Array.length_toList, List.length_nil] at l
              have e1 : xs0[0]? = none := by
                rw [Array.getElem?_eq_none]
                omega
              rw [e1] at q
              exact absurd q.1 (by simp)
            · exact hn q.2 v z
      obtain ⟨fr, hr, hall⟩ := step
      refine wpAny_bind (wpAny_bind (hr (wpAny_pure ?_)))
      have hall' : ((xs0[0]? :: fr).toArray.all fun x => x.isSome) = false := by
        rw [List.all_toArray]
        exact hall
      rw [if_neg (by rw [hall']; exact Bool.false_ne_true)]
      have h0 : ((xs0[0]? :: fr).toArray[0]?.bind id) = xs0[0]? := by simp
      rw [h0]
      by_cases q : (xs0[0]?).isSome = true
      · rw [if_pos q] at hκ ⊢
        rw [← hκ]
        exact wpAny_pure hQ
      · rw [if_neg q] at hκ ⊢
        rw [oneTypeOnly'_eq, List.mapM_toArray, map_eq_pure_bind]
        refine wpAny_bind (wpAny_bind (wpAny_bind (PySem.W.kas_mapM (r := Value.type "tuple") _ (fun v hv Q' hq => (ty v hv).here hq) (wpAny_pure ?_))))
        have hall2 : ((List.map (fun _ => Value.type "tuple") vs).toArray.all fun x => x == Value.type "tuple") = true := by
          simp
        have h00 : (List.map (fun _ => Value.type "tuple") vs).toArray[0]? = some (Value.type "tuple") := by rw [ev]; simp
        rw [h00]
        simp only [hall2, if_true]
        refine wpAny_pure (wpAny_pure ?_)
        rw [hκ] at hQ
        exact hQ
    by_cases q : (xs0[0]?).isSome = true
    · exact ⟨general', .inl rfl, fin general' (by rw [if_pos q])⟩
    · exact ⟨oneType', .inr (.inl rfl), fin oneType' (by rw [if_neg q])⟩
theorem sortable_tups {a : Addr} {vs : List Value} {f : Value → List Int} (h2 : 2 ≤ vs.length) (hu : A.units < cLine) (hp : ∀ v ∈ vs, TS.TupInts s.heap v (f v)) (ha : ∀ o, s.heap.get? a = some o → o.cls ≠ .type "tuple") :
    SrtO.SortableO prog w A s a vs fun u v => ltL (f u) (f v) := by
  intro h' keep
  have hp' : ∀ v ∈ vs, TS.TupInts h' v (f v) := fun v hm => (hp v hm).keeps fun b o e c => keep b o (fun z => by subst z; exact ha o e c) e
  obtain ⟨κ, hκ, hk⟩ := kind_any (prog := prog) (w := w) (A := A) (s := { s with heap := h' }) h2 hp'
  refine ⟨κ, hk, fun p q hm hm' => ?_⟩
  have x := hp' _ hm
  have y := hp' _ hm'
  rcases hκ with rfl | rfl | rfl
  · exact tups_general x y hu ⟨rfl, rfl⟩
  · exact tups_one x y hu ⟨rfl, rfl⟩
  · exact tups_pairs x y ⟨rfl, rfl⟩
end
end K95

set_option Elab.async false
set_option linter.all false
set_option maxRecDepth 100000
set_option maxHeartbeats 1000000
namespace K95
open PySem PySem.Spec PyProof.Rows L2
section
variable {prog : Program} {w : World} {A : Around} {E : Value → Shared → Prop} {s : Shared}
/-- sorted of what is gathered -/
theorem sorted_from {x : Value} {Q : Value → Shared → Prop}
    (hc : wpAny (model prog w) A.in1 (collect x) (fun vs s1 => vs.length ≤ sizeLine ∧ ∃ ltv : Value → Value → Bool, SrtO.Swo ltv ∧
      (2 ≤ vs.length → ∀ (h1 : Heap) (a : Addr), (∀ b o, s1.heap.get? b = some o → h1.get? b = some o) → (∃ n, h1.get? a = some (seqObj "list" vs.toArray n)) → SrtO.SortableO prog w A.in1.in1 { s1 with heap := h1 } a vs ltv) ∧
      ∀ (out : List Value) (h' : Heap) (d : Addr), SrtO.Srtd ltv out → out.Perm vs → (∀ b o, s1.heap.get? b = some o → h'.get? b = some o) → s1.heap.objs.size ≤ d → (∃ n, h'.get? d = some (seqObj "list" out.toArray n)) → Q (.ref d) { s1 with heap := h' }) E s) :
    wpAny (model prog w) A (call (.builtin "sorted") [x]) Q E s := by
  refine Calls.call_function_entry kind_sorted plain_sorted entry_sorted (args_sorted1 _) ?_
  unfold Builtin.«sorted»
  refine wpAny_bind (m := checkCount "sorted" 1 1 _) (wpAny_pure ?_)
  refine wpAny_bind (wpAny_mono hc (fun vs s1 h => ?_) fun _ _ e => e)
  obtain ⟨hz, ltv, O, hS, hQ⟩ := h
  refine wpAny_bind (wpAny_newList ?_ hz)
  have hoL : (s1.heap.push (seqObj "list" vs.toArray 0)).get? s1.heap.objs.size = some (seqObj "list" vs.toArray 0) := Heap.get?_push_size _ rfl
  have keep : ∀ b o, s1.heap.get? b = some o → (s1.heap.push (seqObj "list" vs.toArray 0)).get? b = some o := fun b o e => Heap.get?_push_of_some _ e
  refine wpAny_bind (wpAny_holding (wpAny_call_entry slot_list_sort ⟨_, hoL, rfl⟩ entry_list_sort (SrtO.list_sort_ord (s := { s1 with heap := s1.heap.push (seqObj "list" vs.toArray 0) }) O hoL hz (fun h2 => hS h2 _ _ keep ⟨_, hoL⟩) fun out hs hb => ⟨_, rfl, ?_⟩) (args_list_sort _)))
  refine wpAny_pure ⟨_, rfl, hQ out _ _ hs hb.perm (fun b o e => ?_) (Nat.le_refl _) (sortedHeap_at hoL)⟩
  have hlt := Heap.lt_size e
  show (sortedHeap (s1.heap.push (seqObj "list" vs.toArray 0)) s1.heap.objs.size vs out.toArray).get? b = some o
  rw [sortedHeap_old (Nat.ne_of_lt hlt) (by rw [size_push']; exact Nat.lt_succ_of_lt hlt)]
  exact keep b o e
/-- the items of a list or a tuple, gathered: the new list stands behind all that stood -/
theorem collect_sq {R : List Value → Shared → Prop} (a : Addr) {T : String} {o : Obj} {items : Array Value} {n : Nat} (hT : T = "list" ∨ T = "tuple") (ho : s.heap.get? a = some o) (hc : o.cls = .type T) (hd : o.data = .seq items n) (hz : items.size ≤ sizeLine)
    (hR : ∀ h', (∀ b u, s.heap.get? b = some u → h'.get? b = some u) → s.heap.objs.size ≤ h'.objs.size → R items.toList { s with heap := h' }) : wpAny (model prog w) A (collect (.ref a)) R E s := by
  let h1 : Heap := s.heap.push { cls := .type "list", data := .seq ([] : List Value).toArray }
  let h2 : Heap := h1.update s.heap.objs.size (Obj.mapSeq (· ++ items))
  have k1 : ∀ b u, s.heap.get? b = some u → h2.get? b = some u := fun b u e => (Heap.get?_update_other _ _ (Nat.ne_of_gt (Heap.lt_size e))).trans (Heap.get?_push_of_some _ e)
  have z1 : s.heap.objs.size ≤ h2.objs.size := by
    show s.heap.objs.size ≤ (h1.update _ _).objs.size
    rw [Heap.size_update, Heap.size_push]
    exact Nat.le_succ _
  have g0 : h1.get? s.heap.objs.size = some { cls := .type "list", data := .seq #[] 0 } := Heap.get?_push_size _ rfl
  have g1 := Heap.get?_update_self (Obj.mapSeq (· ++ items)) g0 rfl
  have last : ∀ (r : Result) (s' : Shared), r = .ok (.ret (.ref s.heap.objs.size)) ∧ s' = { s with heap := h2 } → wpAny (model prog w) A (match Value.ref s.heap.objs.size with
      | Value.ref a => do
        match (← load a).data with
          | Data.seq xs _ => pure xs.toList
          | _ => unsupported "internal:collect"
      | _ => unsupported "internal:collect") R E s' := by
    rintro r s' ⟨_, rfl⟩
    show wpAny _ A (load s.heap.objs.size >>= _) _ _ _
    refine wpAny_bind (wpAny_load g1 (wpAny_pure ?_))
    have e : ((#[] : Array Value) ++ items).toList = items.toList := by simp
    show R ((#[] : Array Value) ++ items).toList _
    rw [e]
    exact hR h2 k1 z1
  unfold collect
  refine wpAny_bind (wpAny_runValue (codeAny_builtin PySem.F.entry_proto_collect ?_))
  rw [Around.under_plainId PySem.F.plain_proto_collect _]
  show wpAny _ A.in1 (newList [] >>= fun l => again (.builtin "list.__iadd__" ⟨[l, .ref a], []⟩)) _ _ s
  refine wpAny_bind (wpAny_newObj_type (wpAny_pure ⟨plainId_quiet PySem.F.plain_list_iadd _, codeAny_builtin PySem.F.entry_list_iadd ?_⟩))
  rw [Around.under_plainId PySem.F.plain_list_iadd _]
  show wpAny _ A.in1 (Builtin.List.listExtendWith (.ref s.heap.objs.size) (.ref a) (.ref s.heap.objs.size)) _ _ _
  refine wpAny_mono (wpAny_extend_seq (hsz := hz) (A := A) (R := fun r s' => r = .ok (.ret (.ref s.heap.objs.size)) ∧ s' = { s with heap := h2 }) (s := { s with heap := h1 }) _ a _ 0 hT g0 (Heap.get?_push_of_some _ ho) hc hd ⟨rfl, rfl⟩) (fun fin s' q => ?_) fun e s' q => absurd q.1 (by simp)
  cases fin with
  | done f =>
    obtain ⟨e, e2⟩ := q
    cases e
    exact last _ _ ⟨rfl, e2⟩
  | again c =>
    refine ⟨q.1, codeAny_mono q.2 fun r s2 hr => ?_⟩
    obtain ⟨e, e2⟩ := hr
    subst e
    exact last _ _ ⟨rfl, e2⟩
end

/-! ### as rules of the layer -/
/-- a tuple of these ints -/
abbrev TupB (K : PySem.W.Frag) (H : Hp) (p : Addr × List Int) : Prop := SqT K H p.1 (p.2.map V.int)
theorem tupB_raw {X : Cx} {pins : List (Addr × Obj)} {σ : L2.St} {H : Hp} {s : Shared} (I : Inv X pins σ H s) {p : Addr × List Int} (h : TupB X.K H p) : TS.TupInts s.heap (.ref p.1) p.2 := tupI_raw I h
/-- what a sort leaves, as a list of tuples -/
theorem lift_out {ps : List (Addr × List Int)} {out : List Value} (p : out.Perm (ps.map fun q => Value.ref q.1)) : ∃ ps' : List (Addr × List Int), ps'.Perm ps ∧ ps'.map (fun q => Value.ref q.1) = out :=
  perm_lift (fun q : Addr × List Int => Value.ref q.1) p ps rfl
theorem srtd_lift {ps : List (Addr × List Int)} {f : Value → List Int} (hf : ∀ p ∈ ps, f (.ref p.1) = p.2) (h : SrtO.Srtd (fun u v => ltL (f u) (f v)) (ps.map fun q => Value.ref q.1)) : ps.Pairwise fun p q => leL p.2 q.2 := by
  refine List.Pairwise.imp_of_mem (fun {p q} hp hq z => ?_) (List.pairwise_map.mp h)
  have z2 : ltL (f (.ref q.1)) (f (.ref p.1)) = false := z
  rw [hf q hq, hf p hp] at z2
  exact z2
section
variable {X : Cx}
/-- sorted(xs), xs a list or a tuple of tuples of ints -/
def rSortB (K : PySem.W.Frag) : List V → Hp → VK → Prop := fun vs H Q => ∃ (a : Addr) (ps : List (Addr × List Int)), vs = [V.ref a] ∧ (SqL K H a (ps.map fun p => V.ref p.1) ∨ SqT K H a (ps.map fun p => V.ref p.1)) ∧ (∀ p ∈ ps, TupB K H p) ∧
  ∀ (ps' : List (Addr × List Int)) (l : Addr), ps'.Perm ps → ps'.Pairwise (fun p q => leL p.2 q.2) → H l = none → Q (.ref l) (upd H l (.lst (ps'.map fun p => V.ref p.1)))
theorem cr_sortB (hu : X.A.units + 64 < cLine) : CallR X (.builtin "sorted") (rSortB X.K) := by
  intro pins s σ H vs us Q I r h
  obtain ⟨a, ps, rfl, hs, hx, q⟩ := h
  rw [Vals.ref1 r]
  obtain ⟨its, T, o, n, hT, ho, hc, hd, rv, hz⟩ : ∃ (its : List Value) (T : String) (o : Obj) (n : Nat), (T = "list" ∨ T = "tuple") ∧ s.heap.get? a = some o ∧ o.cls = .type T ∧ o.data = .seq its.toArray n ∧ Vals (ps.map fun p => V.ref p.1) its ∧ (ps.map fun p => V.ref p.1).length ≤ sizeLine := by
    rcases hs with hs | hs
    · obtain ⟨its, rv, pl, hz⟩ := I.list hs
      obtain ⟨o, ho, hc, n, hd⟩ := pl.isList
      exact ⟨its, "list", o, n, .inl rfl, ho, hc, hd, rv, hz⟩
    · obtain ⟨its, rv, ⟨o, ho, hc, n, hd⟩, hz⟩ := I.tuple hs
      exact ⟨its, "tuple", o, n, .inr rfl, ho, hc, hd, rv, hz⟩
  have ei : its = ps.map fun p => Value.ref p.1 := refs_of_vals rv
  have hl : its.length ≤ sizeLine := by rw [← rv.length]; exact hz
  have hf : ∀ p ∈ ps, TS.TupInts s.heap (.ref p.1) p.2 := fun p hp => tupB_raw I (hx p hp)
  refine sorted_from (A := X.A) (collect_sq a hT ho hc hd (by rw [List.size_toArray]; exact hl) fun h' hk hkz => ?_)
  refine ⟨hl, fun u v => ltL (TS.intsOf s.heap u) (TS.intsOf s.heap v), swo_ltL _, fun h2 h1 b kb hb => ?_, fun out h2 d srt pm k2 hd' hn => ?_⟩
  · refine sortable_tups (s := { s with heap := h1 }) h2 (by show X.A.units + 1 + 1 < cLine; omega) (fun v hv => ?_) fun ob eb => ?_
    · rw [ei] at hv
      obtain ⟨p, hp, rfl⟩ := List.mem_map.mp hv
      have t := hf p hp
      rw [t.ints]
      exact t.keeps fun c u e _ => kb c u (hk c u e)
    · obtain ⟨m, e⟩ := hb
      have z := eb.symm.trans e
      cases z
      intro c
      exact absurd (Value.type.inj c) (by decide)
  · rw [List.toList_toArray, ei] at pm
    obtain ⟨ps', p1, p2⟩ := lift_out pm
    have hl' : (ps'.map fun p => V.ref p.1).length ≤ sizeLine := by
      rw [List.length_map, p1.length_eq]
      rw [List.length_map] at hz
      exact hz
    obtain ⟨m, hm⟩ := hn
    have hsz : s.heap.objs.size ≤ d := Nat.le_trans hkz hd'
    refine ⟨.ref d, upd H d (.lst (ps'.map fun p => V.ref p.1)), I.laid (t' := s.toks) (fun b u e => k2 b u (hk b u e)) hsz ⟨hl', out, m, ?_, hm⟩, rfl, q ps' d p1 (srtd_lift (f := TS.intsOf s.heap) (fun p hp => (hf p (p1.mem_iff.mp hp)).ints) (by rw [p2]; exact srt)) (I.hok.fresh hsz)⟩
    rw [← p2]
    exact vals_of_refs ps'
end
end K95

set_option Elab.async false
set_option linter.all false
set_option maxRecDepth 100000
set_option maxHeartbeats 1000000
namespace K95
open PySem PySem.Spec PyProof.Rows L2
section
variable {X : Cx} {pins : List (Addr × Obj)} {σ : L2.St} {H : Hp} {s : Shared}
/-- a new list laid behind a state that kept all -/
theorem laid_after (I : Inv X pins σ H s) {s1 : Shared} {h' : Heap} {d : Addr} {ho : HO} (k : ∀ b o, s.heap.get? b = some o → h'.get? b = some o) (hz : s.heap.objs.size ≤ d) (g : s1.gens = s.gens) (o : s1.os = s.os)
    (ob : ObjOk X.prog X.w (upd H d ho) h' d ho) : Inv X pins σ (upd H d ho) { s1 with heap := h' } := by
  have hn : H d = none := I.hok.fresh hz
  refine I.call' (s' := { s1 with heap := h' }) (ch := []) o (Un.laid k hz hn) (I.hok.laid k hz ob) ?_ (fun b z => nomatch z)
  show AllBare s1.gens
  rw [g]
  exact I.bare
end
section
variable {X : Cx}
/-- sorted(a set of tuples of ints) -/
def rSortS (K : PySem.W.Frag) (P : Program) (w : World) : List V → Hp → VK → Prop := fun vs H Q => ∃ (a : Addr) (L : List (Addr × List Int)), vs = [V.ref a] ∧ H a = some (SetTO P w a L) ∧ (∀ p ∈ L, TupB K H p) ∧
  ∀ (ps' : List (Addr × List Int)) (l : Addr), ps'.Perm L → (ps'.map (·.2)).Nodup → ps'.Pairwise (fun p q => leL p.2 q.2) → H l = none → Q (.ref l) (upd H l (.lst (ps'.map fun p => V.ref p.1)))
theorem cr_sortS (hc : X.calm = true) (hu : X.A.units + 64 < cLine) : CallR X (.builtin "sorted") (rSortS X.K X.prog X.w) := by
  intro pins s σ H vs us Q I r h
  obtain ⟨a, L, rfl, ha, hx, q⟩ := h
  rw [Vals.ref1 r]
  have R0 : SetT0 X.prog X.w s.heap a L := (I.hok a _ ha).1
  obtain ⟨es, ep, t, R⟩ := R0.full fun p hp => I.isT (hx p hp)
  obtain ⟨o, ho, hex, hd⟩ := R.ob
  have hsz := R.size
  have hfew := R.few
  have hf : ∀ p ∈ L, TS.TupInts s.heap (.ref p.1) p.2 := fun p hp => tupB_raw I (hx p hp)
  refine sorted_from (A := X.A) (collect_set (A := X.A.in1) (I.ok.hd hc) ⟨o, ho, hex.1, hd⟩ R.fits (by unfold scanBound; omega) R.tab.ris R.led fun s1 vs k1 hz g1 o1 pm => ?_)
  have hes : es.toList.map (·.2) = L.map fun q => Value.ref q.1 := by
    rw [R.rows]
    unfold rowsOf
    rw [List.map_map]
    rfl
  rw [hes] at pm
  have hl : vs.length ≤ sizeLine := by
    rw [pm.length_eq, List.length_map, sizeLine_eq]
    omega
  refine ⟨hl, fun u v => ltL (TS.intsOf s.heap u) (TS.intsOf s.heap v), swo_ltL _, fun h2 h1 b kb hb => ?_, fun out h2 d srt pm2 k2 hd' hn => ?_⟩
  · refine sortable_tups (s := { s1 with heap := h1 }) h2 (by show X.A.units + 1 + 1 < cLine; omega) (fun v hv => ?_) fun ob eb => ?_
    · obtain ⟨p, hp, rfl⟩ := List.mem_map.mp (pm.mem_iff.mp hv)
      have t := hf p hp
      rw [t.ints]
      exact t.keeps fun c u e _ => kb c u (k1 c u e)
    · obtain ⟨m, e⟩ := hb
      have z := eb.symm.trans e
      cases z
      intro c
      exact absurd (Value.type.inj c) (by decide)
  · obtain ⟨ps', p1, p2⟩ := lift_out (pm2.trans pm)
    have hl' : (ps'.map fun p => V.ref p.1).length ≤ sizeLine := by
      rw [List.length_map, p1.length_eq, sizeLine_eq]
      omega
    obtain ⟨m, hm⟩ := hn
    have hsz' : s.heap.objs.size ≤ d := Nat.le_trans hz hd'
    refine ⟨.ref d, upd H d (.lst (ps'.map fun p => V.ref p.1)), laid_after I (fun b u e => k2 b u (k1 b u e)) hsz' g1 o1 ⟨hl', out, m, ?_, hm⟩, rfl, q ps' d p1 ((p1.map (·.2)).nodup_iff.mpr R.nd) (srtd_lift (f := TS.intsOf s.heap) (fun p hp => (hf p (p1.mem_iff.mp hp)).ints) (by rw [p2]; exact srt)) (I.hok.fresh hsz')⟩
    rw [← p2]
    exact vals_of_refs ps'
/-- len(a set of tuples of ints) -/
def rLenS (P : Program) (w : World) : List V → Hp → VK → Prop := fun vs H Q => ∃ (a : Addr) (L : List (Addr × List Int)), vs = [V.ref a] ∧ H a = some (SetTO P w a L) ∧ ((L.map (·.2)).Nodup → L.length < 64 → Q (.int L.length) H)
theorem cr_lenS : CallR X (.builtin "len") (rLenS X.prog X.w) := by
  intro pins s σ H vs us Q I r h
  obtain ⟨a, L, rfl, ha, q⟩ := h
  rw [Vals.ref1 r]
  have R0 : SetT0 X.prog X.w s.heap a L := (I.hok a _ ha).1
  obtain ⟨es, ep, t, ⟨o, ho, hex, hd⟩, h2, h3, h4, h5, h6, h7, h8⟩ := R0.ex
  have hsz : es.size = L.length := by
    have e := congrArg List.length h2
    unfold rowsOf at e
    rw [Array.length_toList, List.length_map] at e
    exact e
  have hfit : t.fits es.size = true := by
    have h1 := h3.sz
    rw [List.length_map] at h1
    unfold SetTable.fits SetTable.fill
    rw [h3.dm, Bool.and_eq_true, beq_iff_eq, decide_eq_true_eq]
    show t.place.size = es.size ∧ t.place.size + 0 ≤ t.mask
    omega
  refine call_len_set ho hex hd hfit (by omega) ⟨.int L.length, H, I.tok _, ⟨_, by rw [hsz]⟩, q h4 h8⟩

/-! ### min of a list of tuples of ints -/
theorem best_spec {f : Nat → List Int} : ∀ k, argBest (fun i j => ltL (f i) (f j)) k ≤ k ∧ ∀ j, j ≤ k → leL (f (argBest (fun i j => ltL (f i) (f j)) k)) (f j)
  | 0 => ⟨Nat.le_refl _, fun j hj => by
    have e : j = 0 := by omega
    rw [e]
    exact ltL_irrefl _⟩
  | k + 1 => by
    obtain ⟨h1, h2⟩ := best_spec (f := f) k
    have e : argBest (fun i j => ltL (f i) (f j)) (k + 1) = if ltL (f (k + 1)) (f (argBest (fun i j => ltL (f i) (f j)) k)) = true then k + 1 else argBest (fun i j => ltL (f i) (f j)) k := rfl
    rw [e]
    by_cases c : ltL (f (k + 1)) (f (argBest (fun i j => ltL (f i) (f j)) k)) = true
    · rw [if_pos c]
      refine ⟨Nat.le_refl _, fun j hj => ?_⟩
      by_cases z : j = k + 1
      · rw [z]
        exact ltL_irrefl _
      · exact leL_trans (ltL_asymm c) (h2 j (by omega))
    · rw [if_neg c]
      refine ⟨by omega, fun j hj => ?_⟩
      by_cases z : j = k + 1
      · rw [z]
        show ltL _ _ = false
        exact Bool.eq_false_iff.mpr c
      · exact h2 j (by omega)
def rMinB (K : PySem.W.Frag) : List V → Hp → VK → Prop := fun vs H Q => ∃ (a : Addr) (ps : List (Addr × List Int)), vs = [V.ref a] ∧ SqL K H a (ps.map fun p => V.ref p.1) ∧ (∀ p ∈ ps, TupB K H p) ∧ ps ≠ [] ∧
  ∀ p ∈ ps, (∀ q ∈ ps, leL p.2 q.2) → Q (.ref p.1) H
theorem cr_minB (hc : X.calm = true) (hu : X.A.units + 64 < cLine) : CallR X (.builtin "min") (rMinB X.K) := by
  intro pins s σ H vs us Q I r h
  obtain ⟨a, ps, rfl, hs, hx, hne, q⟩ := h
  rw [Vals.ref1 r]
  obtain ⟨its, rv, pl, hz⟩ := I.list hs
  have ei : its = ps.map fun p => Value.ref p.1 := refs_of_vals rv
  have hf : ∀ p ∈ ps, TS.TupInts s.heap (.ref p.1) p.2 := fun p hp => tupB_raw I (hx p hp)
  have hsz : its.toArray.size = ps.length := by rw [List.size_toArray, ei, List.length_map]
  have hpos : 0 < ps.length := List.length_pos_iff.mpr hne
  have at_ : ∀ (i : Nat) (v : Value), its.toArray[i]? = some v → ∃ p, ps[i]? = some p ∧ v = .ref p.1 := fun i v e => by
    rw [List.getElem?_toArray, ei, List.getElem?_map] at e
    cases z : ps[i]? with
    | none =>
      rw [z] at e
      cases e
    | some p =>
      rw [z] at e
      exact ⟨p, rfl, (Option.some.inj e).symm⟩
  let f : Nat → List Int := fun i => (ps.map (·.2)).getD i []
  have fa : ∀ (i : Nat) (p : Addr × List Int), ps[i]? = some p → f i = p.2 := fun i p e => by
    show (ps.map (·.2)).getD i [] = p.2
    rw [List.getD_eq_getElem?_getD, List.getElem?_map, e]
    rfl
  refine call_min_walkH (A := X.A) (PySem.W.iter_listW (A := X.A.in1) (I.ok.hd hc) pl.isList fun s₂ e W st hfp hw hk => ?_)
  refine ⟨_, _, _, _, _, _, _, s.heap, fun i j => ltL (f i) (f j), rfl, W, st, hfp, by rw [hsz]; exact hpos, hw, hk, fun i j vi vj s' Q' E' hkk hi hj hQ => ?_, fun v s' hP m => ?_⟩
  · obtain ⟨p, ep, rfl⟩ := at_ i vi hi
    obtain ⟨p', ep', rfl⟩ := at_ j vj hj
    obtain ⟨b, xs, e1, t1, i1⟩ := hf p (List.mem_of_getElem? ep)
    obtain ⟨b', ys, e2, t2, i2⟩ := hf p' (List.mem_of_getElem? ep')
    cases e1
    cases e2
    have hlt : ∀ (Q2 : Value → Shared → Prop), Q2 (.bool (HT.lexLt p.2 p'.2)) s' → wpAny (model X.prog X.w) X.A.in1 (compareOp .Lt (.ref p.1) (.ref p'.1)) Q2 E' s' := fun Q2 h2 => HT.lt_tupInts (t1.keeps hkk) (t2.keeps hkk) i1 i2 (by show X.A.units + 1 < cLine; omega) h2
    refine hlt _ ?_
    rw [lexLt_ltL, ← fa i p ep, ← fa j p' ep']
    exact hQ
  · obtain ⟨h', tk, rfl, hk'⟩ := PySem.W.moved_old e rfl m
    obtain ⟨p, ep, rfl⟩ := at_ _ v hP
    obtain ⟨b1, b2⟩ := best_spec (f := f) (its.toArray.size - 1)
    refine ⟨.ref p.1, H, I.kept hk', rfl, q p (List.mem_of_getElem? ep) fun p' hp' => ?_⟩
    obtain ⟨j, hj⟩ := List.mem_iff_getElem?.mp hp'
    have hjl := (List.getElem?_eq_some_iff.mp hj).1
    have z := b2 j (by rw [hsz]; omega)
    rw [fa j p' hj, fa _ p ep] at z
    exact z
end
end K95

set_option Elab.async false
set_option linter.all false
set_option maxRecDepth 100000
set_option maxHeartbeats 1000000
namespace K95
open PySem PySem.Spec PyProof.Rows L2
/-! ### sorted(d.items()): keys are tuples of ints, values ints -/
theorem itemsAre_of {P : Program} {w : World} : ∀ {vs : List Value} {ns : List Int}, IntsAre vs ns → ItemsAre (intKind P w) ns vs
  | _, _, .nil => .nil
  | _, _, .cons n t r => .cons (intKind_is P w n t) (itemsAre_of r)
theorem tupKey_of {P : Program} {w : World} {h : Heap} {q : Addr} {ns : List Int} (x : TS.TupInts h (.ref q) ns) : IsTupleKey (intKind P w) h ns q := by
  obtain ⟨a, xs, e, ⟨o, ho, hc, n, hd⟩, i⟩ := x
  cases e
  exact ⟨o, xs, n, ho, hc, hd, itemsAre_of i⟩
/-- v is a pair: a tuple of ints, an int -/
def PairI (h : Heap) (v : Value) (k : List Int) (c : Int) : Prop := ∃ (a q : Addr) (t : Tok), v = .ref a ∧ IsTup h a #[.ref q, .int c t] ∧ TS.TupInts h (.ref q) k
theorem PairI.keeps {h h' : Heap} {v : Value} {k : List Int} {c : Int} (x : PairI h v k c) (kp : ∀ b o, h.get? b = some o → o.cls = .type "tuple" → h'.get? b = some o) : PairI h' v k c := by
  obtain ⟨a, q, t, e, ⟨o, ho, hc, r⟩, y⟩ := x
  exact ⟨a, q, t, e, ⟨o, kp _ _ ho hc, hc, r⟩, y.keeps kp⟩
/-- the key of a pair, read off the heap -/
def keyI (h : Heap) (v : Value) : List Int := match v with
  | .ref a => (match h.get? a with
    | some o => (match o.data with
      | .seq xs _ => TS.intsOf h (xs.getD 0 .none)
      | _ => [])
    | none => [])
  | _ => []
theorem PairI.key {h : Heap} {v : Value} {k : List Int} {c : Int} (x : PairI h v k c) : keyI h v = k := by
  obtain ⟨a, q, t, rfl, ⟨o, ho, hc, n, hd⟩, y⟩ := x
  simp only [keyI, ho, hd]
  exact y.ints
section
variable {prog : Program} {w : World} {A : Around} {E : Value → Shared → Prop} {s : Shared}
theorem firsts_pairs {h : Heap} {f : Value → List Int} : ∀ vs : List Value, (∀ v ∈ vs, ∃ c, PairI h v (f v) c) → ∃ fs : List Value, PySem.W.KatTups h vs fs ∧ fs.length = vs.length ∧ ∀ u ∈ fs, ∃ (q : Addr) (o : Obj), u = Value.ref q ∧ h.get? q = some o ∧ o.cls = .type "tuple"
  | [], _ => ⟨[], PySem.W.KatTups.nil, rfl, fun u hu => nomatch hu⟩
  | v :: vs, x => by
    obtain ⟨fs, k, hl, hi⟩ := firsts_pairs vs fun u hu => x u (List.mem_cons_of_mem _ hu)
    obtain ⟨c, a, q, t, rfl, ⟨o, ho, hc, n, hd⟩, b, xs, e, ⟨o2, ho2, hc2, _⟩, _⟩ := x v (List.mem_cons_self ..)
    cases e
    refine ⟨.ref q :: fs, PySem.W.KatTups.cons ho hc hd rfl k, by rw [List.length_cons, List.length_cons, hl], fun u hu => ?_⟩
    rcases List.mem_cons.mp hu with rfl | hu
    · exact ⟨q, o2, rfl, ho2, hc2⟩
    · exact hi u hu
theorem sortable_pairsI {a : Addr} {vs : List Value} {f : Value → List Int} (h2 : 2 ≤ vs.length) (hu : A.units < cLine) (hp : ∀ v ∈ vs, ∃ c, PairI s.heap v (f v) c)
    (one : ∀ u ∈ vs, ∀ v ∈ vs, f u = f v → ∀ c d, PairI s.heap u (f u) c → PairI s.heap v (f v) d → c = d) (ha : ∀ o, s.heap.get? a = some o → o.cls ≠ .type "tuple") : SrtO.SortableO prog w A s a vs fun u v => ltL (f u) (f v) := by
  intro h' keep
  have kp : ∀ b o, s.heap.get? b = some o → o.cls = .type "tuple" → h'.get? b = some o := fun b o e c => keep b o (fun z => by subst z; exact ha o e c) e
  obtain ⟨fs, k, hl, hi⟩ := firsts_pairs vs fun v hv => let ⟨c, x⟩ := hp v hv; ⟨c, x.keeps kp⟩
  refine ⟨tuples' false, fun Q E hQ => PySem.W.kat_kind (T := Value.type "tuple") k (by omega) (fun u hu => ?_) rfl ?_, fun p q hm hm' => ?_⟩
  · obtain ⟨q, o, rfl, ho, hc⟩ := hi u hu
    have z : PySem.W.Looks (model prog w) h' (typeOf (.ref q)) o.cls := (PySem.W.Looks.ld ho).andThen .now
    rw [hc] at z
    exact z
  · have e : (Value.type "tuple" != Value.type "tuple") = false := by first | rfl | decide | simp
    rw [e]
    exact hQ
  · obtain ⟨c, x⟩ := hp _ hm
    obtain ⟨d, y⟩ := hp _ hm'
    have oned := one _ hm _ hm'
    have hone : f p.1 = f q.1 → c = d := fun e => oned e c d x y
    show wpAny (model prog w) A (keyLt' (tuples' false) p.1 q.1) (fun r s' => s' = { s with heap := h' } ∧ r = ltL (f p.1) (f q.1)) (fun _ _ => False) { s with heap := h' }
    have x' := x.keeps kp
    have y' := y.keeps kp
    generalize f p.1 = kx at x' hone ⊢
    generalize f q.1 = ky at y' hone ⊢
    obtain ⟨ax, qx, tx, ex, ⟨ox, hox, hcx, nx, hdx⟩, kkx⟩ := x'
    obtain ⟨ay, qy, ty, ey, ⟨oy, hoy, hcy, ny, hdy⟩, kky⟩ := y'
    rw [ex, ey]
    refine PySem.W.kat_lt hox hdx hoy hdy ?_
    show PySem.W.KatLex prog w A false (decide (2 < 2)) _ [(.ref qx, .ref qy), (.int c tx, .int d ty)] 0 _
    refine PySem.W.kat_cons (wpAny_eqBool_tuple hu (tupKey_of (P := prog) (w := w) kkx) (tupKey_of (P := prog) (w := w) kky) ?_)
    refine PySem.W.kat_go (fun e1 => ?_) fun e1 => ?_
    · have ek : kx = ky := of_decide_eq_true e1
      have ec := hone ek
      refine PySem.W.kat_yes (PySem.W.kat_cons (wpAny_eqBool_int ?_))
      rw [ec, beq_self_eq_true]
      refine PySem.W.kat_yes (PySem.W.kat_nil ⟨rfl, ?_⟩)
      rw [ek, ltL_irrefl]
      rfl
    · refine PySem.W.kat_no ?_
      show wpAny _ _ (oneLt' false _ _) _ _ _
      obtain ⟨bx, xs, e3, t3, i3⟩ := kkx
      obtain ⟨by', ys, e4, t4, i4⟩ := kky
      cases e3
      cases e4
      refine PySem.W.kat_one _ _ (HT.lt_tupInts t3 t4 i3 i4 hu ?_)
      rw [lexLt_ltL]
      exact ⟨rfl, rfl⟩
end
theorem keys_pair {α β γ : Type} {F : γ × α → γ × β → Prop} (hF : ∀ p q, F p q → p.1 = q.1) : ∀ {l : List (γ × α)} {m : List (γ × β)}, Paired F l m → m.map (·.1) = l.map (·.1)
  | _, _, .nil => rfl
  | _, _, .cons h t => by rw [List.map_cons, List.map_cons, keys_pair hF t, hF _ _ h]
/-- an entry of a dict from tuples of ints to counts -/
abbrev entI (e : List Int × Nat) : List L2.Key × V := (e.1.map Sum.inl, V.int (e.2 : Int))
theorem key_ints (ns : List Int) : (ns.map (Sum.inl : Int → L2.Key)).map kV = ns.map V.int := by
  rw [List.map_map]
  rfl
section
variable {X : Cx}
def rSortI : List V → Hp → VK → Prop := fun vs H Q => ∃ (p a : Addr) (ks : List (List Int × Nat)), vs = [.ref p] ∧ H p = some (L2.DX.itemsO p a) ∧ H a = some (.dT (ks.map entI)) ∧
  ∀ (H' : Hp) (l : Addr) (zs : List (Addr × List Int × Nat)), (∀ b o, H b = some o → H' b = some o) → (zs.map (·.2)).Perm ks → (zs.map (·.2)).Pairwise (fun e f => leL e.1 f.1) → H' l = some (.lst (zs.map fun z => V.ref z.1)) →
    (∀ z ∈ zs, ∃ q, H' z.1 = some (.tup [.ref q, .int (z.2.2 : Int)]) ∧ H' q = some (.tup (z.2.1.map V.int))) → Q (.ref l) H'
theorem cr_sortI (hc : X.calm = true) (hu : X.A.units + 64 < cLine) : CallR X (.builtin "sorted") rSortI := by
  intro pins s σ H xs us Q I r h
  obtain ⟨p, a, ks, rfl, hp, ha, q⟩ := h
  rw [Vals.ref1 r]
  have view : s.heap.IsItemsView p a := (show ObjOk X.prog X.w H s.heap p (L2.DX.itemsO p a) from I.hok p _ hp).1
  obtain ⟨z, hd, xs', rel, o, es, ep, ho, hx, hdat, hes, his, hn⟩ := dt_of I.hok ha
  have l1 : (ks.map entI).length = xs'.length := Paired.length rel
  rw [List.length_map] at l1 z
  have l2 : es.size = xs'.length := size_of_entries hes
  have hh : X.A.handled = none := I.ok.hd hc
  refine sorted_from (A := X.A) (DT.collectI (A := X.A.in1) (es := es) (ep := ep) hh view ⟨o, ho, hx, hdat⟩ (by omega) fun h' tk as hk hlt hl hG => ?_)
  have lak : as.length = ks.length := by omega
  have nd : as.Nodup := List.Pairwise.imp (fun h => Nat.ne_of_lt h) hG.rise
  -- the pairs that were made
  have pr : ∀ (j : Nat) (b : Addr), as[j]? = some b → ∃ (e : List Int × Nat) (kq : Addr) (t : Tok), ks[j]? = some e ∧ H kq = some (.tup (e.1.map V.int)) ∧ h'.get? b = some { cls := .type "tuple", data := .seq #[Value.ref kq, Value.int (e.2 : Int) t] } := by
    intro j b hj
    obtain ⟨en, he, hg⟩ := hG.pairs j b hj
    rw [entry_at hes j] at he
    cases hxj : xs'[j]? with
    | none =>
      rw [hxj] at he
      cases he
    | some x =>
      rw [hxj] at he
      have een : entryOfKey (tupleKind (mixKind X.prog X.w)) x = en := Option.some.inj he
      obtain ⟨e0, he0, r1, r2, r3⟩ := L2.DX.pget rel hxj
      rw [List.getElem?_map] at he0
      cases hkj : ks[j]? with
      | none =>
        rw [hkj] at he0
        cases he0
      | some e =>
        rw [hkj] at he0
        have ee : entI e = e0 := Option.some.inj he0
        subst ee
        obtain ⟨t, r3⟩ := r3
        rw [key_ints] at r2
        refine ⟨e, x.2.1, t, rfl, r2, ?_⟩
        rw [hg, ← een, ← r3]
        rfl
  have ki : (ks.map (·.1)).Nodup := by
    have e : (xs'.map (·.1)) = (ks.map entI).map (·.1) := keys_pair (fun _ _ h => h.1) rel
    rw [e, List.map_map] at hn
    exact List.pairwise_map.mpr (List.Pairwise.imp (fun {x y} hne ee => hne (congrArg (fun l : List Int => l.map (Sum.inl : Int → L2.Key)) ee)) (List.pairwise_map.mp hn))
  have pin : ∀ (j : Nat) (b : Addr) (e : List Int × Nat), as[j]? = some b → ks[j]? = some e → PairI h' (.ref b) e.1 e.2 := fun j b e hj he => by
    obtain ⟨e', kq, t, he', hkq, hg⟩ := pr j b hj
    have ee : e' = e := Option.some.inj (he'.symm.trans he)
    subst ee
    refine ⟨b, kq, t, rfl, ⟨_, hg, rfl, 0, rfl⟩, ?_⟩
    exact (tupB_raw I (p := (kq, e'.1)) (SqT.of hkq)).keeps fun c u e _ => hk c u e
  have at_ : ∀ v ∈ as.map Value.ref, ∃ (j : Nat) (b : Addr) (e : List Int × Nat), v = .ref b ∧ as[j]? = some b ∧ ks[j]? = some e := by
    intro v hv'
    obtain ⟨b, hb, rfl⟩ := List.mem_map.mp hv'
    obtain ⟨j, hj⟩ := List.mem_iff_getElem?.mp hb
    obtain ⟨e, _, _, he, _⟩ := pr j b hj
    exact ⟨j, b, e, rfl, hj, he⟩
  have hall : ∀ v ∈ as.map Value.ref, ∃ c, PairI h' v (keyI h' v) c := fun v hv => by
    obtain ⟨j, b, e, rfl, hj, he⟩ := at_ v hv
    have x := pin j b e hj he
    exact ⟨e.2, by rw [x.key]; exact x⟩
  have cnt : ∀ (h1 : Heap) (v : Value) (k k' : List Int) (c d : Int), PairI h1 v k c → PairI h1 v k' d → c = d := fun h1 v k k' c d x y => by
    obtain ⟨a1, q1, t1, e1, ⟨o1, ho1, hc1, n1, hd1⟩, _⟩ := x
    obtain ⟨a2, q2, t2, e2, ⟨o2, ho2, hc2, n2, hd2⟩, _⟩ := y
    rw [e1] at e2
    cases e2
    rw [ho1] at ho2
    cases ho2
    rw [hd1] at hd2
    injection hd2 with e3 _
    have e4 := congrArg (fun l : Array Value => l.toList) e3
    simp only [List.cons.injEq, Value.int.injEq] at e4
    exact e4.2.1.1
  have one : ∀ u ∈ as.map Value.ref, ∀ v ∈ as.map Value.ref, keyI h' u = keyI h' v → u = v := fun u hu' v hv ek => by
    obtain ⟨j, b, e, rfl, hj, he⟩ := at_ u hu'
    obtain ⟨j2, b2, e2, rfl, hj2, he2⟩ := at_ v hv
    rw [(pin j b e hj he).key, (pin j2 b2 e2 hj2 he2).key] at ek
    have g1 : (ks.map (·.1))[j]? = some e.1 := by rw [List.getElem?_map, he]; rfl
    have g2 : (ks.map (·.1))[j2]? = some e.1 := by rw [List.getElem?_map, he2, ek]; rfl
    have jj : j = j2 := (List.getElem?_inj (List.getElem?_eq_some_iff.mp g1).1 ki).mp (g1.trans g2.symm)
    subst jj
    rw [hj] at hj2
    rw [Option.some.inj hj2]
  refine ⟨by rw [List.length_map]; omega, fun u v => ltL (keyI h' u) (keyI h' v), swo_ltL _, fun h2 h1 b kb hb => ?_, fun out h2 d srt pm k2 hd' hm => ?_⟩
  · refine sortable_pairsI (s := { s with heap := h1, toks := tk }) h2 (by show X.A.units + 1 + 1 < cLine; omega) (fun v hv => ?_) (fun u hu' v hv ek c c' x y => ?_) fun ob eb => ?_
    · obtain ⟨c, x⟩ := hall v hv
      exact ⟨c, x.keeps fun b u e _ => kb b u e⟩
    · have euv := one u hu' v hv ek
      subst euv
      exact cnt h1 u _ _ c c' x y
    · obtain ⟨m, e⟩ := hb
      have z := eb.symm.trans e
      cases z
      intro c
      exact absurd (Value.type.inj c) (by decide)
  · have zz : (as.zip ks).map (fun z : Addr × List Int × Nat => Value.ref z.1) = as.map Value.ref := by
      have e := List.map_fst_zip (l₁ := as) (l₂ := ks) (by omega)
      have e2 : (as.zip ks).map (fun z : Addr × List Int × Nat => Value.ref z.1) = ((as.zip ks).map Prod.fst).map Value.ref := by rw [List.map_map]; rfl
      rw [e2, e]
    obtain ⟨zs, pz, ez⟩ := perm_lift (fun z : Addr × List Int × Nat => Value.ref z.1) pm (as.zip ks) zz
    have idx : ∀ z ∈ zs, ∃ j : Nat, as[j]? = some z.1 ∧ ks[j]? = some z.2 := by
      intro z' hz'
      obtain ⟨j, hj⟩ := List.mem_iff_getElem?.mp (pz.mem_iff.mp hz')
      exact ⟨j, List.getElem?_zip_eq_some.mp hj⟩
    have hperm : (zs.map (·.2)).Perm ks := by
      have e := pz.map (·.2)
      have m2 : (as.zip ks).map (·.2) = ks := List.map_snd_zip (by rw [lak]; exact Nat.le_refl _)
      rw [m2] at e
      exact e
    have hsort : (zs.map (·.2)).Pairwise (fun e f => leL e.1 f.1) := by
      rw [← ez] at srt
      have s1 := List.pairwise_map.mp srt
      rw [List.pairwise_map]
      refine List.Pairwise.imp_of_mem (fun {x y} hx' hy' h => ?_) s1
      obtain ⟨j, j1, j2⟩ := idx x hx'
      obtain ⟨i, i1, i2⟩ := idx y hy'
      have h3 : ltL (keyI h' (.ref y.1)) (keyI h' (.ref x.1)) = false := h
      rw [(pin j _ _ j1 j2).key, (pin i _ _ i1 i2).key] at h3
      exact h3
    obtain ⟨m, hm⟩ := hm
    have kS : ∀ b u, s.heap.get? b = some u → h2.get? b = some u := fun b u e => k2 b u (hk b u e)
    have hsz : s.heap.objs.size ≤ d := Nat.le_trans (Nat.le_of_lt hlt) hd'
    have I1 : Inv X pins σ H { s with heap := h2, toks := tk } := I.kept (t' := tk) kS
    have hn0 : H d = none := I.hok.fresh hsz
    have hlen : (zs.map fun z => V.ref z.1).length ≤ sizeLine := by
      have e := hperm.length_eq
      rw [List.length_map] at e ⊢
      omega
    have rv : Vals (zs.map fun z => V.ref z.1) out := by
      rw [← ez]
      exact vals_maps (fun z : Addr × List Int × Nat => V.ref z.1) (fun z => Value.ref z.1) zs fun _ _ => rfl
    have I2 : Inv X pins σ (upd H d (.lst (zs.map fun z => V.ref z.1))) { s with heap := h2, toks := tk } :=
      I1.take (h' := h2) (t' := tk) (fun b ob _ e => e) (I.fpOk hsz hn0) ⟨hlen, out, m, rv, hm⟩
    obtain ⟨H2, I3, g, qt⟩ := L2.DX.takeT (P := fun b vs => ∃ (j : Nat) (e : List Int × Nat) (kq : Addr), as[j]? = some b ∧ ks[j]? = some e ∧ vs = [.ref kq, .int (e.2 : Int)] ∧ H kq = some (.tup (e.1.map V.int))) I as _ I2 nd fun b hb => by
      obtain ⟨j, hj⟩ := List.mem_iff_getElem?.mp hb
      obtain ⟨e, kq, t, he, hkq, hg⟩ := pr j b hj
      have hbl : s.heap.objs.size ≤ b := Nat.le_of_lt (hG.above b hb)
      have hbd : b ≠ d := Nat.ne_of_lt (Nat.lt_of_lt_of_le (Heap.lt_size hg) hd')
      refine ⟨hbl, ?_, [.ref kq, .int (e.2 : Int)], ⟨j, e, kq, hj, he, rfl, hkq⟩, fun H3 => ⟨(by rw [sizeLine_eq]; show 2 ≤ 16777216; omega), [Value.ref kq, Value.int (e.2 : Int) t], .cons rfl (.cons ⟨t, rfl⟩ .nil), ⟨_, k2 _ _ hg, rfl, 0, rfl⟩⟩⟩
      rw [upd_ne hbd]
      exact I.hok.fresh hbl
    have gr : ∀ b u, H b = some u → H2 b = some u := fun b u e => g b u (by rw [upd_ne (ne_of_none e hn0)]; exact e)
    refine ⟨.ref d, H2, I3, rfl, q H2 d zs gr hperm hsort (g _ _ upd_same) fun z' hz' => ?_⟩
    obtain ⟨i, i1, i2⟩ := idx z' hz'
    obtain ⟨vs, ⟨j, e, kq, j1, j2, ev, hkq⟩, hH⟩ := qt z'.1 (List.mem_of_getElem? i1)
    have eij : i = j := (List.getElem?_inj (List.getElem?_eq_some_iff.mp i1).1 nd).mp (i1.trans j1.symm)
    subst eij
    have ee : e = z'.2 := Option.some.inj (j2.symm.trans i2)
    rw [ev, ee] at hH
    rw [ee] at hkq
    exact ⟨kq, hH, gr _ _ hkq⟩
end
end K95

set_option Elab.async false
set_option linter.all false
set_option maxRecDepth 100000
set_option maxHeartbeats 1000000
namespace K95
open PySem PySem.Spec PyProof.Rows L2
/-! ### a def that is called by its name -/
structure Cal (P : Program) (w : World) (K : PySem.W.Frag) (mg : Str → Option Value) (base : Heap) (k : Nat) (x : Str) (ps : List Str) (sp : Sp) : Prop where
  ex : ∃ (f : Addr) (fd : FuncData), FnOk P w K mg base CX0 k f fd ps sp ∧ mg x = some (.ref f) ∧ PySem.W.keepIn K (.ref f) = true ∧ Binds K fd ps []
theorem Cal.imp {P : Program} {w : World} {K : PySem.W.Frag} {mg : Str → Option Value} {base : Heap} {k : Nat} {x : Str} {ps : List Str} {sp sp' : Sp} (C : Cal P w K mg base k x ps sp) (h : ∀ vs H Q E, sp' vs H Q E → sp vs H Q E) : Cal P w K mg base k x ps sp' := by
  obtain ⟨f, fd, F, a, b, c⟩ := C.ex
  exact ⟨f, fd, F.imp h, a, b, c⟩
/-- f(e, ..) -/
theorem pe_cal {X : Cx} {k : Nat} {x : Str} {ps : List Str} {sp : Sp} {e : Expr} {es : List Expr} {t : TA} {p pos : Pos} (C : Cal X.prog X.w X.K X.mg X.base k x ps sp) (hr : Room k X.A) (hg : Gl X x) (ha : PA X (e :: es) t)
    (hdb : (x == ("__debug__" : Str)) = false := by decide) (he : starEach (e :: es) X.env = (false, eval e X.env) :: starEach es X.env := by rfl) (hpl : (backTo pos (starEach es X.env)).any (·.1) = false := by rfl) :
    PE X (.Call (.Name x p) (e :: es) [] pos) (tCall sp [] E0 t) := by
  obtain ⟨f, fd, F, a, b, c⟩ := C.ex
  exact pe_call F hr hg a b c .nil pass0 ha hdb he hpl
/-- the module's names that the defs lean on -/
structure Txt (mg : Str → Option Value) : Prop where
  isi : mg "isinstance" = none
  int : mg "int" = none
  bool : mg "bool" = none
  list : mg "list" = none
  tuple : mg "tuple" = none
  len : mg "len" = none
  all : mg "all" = none
  set : mg "set" = none
  sorted : mg "sorted" = none
  range : mg "range" = none
  min : mg "min" = none
  abs : mg "abs" = none
  mp : ∃ t, mg "MOST_POINTS" = some (.int 60 t)
  mb : ∃ t, mg "MOST_BLOCKS" = some (.int 200 t)

/-- a def by the walk of its body: nothing leaves it -/
theorem okN {P : Program} {w : World} {K : PySem.W.Frag} {mg : Str → Option Value} {base : Heap} {x : Str} {st : Stmt} {f : Addr} {fd : FuncData} {N ps : List Str} {k : Nat} {sp : Sp} (F : FnP K x st f fd) (S : FnScope N ps (defScope st)) (len : ∀ vs H Q E, sp vs H Q E → vs.length = ps.length)
    (body : ∀ (cdv : Value) (A : Around) (outer : List Env) (s : Shared) (H : Hp) (vs : List V) (Q : VK) (E : XK), Room k (A.deeper (envOfC x (defScope st) s.heap.objs.size f cdv)) → sp vs H Q E →
      ∃ t, PSs (cxOf CX0 P w K mg base N x (defScope st) f cdv A outer s H E).nox (defBody st) t ∧ t { nx := fun _ H' => Q .non H', rt := Q } (start N vs) H) : FnOk P w K mg base CX0 (k + 1) f fd ps sp :=
  F.ok S len fun cdv A outer s H vs Q E hr h => let ⟨t, g, q⟩ := body cdv A outer s H vs Q E hr h; ⟨t, g.nox, q⟩

/-! ### heaps -/
theorem same_new {H : Hp} {p : Addr} {o : HO} (h : H p = none) : Same H (upd H p o) := fun b u e => by rw [upd_ne (ne_of_none e h)]; exact e
theorem sNew {H H1 : Hp} {p : Addr} {o : HO} (s : Same H H1) (h : H1 p = none) : Same H (upd H1 p o) := s.trans (same_new h)
/-- an object that was not there is written -/
theorem sOwn {H H1 : Hp} {p : Addr} {o : HO} (s : Same H H1) (h : H p = none) : Same H (upd H1 p o) := fun b u e => by rw [upd_ne (ne_of_none e h)]; exact s b u e
theorem sSeqT {K : PySem.W.Frag} {H H' : Hp} {a : Addr} {xs : List V} (e : Same H H') (h : SqT K H a xs) : SqT K H' a xs := by
  rcases h with (h | ⟨o, h⟩) | h
  · exact .inl (.inl (e _ _ h))
  · exact .inl (.inr ⟨o, e _ _ h⟩)
  · exact .inr h
/-- a tuple of ints; a list of them -/
abbrev Tb (H : Hp) (p : Addr) (b : List Int) : Prop := H p = some (.tup (b.map V.int))
abbrev Lb (H : Hp) (p : Addr) (b : List Int) : Prop := H p = some (.lst (b.map V.int))
abbrev refs (ps : List (Addr × List Int)) : List V := ps.map fun p => V.ref p.1
/-- the tuples stand -/
def AllT (H : Hp) (ps : List (Addr × List Int)) : Prop := ∀ p ∈ ps, Tb H p.1 p.2
theorem AllT.same {H H' : Hp} {ps : List (Addr × List Int)} (h : AllT H ps) (s : Same H H') : AllT H' ps := fun p m => s _ _ (h p m)
theorem AllT.nil {H : Hp} : AllT H [] := fun _ h => nomatch h
theorem AllT.snoc {H : Hp} {ps : List (Addr × List Int)} {p : Addr × List Int} (h : AllT H ps) (hp : Tb H p.1 p.2) : AllT H (ps ++ [p]) := fun q m => by
  rcases List.mem_append.mp m with m | m
  · exact h q m
  · rw [List.mem_singleton.mp m]
    exact hp
theorem AllT.perm {H : Hp} {ps ps' : List (Addr × List Int)} (h : AllT H ps) (p : ps'.Perm ps) : AllT H ps' := fun q m => h q (p.mem_iff.mp m)
theorem AllT.B {K : PySem.W.Frag} {H : Hp} {ps : List (Addr × List Int)} (h : AllT H ps) : ∀ p ∈ ps, TupB K H p := fun p m => SqT.of (h p m)
/-- a layout: n, and its blocks -/
def LayAt (H : Hp) (p : Addr) (n : Nat) (bs : List (List Int)) : Prop := ∃ (b : Addr) (ps : List (Addr × List Int)), H p = some (.tup [.int (n : Int), .ref b]) ∧ H b = some (.tup (refs ps)) ∧ AllT H ps ∧ ps.map (·.2) = bs
theorem LayAt.same {H H' : Hp} {p : Addr} {n : Nat} {bs : List (List Int)} (h : LayAt H p n bs) (s : Same H H') : LayAt H' p n bs := by
  obtain ⟨b, ps, h1, h2, h3, h4⟩ := h
  exact ⟨b, ps, s _ _ h1, s _ _ h2, h3.same s, h4⟩
theorem fl (n : Nat) : (n : Int) ≤ 1000 → (-(2 ^ 62) : Int) ≤ n ∧ (n : Int) < 2 ^ 62 := fun h => by omega
theorem small_line {n : Nat} (h : n ≤ 1000) : n ≤ sizeLine := Nat.le_of_lt (small1000 h)
/-- an answer that is known -/
theorem ansT {Q : VK} {H : Hp} {c : Prop} [Decidable c] (h : c) (q : Q (.bl true) H) : Q (.bl (decide c)) H := by
  rw [decide_eq_true h]
  exact q
theorem int_at {ns : List Int} {i : Nat} {y : V} (h : (ns.map V.int)[i]? = some y) : ∃ z, ns[i]? = some z ∧ y = V.int z := by
  rw [List.getElem?_map] at h
  cases e : ns[i]? with
  | none =>
    rw [e] at h
    cases h
  | some z =>
    rw [e] at h
    exact ⟨z, rfl, (Option.some.inj h).symm⟩
theorem ref_at {ps : List (Addr × List Int)} {i : Nat} {y : V} (h : (refs ps)[i]? = some y) : ∃ p, ps[i]? = some p ∧ y = V.ref p.1 := by
  have h : (ps.map fun p => V.ref p.1)[i]? = some y := h
  rw [List.getElem?_map] at h
  cases e : ps[i]? with
  | none =>
    rw [e] at h
    cases h
  | some z =>
    rw [e] at h
    exact ⟨z, rfl, (Option.some.inj h).symm⟩
/-! ### comprehensions of ints, and blocks made of them -/
theorem wipe_one (σ : L2.St) (j : Nat) (v : Option V) : wipe ((wipe σ [j]).set j v) [j] = wipe σ [j] := by
  show ((σ.set j none).set j v).set j none = σ.set j none
  rw [List.set_set, List.set_set]
section
variable {K : PySem.W.Frag} {σ : L2.St} {H : Hp} {te : TE} {j : Nat}
/-- [g of x for x in a list of ints]: the new list -/
theorem rd_intsL {tl : TE} {b : List Int} {g : Int → Int} {a : Addr} {Q : VK} (hl : ∀ {R : VK}, R (.ref a) H → tl σ H R) (hb : SqL K H a (b.map V.int)) (hz : b.length ≤ 1000)
    (he : ∀ x ∈ b, ∀ (H' : Hp) (R : VK), Same H H' → R (.int (g x)) H' → te ((wipe σ [j]).set j (some (.int x))) H' R)
    (q : ∀ (D : Addr) (H' : Hp), Same H H' → H D = none → Lb H' D (b.map g) → Q (.ref D) H') : tLc (iList K tl) (gName j) tYes te [j] σ H Q := by
  refine hl ⟨a, rfl, ⟨_, hb⟩, fun D hD => lc_list (K := K) (a := a) (xs := b.map V.int) (fun i H' => Same H H' ∧ Lb H' D ((b.take i).map g)) ⟨same_new hD, upd_same⟩ (fun i H' _ p => p.1.seq hb) ?_ ?_⟩
  · rintro i y H2 hi ⟨s2, hD2⟩
    obtain ⟨z, hz', rfl⟩ := int_at hi
    have hlt := (List.getElem?_eq_some_iff.mp hz').1
    refine ⟨wipe_one σ j _, he z (List.mem_of_getElem? hz') H2 _ s2 ⟨_, hD2, ?_, sOwn s2 hD, ?_⟩⟩
    · rw [List.length_map, List.length_map, List.length_take]
      exact small1000 (by omega)
    · show upd H2 D _ D = _
      rw [upd_same, List.take_succ, hz', Option.toList_some, List.map_append, List.map_append]
      rfl
  · rintro H2 ⟨s2, hD2⟩
    rw [List.length_map, List.take_length] at hD2
    exact q D H2 s2 hD hD2
theorem rd_intsT {tl : TE} {b : List Int} {g : Int → Int} {a : Addr} {Q : VK} (hl : ∀ {R : VK}, R (.ref a) H → tl σ H R) (hb : SqT K H a (b.map V.int)) (hz : b.length ≤ 1000)
    (he : ∀ x ∈ b, ∀ (H' : Hp) (R : VK), Same H H' → R (.int (g x)) H' → te ((wipe σ [j]).set j (some (.int x))) H' R)
    (q : ∀ (D : Addr) (H' : Hp), Same H H' → H D = none → Lb H' D (b.map g) → Q (.ref D) H') : tLc (iTup K tl) (gName j) tYes te [j] σ H Q := by
  refine hl ⟨a, rfl, ⟨_, hb⟩, fun D hD => lc_tup (K := K) (a := a) (xs := b.map V.int) (fun i H' => Same H H' ∧ Lb H' D ((b.take i).map g)) ⟨same_new hD, upd_same⟩ (fun i H' _ p => sSeqT p.1 hb) ?_ ?_⟩
  · rintro i y H2 hi ⟨s2, hD2⟩
    obtain ⟨z, hz', rfl⟩ := int_at hi
    have hlt := (List.getElem?_eq_some_iff.mp hz').1
    refine ⟨wipe_one σ j _, he z (List.mem_of_getElem? hz') H2 _ s2 ⟨_, hD2, ?_, sOwn s2 hD, ?_⟩⟩
    · rw [List.length_map, List.length_map, List.length_take]
      exact small1000 (by omega)
    · show upd H2 D _ D = _
      rw [upd_same, List.take_succ, hz', Option.toList_some, List.map_append, List.map_append]
      rfl
  · rintro H2 ⟨s2, hD2⟩
    rw [List.length_map, List.take_length] at hD2
    exact q D H2 s2 hD hD2
/-- tuple(xs) -/
abbrev rTupOf (K : PySem.W.Frag) : List V → Hp → VK → Prop := fun xs H Q => ∃ p ys, xs = [.ref p] ∧ ((SqL K H p ys ∧ ∀ l, H l = none → Q (.ref l) (upd H l (.tup ys))) ∨ (SqT K H p ys ∧ Q (.ref p) H))
/-- len(xs) -/
abbrev rLenQ (K : PySem.W.Frag) : List V → Hp → VK → Prop := fun xs H Q => ∃ p ys, xs = [V.ref p] ∧ (SqL K H p ys ∨ SqT K H p ys) ∧ Q (.int ys.length) H
/-- tuple(sorted(a list of ints)) -/
def tSrtT (K : PySem.W.Frag) (tl : TE) : TE := tCB (rTupOf K) (tCons (tCB (rSorted K) (tCons tl tNil)) tNil)
theorem rd_srtT {tl : TE} {Q : VK} {b : List Int} (hz : b.length < 64) (hl : ∀ {R : VK}, (∀ (D : Addr) (H' : Hp), Same H H' → Lb H' D b → R (.ref D) H') → tl σ H R)
    (q : ∀ (t : Addr) (H' : Hp), Same H H' → H t = none → Tb H' t (srt b) → Q (.ref t) H') : tSrtT K tl σ H Q := by
  refine hl fun D H1 s1 hD => ⟨D, b, rfl, SqL.of hD, hz, fun ns p pm rs hp => ?_⟩
  have e : ns = srt b := srt_of pm rs
  subst e
  refine ⟨p, _, rfl, .inl ⟨SqL.of upd_same, fun t ht => ?_⟩⟩
  have s2 := sNew s1 (o := .lst ((srt b).map V.int)) hp
  exact q t _ (sNew s2 ht) (s2.free ht) upd_same
end
/-! ### comprehensions of blocks -/
theorem allT_upd {H : Hp} {D : Addr} {xs : List V} {o : HO} {ps : List (Addr × List Int)} (h : AllT H ps) (hD : H D = some (.lst xs)) : AllT (upd H D o) ps := fun p m => by
  show upd H D o p.1 = _
  rw [upd_ne (ne_of (h p m) hD (fun z => nomatch z))]
  exact h p m
/-- the blocks so far -/
def Blks (Rl : Nat → List Int → Prop) (H : Hp) (D : Addr) (i : Nat) : Prop := ∃ ps : List (Addr × List Int), H D = some (.lst (refs ps)) ∧ AllT H ps ∧ ps.length = i ∧ ∀ (k : Nat) (p : Addr × List Int), ps[k]? = some p → Rl k p.2
theorem Blks.start {Rl : Nat → List Int → Prop} {H : Hp} {D : Addr} : Blks Rl (upd H D (.lst [])) D 0 := ⟨[], upd_same, AllT.nil, rfl, fun k p h => by simp at h⟩
theorem Blks.turn {Rl : Nat → List Int → Prop} {H H' : Hp} {D t : Addr} {i : Nat} {b : List Int} (h : Blks Rl H D i) (s : Same H H') (ht : Tb H' t b) (r : Rl i b) (hz : i ≤ 1000) :
    ∃ acc, H' D = some (.lst acc) ∧ acc.length < sizeLine ∧ Blks Rl (upd H' D (.lst (acc ++ [V.ref t]))) D (i + 1) := by
  obtain ⟨ps, h1, h2, h3, h4⟩ := h
  have hD := s _ _ h1
  refine ⟨_, hD, by rw [List.length_map, h3]; exact small1000 hz, ps ++ [(t, b)], ?_, ?_, by rw [List.length_append, h3]; rfl, fun k p hk => ?_⟩
  · rw [upd_same]
    show _ = some (HO.lst ((ps ++ [(t, b)]).map fun p => V.ref p.1))
    rw [List.map_append]
    rfl
  · exact ((h2.same s).snoc (p := (t, b)) ht |> fun z => allT_upd z hD)
  · rcases Nat.lt_or_ge k ps.length with c | c
    · rw [List.getElem?_append_left c] at hk
      exact h4 k p hk
    · rw [List.getElem?_append_right c] at hk
      have e : k - ps.length = 0 := by
        have := (List.getElem?_eq_some_iff.mp hk).1
        simp only [List.length_cons, List.length_nil] at this
        omega
      rw [e] at hk
      have ep : p = (t, b) := (Option.some.inj hk).symm
      have ek : k = i := by omega
      rw [ep, ek]
      exact r
/-- where the blocks are a function of the place -/
theorem map_of_at {F : Nat → List Int} {ps : List (Addr × List Int)} {n : Nat} (hl : ps.length = n) (h : ∀ (k : Nat) (p : Addr × List Int), ps[k]? = some p → p.2 = F k) : ps.map (·.2) = (List.range n).map F := by
  refine List.ext_getElem (by rw [List.length_map, List.length_map, List.length_range, hl]) fun i h1 h2 => ?_
  rw [List.length_map] at h1
  rw [List.getElem_map, List.getElem_map, List.getElem_range]
  exact h i _ (List.getElem?_eq_getElem h1)
theorem map_of_el {α : Type} {xs : List α} {F : α → List Int} {ps : List (Addr × List Int)} (hl : ps.length = xs.length) (h : ∀ (k : Nat) (p : Addr × List Int), ps[k]? = some p → ∃ x, xs[k]? = some x ∧ p.2 = F x) : ps.map (·.2) = xs.map F := by
  refine List.ext_getElem (by rw [List.length_map, List.length_map, hl]) fun i h1 h2 => ?_
  rw [List.length_map] at h1
  obtain ⟨x, hx, e⟩ := h i _ (List.getElem?_eq_getElem h1)
  rw [List.getElem_map, List.getElem_map, e]
  rw [List.getElem?_eq_getElem (by omega)] at hx
  rw [Option.some.inj hx]
section
variable {K : PySem.W.Frag} {σ : L2.St} {H : Hp} {te : TE} {j : Nat}
theorem rd_blksL {tl : TE} {xs : List V} {Rl : Nat → List Int → Prop} {a : Addr} {Q : VK} (hl : ∀ {R : VK}, R (.ref a) H → tl σ H R) (hb : SqL K H a xs) (hz : xs.length ≤ 1000)
    (he : ∀ (i : Nat) (x : V), xs[i]? = some x → ∀ (H' : Hp) (R : VK), Same H H' → (∀ (t : Addr) (b : List Int) (H'' : Hp), Same H' H'' → Tb H'' t b → Rl i b → R (.ref t) H'') → te ((wipe σ [j]).set j (some x)) H' R)
    (q : ∀ (D : Addr) (H' : Hp) (ps : List (Addr × List Int)), Same H H' → H D = none → H' D = some (.lst (refs ps)) → AllT H' ps → ps.length = xs.length → (∀ (k : Nat) (p : Addr × List Int), ps[k]? = some p → Rl k p.2) → Q (.ref D) H') :
    tLc (iList K tl) (gName j) tYes te [j] σ H Q := by
  refine hl ⟨a, rfl, ⟨_, hb⟩, fun D hD => lc_list (K := K) (a := a) (xs := xs) (fun i H' => Same H H' ∧ Blks Rl H' D i) ⟨same_new hD, Blks.start⟩ (fun i H' _ p => p.1.seq hb) ?_ ?_⟩
  · rintro i y H2 hi ⟨s2, hB⟩
    have hlt := (List.getElem?_eq_some_iff.mp hi).1
    refine ⟨wipe_one σ j _, he i y hi H2 _ s2 fun t b H3 s3 ht r => ?_⟩
    obtain ⟨acc, h1, h2, h3⟩ := hB.turn s3 ht r (by omega)
    exact ⟨acc, h1, h2, sOwn (s2.trans s3) hD, h3⟩
  · rintro H2 ⟨s2, ps, h1, h2, h3, h4⟩
    exact q D H2 ps s2 hD h1 h2 h3 h4
theorem rd_blksT {tl : TE} {xs : List V} {Rl : Nat → List Int → Prop} {a : Addr} {Q : VK} (hl : ∀ {R : VK}, R (.ref a) H → tl σ H R) (hb : SqT K H a xs) (hz : xs.length ≤ 1000)
    (he : ∀ (i : Nat) (x : V), xs[i]? = some x → ∀ (H' : Hp) (R : VK), Same H H' → (∀ (t : Addr) (b : List Int) (H'' : Hp), Same H' H'' → Tb H'' t b → Rl i b → R (.ref t) H'') → te ((wipe σ [j]).set j (some x)) H' R)
    (q : ∀ (D : Addr) (H' : Hp) (ps : List (Addr × List Int)), Same H H' → H D = none → H' D = some (.lst (refs ps)) → AllT H' ps → ps.length = xs.length → (∀ (k : Nat) (p : Addr × List Int), ps[k]? = some p → Rl k p.2) → Q (.ref D) H') :
    tLc (iTup K tl) (gName j) tYes te [j] σ H Q := by
  refine hl ⟨a, rfl, ⟨_, hb⟩, fun D hD => lc_tup (K := K) (a := a) (xs := xs) (fun i H' => Same H H' ∧ Blks Rl H' D i) ⟨same_new hD, Blks.start⟩ (fun i H' _ p => sSeqT p.1 hb) ?_ ?_⟩
  · rintro i y H2 hi ⟨s2, hB⟩
    have hlt := (List.getElem?_eq_some_iff.mp hi).1
    refine ⟨wipe_one σ j _, he i y hi H2 _ s2 fun t b H3 s3 ht r => ?_⟩
    obtain ⟨acc, h1, h2, h3⟩ := hB.turn s3 ht r (by omega)
    exact ⟨acc, h1, h2, sOwn (s2.trans s3) hD, h3⟩
  · rintro H2 ⟨s2, ps, h1, h2, h3, h4⟩
    exact q D H2 ps s2 hD h1 h2 h3 h4
theorem rd_blksR {ta : TA} {n : Nat} {Rl : Nat → List Int → Prop} {Q : VK} (hl : ∀ {R : List V → Hp → Prop}, R [.int (n : Int)] H → ta σ H R) (hz : n ≤ 1000)
    (he : ∀ (i : Nat), i < n → ∀ (H' : Hp) (R : VK), Same H H' → (∀ (t : Addr) (b : List Int) (H'' : Hp), Same H' H'' → Tb H'' t b → Rl i b → R (.ref t) H'') → te ((wipe σ [j]).set j (some (.int (i : Int)))) H' R)
    (q : ∀ (D : Addr) (H' : Hp) (ps : List (Addr × List Int)), Same H H' → H D = none → H' D = some (.lst (refs ps)) → AllT H' ps → ps.length = n → (∀ (k : Nat) (p : Addr × List Int), ps[k]? = some p → Rl k p.2) → Q (.ref D) H') :
    tLc (iRng1 ta) (gName j) tYes te [j] σ H Q := by
  refine hl ⟨_, rfl, by omega, by omega, fun D hD => lc_range (lo := 0) (n := ((n : Int)).toNat) (fun i H' => Same H H' ∧ Blks Rl H' D i) ⟨same_new hD, Blks.start⟩ ?_ ?_⟩
  · rintro i H2 hi ⟨s2, hB⟩
    refine ⟨wipe_one σ j _, ?_⟩
    have e : (0 : Int) + (i : Int) = (i : Int) := Int.zero_add _
    rw [e]
    refine he i (by omega) H2 _ s2 fun t b H3 s3 ht r => ?_
    obtain ⟨acc, h1, h2, h3⟩ := hB.turn s3 ht r (by omega)
    exact ⟨acc, h1, h2, sOwn (s2.trans s3) hD, h3⟩
  · rintro H2 ⟨s2, ps, h1, h2, h3, h4⟩
    exact q D H2 ps s2 hD h1 h2 (by omega) h4
end
/-- y = [..], and what follows -/
theorem rd_set {wi : TI} {g : TG} {tt : TT} {te : TE} {vs : List Nat} {i : Nat} {D : Ends} {σ : L2.St} {H : Hp} {u : TS} (h : tLc wi g tt te vs σ H fun x H1 => u D (σ.set i (some x)) H1) : tSeq (tAsg (tLc wi g tt te vs) (gName i)) u D σ H := h
/-! ### comprehensions with a test -/
section
variable {K : PySem.W.Frag} {σ : L2.St} {H : Hp} {tt : TT} {j : Nat}
theorem pts_take (n i : Nat) (h : i < n) : (pts n).take (i + 1) = (pts n).take i ++ [(i : Int)] := by
  have e : (pts n)[i]? = some (i : Int) := by
    unfold pts
    rw [List.getElem?_map, List.getElem?_range h]
    rfl
  rw [List.take_succ, e]
  rfl
theorem pts_length (n : Nat) : (pts n).length = n := by
  unfold pts
  rw [List.length_map, List.length_range]
theorem filt_snoc {p : Int → Bool} {l : List Int} {z : Int} : (l ++ [z]).filter p = if p z = true then l.filter p ++ [z] else l.filter p := by
  rw [List.filter_append]
  by_cases c : p z = true
  · rw [if_pos c, List.filter_cons_of_pos c]
    rfl
  · rw [if_neg c, List.filter_cons_of_neg c]
    simp
/-- [x for x in range(n) if ..] -/
theorem rd_filtR {ta : TA} {n : Nat} {p : Int → Bool} {Q : VK} (hj : j < σ.length) (hl : ∀ {R : List V → Hp → Prop}, R [.int (n : Int)] H → ta σ H R) (hz : n ≤ 1000)
    (ht : ∀ (i : Nat), i < n → ∀ (H' : Hp) (R : Bool → Hp → Prop), Same H H' → R (p i) H' → tt ((wipe σ [j]).set j (some (.int (i : Int)))) H' R)
    (q : ∀ (D : Addr) (H' : Hp), Same H H' → H D = none → Lb H' D ((pts n).filter p) → Q (.ref D) H') :
    tLc (iRng1 ta) (gName j) tt (tVar j) [j] σ H Q := by
  refine hl ⟨_, rfl, by omega, by omega, fun D hD => lc_range (lo := 0) (n := ((n : Int)).toNat) (fun i H' => Same H H' ∧ Lb H' D (((pts n).take i).filter p)) ⟨same_new hD, upd_same⟩ ?_ ?_⟩
  · rintro i H2 hi ⟨s2, hD2⟩
    refine ⟨wipe_one σ j _, ?_⟩
    have e : (0 : Int) + (i : Int) = (i : Int) := Int.zero_add _
    rw [e]
    have hi' : i < n := by omega
    refine ht i hi' H2 _ s2 ?_
    have f := filt_snoc (p := p) (l := (pts n).take i) (z := (i : Int))
    rw [← pts_take n i hi'] at f
    by_cases c : p i = true
    · rw [if_pos c] at f
      rw [if_pos c]
      refine ⟨.int (i : Int), ?_, _, hD2, ?_, sOwn s2 hD, ?_⟩
      · show ((σ.set j none).set j (some (.int (i : Int))))[j]? = _
        rw [List.getElem?_set_self (by rw [List.length_set]; exact hj)]
      · rw [List.length_map]
        refine small1000 (Nat.le_trans (List.length_filter_le _ _) ?_)
        rw [List.length_take, pts_length]
        omega
      · show upd H2 D _ D = _
        rw [upd_same, f, List.map_append]
        rfl
    · rw [if_neg c] at f
      rw [if_neg c]
      refine ⟨s2, ?_⟩
      show Lb H2 D _
      rw [f]
      exact hD2
  · rintro H2 ⟨s2, hD2⟩
    have e : ((n : Int)).toNat = n := by omega
    rw [e, List.take_of_length_le (by rw [pts_length]; exact Nat.le_refl _)] at hD2
    exact q D H2 s2 hD hD2
/-- [x for x in a tuple of ints if ..] -/
theorem rd_filtT {tl : TE} {b : List Int} {a : Addr} {p : Int → Bool} {Q : VK} (hj : j < σ.length) (hl : ∀ {R : VK}, R (.ref a) H → tl σ H R) (hb : SqT K H a (b.map V.int)) (hz : b.length ≤ 1000)
    (ht : ∀ x ∈ b, ∀ (H' : Hp) (R : Bool → Hp → Prop), Same H H' → R (p x) H' → tt ((wipe σ [j]).set j (some (.int x))) H' R)
    (q : ∀ (D : Addr) (H' : Hp), Same H H' → H D = none → Lb H' D (b.filter p) → Q (.ref D) H') :
    tLc (iTup K tl) (gName j) tt (tVar j) [j] σ H Q := by
  refine hl ⟨a, rfl, ⟨_, hb⟩, fun D hD => lc_tup (K := K) (a := a) (xs := b.map V.int) (fun i H' => Same H H' ∧ Lb H' D ((b.take i).filter p)) ⟨same_new hD, upd_same⟩ (fun i H' _ p => sSeqT p.1 hb) ?_ ?_⟩
  · rintro i y H2 hi ⟨s2, hD2⟩
    obtain ⟨z, hz', rfl⟩ := int_at hi
    have hlt := (List.getElem?_eq_some_iff.mp hz').1
    refine ⟨wipe_one σ j _, ht z (List.mem_of_getElem? hz') H2 _ s2 ?_⟩
    have f := filt_snoc (p := p) (l := b.take i) (z := z)
    have e : b.take i ++ [z] = b.take (i + 1) := by
      rw [List.take_succ, hz']
      rfl
    rw [e] at f
    by_cases c : p z = true
    · rw [if_pos c] at f
      rw [if_pos c]
      refine ⟨.int z, ?_, _, hD2, ?_, sOwn s2 hD, ?_⟩
      · show ((σ.set j none).set j (some (.int z)))[j]? = _
        rw [List.getElem?_set_self (by rw [List.length_set]; exact hj)]
      · rw [List.length_map]
        refine small1000 (Nat.le_trans (List.length_filter_le _ _) ?_)
        rw [List.length_take]
        omega
      · show upd H2 D _ D = _
        rw [upd_same, f, List.map_append]
        rfl
    · rw [if_neg c] at f
      rw [if_neg c]
      refine ⟨s2, ?_⟩
      show Lb H2 D _
      rw [f]
      exact hD2
  · rintro H2 ⟨s2, hD2⟩
    rw [List.length_map, List.take_length] at hD2
    exact q D H2 s2 hD hD2
/-- tuple(a new list of ints) -/
theorem rd_tupOf {tl : TE} {Q : VK} {b : List Int} (hl : ∀ {R : VK}, (∀ (D : Addr) (H' : Hp), Same H H' → Lb H' D b → R (.ref D) H') → tl σ H R)
    (q : ∀ (t : Addr) (H' : Hp), Same H H' → H t = none → Tb H' t b → Q (.ref t) H') :
    tCB (rTupOf K) (tCons tl tNil) σ H Q := by
  refine hl fun D H1 s1 hD => ⟨D, _, rfl, .inl ⟨SqL.of hD, fun t ht => ?_⟩⟩
  exact q t _ (sNew s1 ht) (s1.free ht) upd_same
/-- tuple(a new list of blocks) -/
theorem rd_tupRefs {tl : TE} {Q : VK} {A : List (Addr × List Int) → Prop} (hl : ∀ {R : VK}, (∀ (D : Addr) (H' : Hp) (ps : List (Addr × List Int)), Same H H' → H' D = some (.lst (refs ps)) → AllT H' ps → A ps → R (.ref D) H') → tl σ H R)
    (q : ∀ (t : Addr) (H' : Hp) (ps : List (Addr × List Int)), Same H H' → H t = none → H' t = some (.tup (refs ps)) → AllT H' ps → A ps → Q (.ref t) H') :
    tCB (rTupOf K) (tCons tl tNil) σ H Q := by
  refine hl fun D H1 ps s1 hD ha hA => ⟨D, _, rfl, .inl ⟨SqL.of hD, fun t ht => ?_⟩⟩
  exact q t _ ps (sNew s1 ht) (s1.free ht) upd_same (ha.same (same_new ht)) hA
/-- (n, a tuple of blocks), laid -/
theorem lay_new {H : Hp} {n : Nat} {b r : Addr} {ps : List (Addr × List Int)} (hb : H b = some (.tup (refs ps))) (ha : AllT H ps) (hr : H r = none) : LayAt (upd H r (.tup [.int (n : Int), .ref b])) r n (ps.map (·.2)) :=
  ⟨b, ps, upd_same, by rw [upd_ne (ne_of_none hb hr)]; exact hb, ha.same (same_new hr), rfl⟩
end
end K95

set_option Elab.async false
set_option linter.all false
set_option maxRecDepth 100000
set_option maxHeartbeats 1000000
namespace K95
open PySem PySem.Spec PyProof.Rows L2
section
variable {P : Program} {w : World} {K : PySem.W.Frag} {mg : Str → Option Value} {base : Heap} {f : Addr} {fd : FuncData}
/-! ### is_whole -/
def spWhole : Sp := fun vs H Q _ => ∃ i : Int, vs = [.int i] ∧ Q (.bl true) H
theorem scWholeL : FnScope ["thing"] ["thing"] (defScope sWholeL) := ⟨rfl, rfl, rfl, by decide +kernel, rfl, by decide +kernel, by decide +kernel⟩
theorem scWholeN : FnScope ["thing"] ["thing"] (defScope sWholeN) := ⟨rfl, rfl, rfl, by decide +kernel, rfl, by decide +kernel, by decide +kernel⟩
theorem ok_wholeL (F : FnP K "is_whole" sWholeL f fd) (T : Txt mg) : FnOk P w K mg base CX0 1 f fd ["thing"] spWhole := by
  refine okN F scWholeL (fun vs H Q E h => ?_) (fun cdv A outer s H vs Q E hr h => ?_)
  · obtain ⟨i, rfl, _⟩ := h
    rfl
  · obtain ⟨i, rfl, q⟩ := h
    refine ⟨_, pss_one (ps_ret (pe_and (pe_callB call_isi (by rfl) T.isi boot_isinstance (pa_cons (pv 0) (pa_cons (pe_bltn (v := .ty "int") (by rfl) T.int boot_int rfl) pa_nil)))
      (pe_one (pe_not (pe_callB call_isi (by rfl) T.isi boot_isinstance (pa_cons (pv 0) (pa_cons (pe_bltn (v := .ty "bool") (by rfl) T.bool boot_bool rfl) pa_nil))))))), ?_⟩
    refine ⟨_, rfl, _, _, _, _, true, rfl, ClsV.ty "int", .base (.int i), kit_ty (by decide +kernel), true, rfl, iteT ?_⟩
    exact ⟨_, rfl, _, _, _, _, false, rfl, ClsV.ty "bool", .base (.int i), kit_ty (by decide +kernel), false, rfl, q⟩
theorem ok_wholeN (F : FnP K "is_whole" sWholeN f fd) (T : Txt mg) : FnOk P w K mg base CX0 1 f fd ["thing"] spWhole := by
  refine okN F scWholeN (fun vs H Q E h => ?_) (fun cdv A outer s H vs Q E hr h => ?_)
  · obtain ⟨i, rfl, _⟩ := h
    rfl
  · obtain ⟨i, rfl, q⟩ := h
    refine ⟨_, pss_one (ps_ret (pe_and (pe_callB call_isi (by rfl) T.isi boot_isinstance (pa_cons (pv 0) (pa_cons (pe_bltn (v := .ty "int") (by rfl) T.int boot_int rfl) pa_nil)))
      (pe_one (pe_not (pe_callB call_isi (by rfl) T.isi boot_isinstance (pa_cons (pv 0) (pa_cons (pe_bltn (v := .ty "bool") (by rfl) T.bool boot_bool rfl) pa_nil))))))), ?_⟩
    refine ⟨_, rfl, _, _, _, _, true, rfl, ClsV.ty "int", .base (.int i), kit_ty (by decide +kernel), true, rfl, iteT ?_⟩
    exact ⟨_, rfl, _, _, _, _, false, rfl, ClsV.ty "bool", .base (.int i), kit_ty (by decide +kernel), false, rfl, q⟩
/-! ### is_point -/
def spPoint : Sp := fun vs H Q _ => ∃ i n : Int, vs = [.int i, .int n] ∧ (0 ≤ i ∧ i < n) ∧ Q (.bl true) H
theorem scPoint : FnScope ["thing", "points"] ["thing", "points"] (defScope sPoint) := ⟨rfl, rfl, rfl, by decide +kernel, rfl, by decide +kernel, by decide +kernel⟩
theorem ok_point (F : FnP K "is_point" sPoint f fd) (T : Txt mg) (C : Cal P w K mg base 1 "is_whole_layouts" ["thing"] spWhole) : FnOk P w K mg base CX0 2 f fd ["thing", "points"] spPoint := by
  refine okN F scPoint (fun vs H Q E h => ?_) (fun cdv A outer s H vs Q E hr h => ?_)
  · obtain ⟨i, n, rfl, _⟩ := h
    rfl
  · obtain ⟨i, n, rfl, hi, q⟩ := h
    refine ⟨_, pss_one (ps_ret (pe_and (pe_cal C hr (by rfl) (pa_cons (pv 0) pa_nil)) (pe_one (pe_chain op_le op_lt pe_int (pv 0) (pv 1))))), ?_⟩
    refine ⟨_, rfl, i, rfl, true, rfl, iteT ?_⟩
    refine ⟨_, rfl, _, _, rfl, rfl, _, rfl, ?_⟩
    rw [decide_eq_true hi.1]
    exact iteT ⟨_, rfl, _, _, rfl, rfl, ansT hi.2 q⟩
/-! ### is_block -/
def spBlock (K : PySem.W.Frag) : Sp := fun vs H Q _ => ∃ (a : Addr) (ns : List Int) (n : Int), vs = [.ref a, .int n] ∧ SqL K H a (ns.map V.int) ∧ ns.length < 64 ∧ ns.Nodup ∧ (∀ x ∈ ns, 0 ≤ x ∧ x < n) ∧ ∀ H', Same H H' → Q (.bl true) H'
abbrev nBlock : List Str := ["things", "points", "thing"]
theorem scBlock : FnScope nBlock ["things", "points"] (defScope sBlock) := ⟨rfl, rfl, rfl, by decide +kernel, rfl, by decide +kernel, by decide +kernel⟩
theorem all_trues : ∀ i : Nat, ((List.replicate i true).all id) = true := fun i => by simp
theorem ok_block (F : FnP K "is_block" sBlock f fd) (T : Txt mg) (C : Cal P w K mg base 2 "is_point" ["thing", "points"] spPoint) : FnOk P w K mg base CX0 3 f fd ["things", "points"] (spBlock K) := by
  refine okN F scBlock (fun vs H Q E h => ?_) (fun cdv A outer s H vs Q E hr h => ?_)
  · obtain ⟨a, ns, n, rfl, _⟩ := h
    rfl
  · obtain ⟨a, ns, n, rfl, hS, hl, hn, hb, q⟩ := h
    refine ⟨_, pss_cons (ps_if (pt_not (pt_val (pe_callB (cr_all rfl) (by rfl) T.all boot_all (pa_cons (pe_lc (own := [("thing", 2)]) (g := gName 2) (tt := tYes) rfl scBlock.nd (pi_list (pv 0)) (blkOk_by (N := nBlock) (sc := defScope sBlock) (by decide +kernel))
        (fun _ _ _ _ _ => pg_name (i := 2) scBlock.nd rfl (Or.inl rfl)) (fun _ _ _ _ _ => pts_nil) (fun _ _ _ _ _ => pe_cal C hr (by rfl) (pa_cons (pv 2) (pa_cons (pv 1) pa_nil)))) pa_nil)))) (pss_one (ps_ret pe_bl)) pss_nil)
      (pss_one (ps_ret (pe_cmpR op_eq (pe_lenSetI rfl (by rfl) T.len (by rfl) T.set (pv 0)) (pe_callB call_len_seq (by rfl) T.len PySem.boot_len (pa_cons (pv 0) pa_nil)) (nomark _)))), ?_⟩
    refine ⟨_, rfl, a, rfl, ⟨_, hS⟩, fun D hD => lc_list (K := K) (a := a) (xs := ns.map V.int) (fun i H' => Same H H' ∧ H' D = some (.lst ((List.replicate i true).map V.bl)) ∧ i ≤ ns.length) ⟨same_new hD, upd_same, Nat.zero_le _⟩ (fun i H' _ p => p.1.seq hS) ?_ ?_⟩
    · rintro i y H2 hi ⟨s2, hD2, _⟩
      obtain ⟨z, hz, rfl⟩ := int_at hi
      have hlt := (List.getElem?_eq_some_iff.mp hz).1
      refine ⟨rfl, ⟨_, rfl, _, rfl, z, n, rfl, hb z (List.mem_of_getElem? hz), _, hD2, by rw [List.length_map, List.length_replicate]; exact small1000 (by omega), sOwn s2 hD, ?_, hlt⟩⟩
      rw [upd_same, List.replicate_succ', List.map_append]
      rfl
    · rintro H2 ⟨s2, hD2, _⟩
      refine ⟨D, _, rfl, SqL.of hD2, _, rfl, ?_⟩
      rw [all_trues]
      refine iteF ⟨_, rfl, a, ns, rfl, s2.seq hS, hl, hn, _, rfl, a, _, rfl, .inl (s2.seq hS), rfl, ?_⟩
      rw [List.length_map]
      exact ansT rfl (q H2 s2)
/-! ### sorted_layout -/
def spSorted : Sp := fun vs H Q _ => ∃ (p : Addr) (n : Nat) (bs : List (List Int)), vs = [.ref p] ∧ LayAt H p n bs ∧ bs.length ≤ 1000 ∧ ∀ (r : Addr) (H' : Hp) (bs' : List (List Int)), Same H H' → LayAt H' r n bs' → bs'.Perm bs → bs'.Pairwise leL → Q (.ref r) H'
theorem scSorted : FnScope ["layout"] ["layout"] (defScope sSorted) := ⟨rfl, rfl, rfl, by decide +kernel, rfl, by decide +kernel, by decide +kernel⟩
theorem ok_sorted (F : FnP K "sorted_layout" sSorted f fd) (T : Txt mg) : FnOk P w K mg base CX0 1 f fd ["layout"] spSorted := by
  refine okN F scSorted (fun vs H Q E h => ?_) (fun cdv A outer s H vs Q E hr h => ?_)
  · obtain ⟨p, n, bs, rfl, _⟩ := h
    rfl
  · obtain ⟨p, n, bs, rfl, ⟨b, ps, hp, hb, hps, rfl⟩, hl, q⟩ := h
    refine ⟨_, pss_one (ps_ret (pe_tup (pa_cons (pe_ix ix_tup (pv 0) pe_int (fun _ _ => rfl)) (pa_cons (pe_callTy call_tuple_of (by rfl) T.tuple boot_tuple (pa_cons (pe_callB (cr_sortB hr.units) (by rfl) T.sorted boot_sorted (pa_cons (pe_ix ix_tup (pv 0) pe_int (fun _ _ => rfl)) pa_nil)) pa_nil)) pa_nil)))), ?_⟩
    refine ⟨_, rfl, p, _, _, _, rfl, rfl, SqT.of hp, at_of (j := 0) rfl rfl, ?_⟩
    refine ⟨_, rfl, p, _, _, _, rfl, rfl, SqT.of hp, at_of (j := 1) rfl rfl, b, ps, rfl, .inr (SqT.of hb), hps.B, fun ps' l pm srt hl0 => ?_⟩
    refine ⟨l, _, rfl, .inl ⟨SqL.of upd_same, fun t ht => ?_⟩⟩
    refine ⟨by show 2 ≤ sizeLine; decide, fun r hr0 => ?_⟩
    have s1 : Same H (upd H l (.lst (refs ps'))) := same_new hl0
    have s2 := sNew s1 (o := .tup (refs ps')) ht
    have s3 := sNew s2 (o := .tup [.int (n : Int), .ref t]) hr0
    refine q r _ (ps'.map (·.2)) s3 ⟨t, ps', upd_same, ?_, (hps.perm pm).same s3, rfl⟩ (pm.map _) (List.pairwise_map.mpr srt)
    rw [upd_ne (ne_of_none upd_same hr0), upd_same]
end
end K95

set_option Elab.async false
set_option linter.all false
set_option maxRecDepth 100000
set_option maxHeartbeats 1000000
namespace K95
open PySem PySem.Spec PyProof.Rows L2
/-! ### pieces of the text -/
def lcScope : Expr → Scope
  | .ListComp _ _ sc _ => sc
  | _ => default
def lcElt : Expr → Expr
  | .ListComp e _ _ _ => e
  | e => e
def argE (i : Nat) : Expr → Expr
  | .Call _ as _ _ => as.getD i (.Constant .none 0 ⟨0, 0, 0, 0⟩)
  | e => e
def tupE (i : Nat) : Expr → Expr
  | .Tuple as _ _ => as.getD i (.Constant .none 0 ⟨0, 0, 0, 0⟩)
  | e => e
def stE : Stmt → Expr
  | .Return (some e) _ => e
  | .Assign _ e _ => e
  | .Expr e _ => e
  | _ => .Constant .none 0 ⟨0, 0, 0, 0⟩
def stAt (i : Nat) (st : Stmt) : Stmt := (defBody st).getD i (.Pass ⟨0, 0, 0, 0⟩)
section
variable {P : Program} {w : World} {K : PySem.W.Frag} {mg : Str → Option Value} {base : Heap} {f : Addr} {fd : FuncData}
/-! ### turned -/
abbrev nTurned : List Str := ["block", "by", "n", "point"]
theorem scTurned : FnScope nTurned ["block", "by", "n"] (defScope sTurned) := ⟨rfl, rfl, rfl, by decide +kernel, rfl, by decide +kernel, by decide +kernel⟩
def spTurnedL (K : PySem.W.Frag) : Sp := fun vs H Q _ => ∃ (a : Addr) (b : List Int) (k : Int) (n : Nat), vs = [.ref a, .int k, .int (n : Int)] ∧ SqL K H a (b.map V.int) ∧ b.length < 64 ∧ 0 < n ∧ ∀ (t : Addr) (H' : Hp), Same H H' → H t = none → Tb H' t (turn n k b) → Q (.ref t) H'
theorem ok_turnedL (F : FnP K "turned" sTurned f fd) (T : Txt mg) : FnOk P w K mg base CX0 1 f fd ["block", "by", "n"] (spTurnedL K) := by
  refine okN F scTurned (fun vs H Q E h => ?_) (fun cdv A outer s H vs Q E hr h => ?_)
  · obtain ⟨a, b, k, n, rfl, _⟩ := h
    rfl
  · obtain ⟨a, b, k, n, rfl, hb, hl, hn, q⟩ := h
    refine ⟨_, pss_one (ps_ret (pe_callTy call_tuple_of (by rfl) T.tuple boot_tuple (pa_cons (pe_callB cr_sorted (by rfl) T.sorted boot_sorted (pa_cons
      (pe_lc (own := [("point", 3)]) (g := gName 3) (tt := tYes) rfl scTurned.nd (pi_list (pv 0)) (blkOk_by (N := nTurned) (sc := defScope sTurned) (by decide +kernel))
        (fun _ _ _ _ _ => pg_name (i := 3) scTurned.nd rfl (Or.inl rfl)) (fun _ _ _ _ _ => pts_nil) (fun _ _ _ _ _ => pe_op op_mod (pe_op op_add (pv 3) (pv 1)) (pv 2))) pa_nil)) pa_nil))), ?_⟩
    refine rd_srtT (b := b.map fun x => (x + k) % (n : Int)) (by rw [List.length_map]; exact hl) (fun {R} hR => ?_) fun t H' s' h0 ht => q t H' s' h0 ht
    refine rd_intsL (a := a) (b := b) (g := fun x => (x + k) % (n : Int)) (fun {R} h => ⟨_, rfl, h⟩) hb (by omega) (fun x hx H' R s' h => ?_) fun D H' s' h0 hD => hR D H' s' hD
    exact ⟨_, rfl, _, rfl, _, _, rfl, rfl, _, rfl, _, _, rfl, rfl, (by omega), h⟩
def spTurnedT (K : PySem.W.Frag) : Sp := fun vs H Q _ => ∃ (a : Addr) (b : List Int) (k : Int) (n : Nat), vs = [.ref a, .int k, .int (n : Int)] ∧ SqT K H a (b.map V.int) ∧ b.length < 64 ∧ 0 < n ∧ ∀ (t : Addr) (H' : Hp), Same H H' → H t = none → Tb H' t (turn n k b) → Q (.ref t) H'
theorem ok_turnedT (F : FnP K "turned" sTurned f fd) (T : Txt mg) : FnOk P w K mg base CX0 1 f fd ["block", "by", "n"] (spTurnedT K) := by
  refine okN F scTurned (fun vs H Q E h => ?_) (fun cdv A outer s H vs Q E hr h => ?_)
  · obtain ⟨a, b, k, n, rfl, _⟩ := h
    rfl
  · obtain ⟨a, b, k, n, rfl, hb, hl, hn, q⟩ := h
    refine ⟨_, pss_one (ps_ret (pe_callTy call_tuple_of (by rfl) T.tuple boot_tuple (pa_cons (pe_callB cr_sorted (by rfl) T.sorted boot_sorted (pa_cons
      (pe_lc (own := [("point", 3)]) (g := gName 3) (tt := tYes) rfl scTurned.nd (pi_tup (pv 0)) (blkOk_by (N := nTurned) (sc := defScope sTurned) (by decide +kernel))
        (fun _ _ _ _ _ => pg_name (i := 3) scTurned.nd rfl (Or.inl rfl)) (fun _ _ _ _ _ => pts_nil) (fun _ _ _ _ _ => pe_op op_mod (pe_op op_add (pv 3) (pv 1)) (pv 2))) pa_nil)) pa_nil))), ?_⟩
    refine rd_srtT (b := b.map fun x => (x + k) % (n : Int)) (by rw [List.length_map]; exact hl) (fun {R} hR => ?_) fun t H' s' h0 ht => q t H' s' h0 ht
    refine rd_intsT (a := a) (b := b) (g := fun x => (x + k) % (n : Int)) (fun {R} h => ⟨_, rfl, h⟩) hb (by omega) (fun x hx H' R s' h => ?_) fun D H' s' h0 hD => hR D H' s' hD
    exact ⟨_, rfl, _, rfl, _, _, rfl, rfl, _, rfl, _, _, rfl, rfl, (by omega), h⟩
/-! ### check_bases -/
abbrev nCheck : List Str := ["n", "bases", "place"]
theorem scCheck : FnScope nCheck ["n", "bases"] (defScope sCheck) := ⟨rfl, rfl, rfl, by decide +kernel, rfl, by decide +kernel, by decide +kernel⟩
/-- lists of ints at these places -/
def AllL (H : Hp) (ps : List (Addr × List Int)) : Prop := ∀ p ∈ ps, Lb H p.1 p.2
theorem AllL.same {H H' : Hp} {ps : List (Addr × List Int)} (h : AllL H ps) (s : Same H H') : AllL H' ps := fun p m => s _ _ (h p m)
/-- what is asked of bases -/
structure Bases (K : PySem.W.Frag) (H : Hp) (n : Nat) (a : Addr) (ps : List (Addr × List Int)) : Prop where
  pos : 0 < n
  le : n ≤ 60
  at_ : SqL K H a (refs ps)
  els : AllL H ps
  good : AllGood n (ps.map (·.2))
  many : n * ps.length ≤ 200
theorem Bases.same {H H' : Hp} {n : Nat} {a : Addr} {ps : List (Addr × List Int)} (h : Bases K H n a ps) (s : Same H H') : Bases K H' n a ps := ⟨h.pos, h.le, s.seq h.at_, h.els.same s, h.good, h.many⟩
theorem Bases.few {H : Hp} {n : Nat} {a : Addr} {ps : List (Addr × List Int)} (h : Bases K H n a ps) : ps.length ≤ 200 := by
  have h1 := h.pos
  have h2 := h.many
  have h3 : 1 * ps.length ≤ n * ps.length := Nat.mul_le_mul_right _ h1
  omega
theorem Bases.el {H : Hp} {n : Nat} {a : Addr} {ps : List (Addr × List Int)} (h : Bases K H n a ps) {i : Nat} {p : Addr × List Int} (e : ps[i]? = some p) : Lb H p.1 p.2 ∧ Good n p.2 ∧ p.2.length ≤ 60 := by
  have m := List.mem_of_getElem? e
  have g : Good n p.2 := h.good p.2 (List.mem_map.mpr ⟨p, m, rfl⟩)
  exact ⟨h.els p m, g, Nat.le_trans g.len h.le⟩
def spCheck (K : PySem.W.Frag) : Sp := fun vs H Q _ => ∃ (n : Nat) (a : Addr) (ps : List (Addr × List Int)), vs = [.int (n : Int), .ref a] ∧ Bases K H n a ps ∧ ∀ H', Same H H' → Q .non H'
theorem ok_check (F : FnP K "check_bases" sCheck f fd) (T : Txt mg) (CW : Cal P w K mg base 1 "is_whole_numbers" ["thing"] spWhole) (CB : Cal P w K mg base 3 "is_block" ["things", "points"] (spBlock K)) : FnOk P w K mg base CX0 4 f fd ["n", "bases"] (spCheck K) := by
  refine okN F scCheck (fun vs H Q E h => ?_) (fun cdv A outer s H vs Q E hr h => ?_)
  · obtain ⟨n, a, ps, rfl, _⟩ := h
    rfl
  · obtain ⟨n, a, ps, rfl, B, q⟩ := h
    obtain ⟨t1, ht1⟩ := T.mp
    obtain ⟨t2, ht2⟩ := T.mb
    have few := B.few
    have many := B.many
    have pos := B.pos
    have le := B.le
    refine ⟨_, pss_cons (ps_if (PW.pt (pw_or (pt_not (pt_val (pe_cal CW (hr.mono (by decide)) (by rfl) (pa_cons (pv 0) pa_nil)))) (pw_or (pt_not (pt_chain op_le op_le pe_int (pv 0) (pe_glob (v := .int 60) (by rfl) ht1 ⟨t1, rfl⟩)))
        (pw_or1 (pt_cmpR op_gt (pe_op op_mul (pv 0) (pe_callB call_len_seq (by rfl) T.len PySem.boot_len (pa_cons (pv 1) pa_nil))) (pe_glob (v := .int 200) (by rfl) ht2 ⟨t2, rfl⟩) (nomark _)))))) (pss_one ps_never) pss_nil)
      (pss_one (ps_for PassesOwn.never rfl (pi_range1 (by rfl) T.range (pa_cons (pe_callB call_len_seq (by rfl) T.len PySem.boot_len (pa_cons (pv 1) pa_nil)) pa_nil)) (pg_name (i := 2) scCheck.nd rfl (Or.inl rfl))
        (pss_one (ps_if (pt_not (pt_val (pe_cal CB hr (by rfl) (pa_cons (pe_ix ix_list (pv 1) (pv 2) (fun _ _ => rfl)) (pa_cons (pv 0) pa_nil))))) (pss_one ps_never) pss_nil)))), ?_⟩
    refine ⟨_, rfl, _, rfl, true, rfl, iteF ?_⟩
    refine ⟨_, rfl, _, _, rfl, rfl, _, rfl, ?_⟩
    rw [decide_eq_true (show (1 : Int) ≤ (n : Int) by omega)]
    refine iteT ⟨_, _, rfl, rfl, _, rfl, ?_⟩
    rw [decide_eq_true (show (n : Int) ≤ 60 by omega)]
    refine iteF ⟨_, rfl, _, rfl, a, _, rfl, .inl B.at_, _, _, rfl, rfl, .inl ⟨by omega, by omega⟩, _, _, rfl, rfl, _, rfl, ?_⟩
    have hm : ¬ (200 : Int) < (n : Int) * ((refs ps).length : Int) := by
      rw [List.length_map]
      have : ((n * ps.length : Nat) : Int) = (n : Int) * (ps.length : Int) := Int.natCast_mul _ _
      omega
    rw [decide_eq_false hm]
    refine iteF ⟨_, rfl, a, _, rfl, .inl B.at_, _, rfl, by omega, by rw [List.length_map]; omega, ?_⟩
    refine for_range (lo := 0) (n := (((refs ps).length : Nat) : Int).toNat) (fun i σ H2 => ∃ v, σ = [some (.int (n : Int)), some (.ref a), v] ∧ Same H H2) ⟨none, rfl, Same.refl H⟩ ?_ ?_
    · rintro i σ H2 hi ⟨v, rfl, s2⟩
      have e : (0 : Int) + (i : Int) = (i : Int) := Int.zero_add _
      rw [e]
      have hi' : i < ps.length := by rw [List.length_map] at hi; omega
      obtain ⟨p, hp⟩ : ∃ p, ps[i]? = some p := ⟨_, List.getElem?_eq_getElem hi'⟩
      obtain ⟨h1, h2, h3⟩ := (B.same s2).el hp
      refine ⟨_, rfl, _, rfl, a, _, _, .ref p.1, rfl, rfl, s2.seq B.at_, at_of rfl (by rw [List.getElem?_map, hp]; rfl), _, rfl, p.1, p.2, _, rfl, SqL.of h1, by omega, Rise.nodup h2.rise, h2.bd, fun H3 s3 => ⟨true, rfl, iteF ?_⟩⟩
      exact ⟨_, rfl, s2.trans s3⟩
    · rintro σ H2 ⟨v, rfl, s2⟩
      exact q H2 s2
/-! ### developed -/
abbrev nDev : List Str := ["n", "bases", "blocks", "base", "by"]
theorem scDev : FnScope nDev ["n", "bases"] (defScope sDev) := ⟨rfl, rfl, rfl, by decide +kernel, rfl, by decide +kernel, by decide +kernel⟩
def spDev (K : PySem.W.Frag) : Sp := fun vs H Q _ => ∃ (n : Nat) (a : Addr) (ps : List (Addr × List Int)), vs = [.int (n : Int), .ref a] ∧ Bases K H n a ps ∧ ∀ (r : Addr) (H' : Hp), Same H H' → H r = none → LayAt H' r n (dev n (ps.map (·.2))) → Q (.ref r) H'
theorem dev_take (n : Nat) (bs : List (List Int)) {i : Nat} {b : List Int} (h : bs[i]? = some b) : dev n (bs.take (i + 1)) = dev n (bs.take i) ++ orb n b := by
  rw [List.take_succ, h, dev_append]
  congr 1
  show (orb n b ++ []) = orb n b
  rw [List.append_nil]
theorem ok_dev (F : FnP K "developed" sDev f fd) (T : Txt mg) (CC : Cal P w K mg base 4 "check_bases" ["n", "bases"] (spCheck K)) (CT : Cal P w K mg base 1 "turned" ["block", "by", "n"] (spTurnedL K)) : FnOk P w K mg base CX0 5 f fd ["n", "bases"] (spDev K) := by
  refine okN F scDev (fun vs H Q E h => ?_) (fun cdv A outer s H vs Q E hr h => ?_)
  · obtain ⟨n, a, ps, rfl, _⟩ := h
    rfl
  · obtain ⟨n, a, ps, rfl, B, q⟩ := h
    have few := B.few
    have many := B.many
    have pos := B.pos
    have le := B.le
    refine ⟨_, pss_cons (ps_expr (pe_cal CC hr (by rfl) (pa_cons (pv 0) (pa_cons (pv 1) pa_nil))))
      (pss_cons (ps_set (i := 2) scDev.nd rfl (Or.inl rfl) (pe_lst pa_nil))
      (pss_cons (ps_for PassesOwn.never rfl (pi_list (pv 1)) (pg_name (i := 3) scDev.nd rfl (Or.inr rfl)) (pss_one (ps_expr (pe_bm PySem.F.plainAttrs_list PySem.F.slot_list_extend PySem.F.type_list_extend mt_extend (pv 2) (pa_cons
        (pe_lc (own := [("by", 4)]) (g := gName 4) (tt := tYes) rfl scDev.nd (pi_range1 (by rfl) T.range (pa_cons (pv 0) pa_nil)) (blkOk_by (N := nDev) (sc := defScope sDev) (by decide +kernel))
          (fun _ _ _ _ _ => pg_name (i := 4) scDev.nd rfl (Or.inl rfl)) (fun _ _ _ _ _ => pts_nil) (fun _ _ _ _ _ => pe_cal CT (hr.mono (by decide)) (by rfl) (pa_cons (pv 3) (pa_cons (pv 4) (pa_cons (pv 0) pa_nil))))) pa_nil)))))
      (pss_one (ps_ret (pe_tup (pa_cons (pv 0) (pa_cons (pe_callTy call_tuple_of (by rfl) T.tuple boot_tuple (pa_cons (pv 2) pa_nil)) pa_nil))))))), ?_⟩
    refine ⟨_, rfl, _, rfl, n, a, ps, rfl, B, fun H1 s1 => ⟨small_line (Nat.zero_le _), fun l hl => ?_⟩⟩
    have s1' := sNew s1 (o := .lst []) hl
    have hl0 : H l = none := s1.free hl
    refine ⟨_, rfl, a, rfl, ⟨_, s1'.seq B.at_⟩, for_list (K := K) (a := a) (xs := refs ps) (fun i σ H2 => ∃ v, σ = [some (.int (n : Int)), some (.ref a), some (.ref l), v, none] ∧ Same H H2 ∧ ∃ qs, H2 l = some (.lst (refs qs)) ∧ AllT H2 qs ∧ qs.map (·.2) = dev n ((ps.map (·.2)).take i))
      ⟨none, rfl, s1', [], upd_same, AllT.nil, rfl⟩ (fun i σ H2 _ ⟨_, _, s2, _⟩ => s2.seq B.at_) ?_ ?_⟩
    · rintro i y σ H2 hi ⟨v, rfl, s2, qs, h1, h2, h3⟩
      obtain ⟨p, hp, rfl⟩ := ref_at hi
      obtain ⟨g1, g2, g3⟩ := (B.same s2).el hp
      have hpb : (ps.map (·.2))[i]? = some p.2 := by rw [List.getElem?_map, hp]; rfl
      have hlen : qs.length ≤ 200 := by
        have e := congrArg List.length h3
        rw [List.length_map, dev_length, List.length_take, List.length_map] at e
        have z : n * min i ps.length ≤ n * ps.length := Nat.mul_le_mul_left _ (Nat.min_le_right _ _)
        omega
      refine ⟨_, rfl, .inl ⟨rfl, _, SqL.of h1⟩, rd_blksR (n := n) (Rl := fun k b => b = turn n k p.2) (fun {R} h => ⟨_, rfl, h⟩) (by omega) (fun k hk H3 R s3 h => ?_) fun D H3 rs s3 hD h4 h5 h6 h7 => ?_⟩
      · exact ⟨_, rfl, _, rfl, _, rfl, p.1, p.2, k, n, rfl, s3.seq (SqL.of g1), by omega, pos, fun t H4 s4 h0 ht => h t _ H4 s4 ht rfl⟩
      · refine ⟨l, D, _, _, rfl, rfl, s3 _ _ h1, h4, ?_, ?_⟩
        · rw [List.length_map, List.length_map, h6]
          exact small_line (by omega)
        · refine ⟨_, rfl, sOwn (s2.trans s3) hl0, qs ++ rs, ?_, fun z m => ?_, ?_⟩
          · rw [upd_same]
            show _ = some (HO.lst ((qs ++ rs).map fun p => V.ref p.1))
            rw [List.map_append]
          · refine allT_upd (xs := refs qs) (ps := qs ++ rs) (fun z m => ?_) (s3 _ _ h1) z m
            rcases List.mem_append.mp m with m | m
            · exact s3 _ _ (h2 z m)
            · exact h5 z m
          · rw [List.map_append, h3, dev_take n _ hpb, map_of_at h6 h7]
            rfl
    · rintro σ H2 ⟨v, rfl, s2, qs, h1, h2, h3⟩
      refine ⟨_, rfl, _, rfl, l, _, rfl, .inl ⟨SqL.of h1, fun t ht => ⟨by show 2 ≤ sizeLine; decide, fun r hr0 => ?_⟩⟩⟩
      have s3 := sNew s2 (o := .tup (refs qs)) ht
      have s4 := sNew s3 (o := .tup [.int (n : Int), .ref t]) hr0
      refine q r _ s4 (s3.free hr0) ?_
      have z := lay_new (n := n) (upd_same (H := H2) (a := t) (o := .tup (refs qs))) (h2.same (same_new ht)) hr0
      rw [h3, List.length_map, List.take_of_length_le (by rw [List.length_map]; exact Nat.le_refl _)] at z
      exact z
end
end K95

set_option Elab.async false
set_option linter.all false
set_option maxRecDepth 100000
set_option maxHeartbeats 1000000
namespace K95
open PySem PySem.Spec PyProof.Rows L2
section
variable {P : Program} {w : World} {K : PySem.W.Frag} {mg : Str → Option Value} {base : Heap} {f : Addr} {fd : FuncData}
/-! ### is_row -/
abbrev nIsRow : List Str := ["row", "points"]
theorem scIsRow : FnScope nIsRow ["row", "points"] (defScope sIsRow) := ⟨rfl, rfl, rfl, by decide +kernel, rfl, by decide +kernel, by decide +kernel⟩
def spIsRow : Sp := fun vs H Q _ => ∃ (a : Addr) (ns : List Int) (n : Nat), vs = [.ref a, .int (n : Int)] ∧ Lb H a ns ∧ ns.length = n ∧ n < 64 ∧ ns.Nodup ∧ (∀ x ∈ ns, 0 ≤ x ∧ x < (n : Int)) ∧ ∀ H', Same H H' → Q (.bl true) H'
theorem ok_isRow (F : FnP K "is_row" sIsRow f fd) (T : Txt mg) (CB : Cal P w K mg base 3 "is_block" ["things", "points"] (spBlock K)) : FnOk P w K mg base CX0 4 f fd ["row", "points"] spIsRow := by
  refine okN F scIsRow (fun vs H Q E h => ?_) (fun cdv A outer s H vs Q E hr h => ?_)
  · obtain ⟨a, ns, n, rfl, _⟩ := h
    rfl
  · obtain ⟨a, ns, n, rfl, ha, hl, h64, nd, bd, q⟩ := h
    refine ⟨_, pss_one (ps_ret (pe_and (pe_callB call_isi (by rfl) T.isi boot_isinstance (pa_cons (pv 0) (pa_cons (pe_bltn (v := .ty "list") (by rfl) T.list boot_list rfl) pa_nil)))
      (pe_and (pe_cmpR op_eq (pe_callB call_len_seq (by rfl) T.len PySem.boot_len (pa_cons (pv 0) pa_nil)) (pv 1) (nomark _))
      (pe_one (pe_cal CB hr (by rfl) (pa_cons (pv 0) (pa_cons (pv 1) pa_nil))))))), ?_⟩
    refine ⟨_, rfl, _, _, _, _, true, rfl, ClsV.ty "list", .base (.lst ha), kit_ty (by decide +kernel), true, rfl, iteT ?_⟩
    refine ⟨_, rfl, a, _, rfl, .inl (SqL.of ha), _, rfl, rfl, _, rfl, ?_⟩
    have e : (V.int (((ns.map V.int).length : Nat) : Int)) = V.int (n : Int) := by rw [List.length_map, hl]
    rw [decide_eq_true e]
    exact iteT ⟨_, rfl, _, rfl, a, ns, (n : Int), rfl, SqL.of ha, by omega, nd, bd, fun H' s' => q H' s'⟩
/-! ### renamed, by the row that turns -/
abbrev nRenamed : List Str := ["layout", "row", "points", "blocks", "block", "point"]
theorem scRenamed : FnScope nRenamed ["layout", "row"] (defScope sRenamed) := ⟨rfl, rfl, rfl, by decide +kernel, rfl, by decide +kernel, by decide +kernel⟩
/-- each point one more, the last one 0 -/
def rowOf (n : Nat) : List Int := (List.range n).map fun k : Nat => ((k : Int) + 1) % (n : Int)
theorem rowOf_length (n : Nat) : (rowOf n).length = n := by unfold rowOf; rw [List.length_map, List.length_range]
theorem rowOf_at {n : Nat} {x : Int} (h0 : 0 ≤ x) (h1 : x < n) : atI ((rowOf n).map V.int) x = some (.int ((x + 1) % (n : Int))) := by
  refine at_of (j := x.toNat) (by omega) ?_
  unfold rowOf
  rw [List.getElem?_map, List.getElem?_map, List.getElem?_range (by omega)]
  show some (V.int (((x.toNat : Nat) + 1 : Int) % n)) = _
  rw [Int.toNat_of_nonneg h0]
theorem rowOf_bd {n : Nat} (hn : 0 < n) : ∀ x ∈ rowOf n, 0 ≤ x ∧ x < (n : Int) := fun x m => by
  obtain ⟨k, _, rfl⟩ := List.mem_map.mp m
  exact ⟨Int.emod_nonneg _ (by omega), Int.emod_lt_of_pos _ (by omega)⟩
theorem rowOf_nodup {n : Nat} (hn : 0 < n) : (rowOf n).Nodup := by
  have h := turn_good (k := 1) hn (pts_good n)
  have p : (rowOf n).Perm (turn n 1 (pts n)) := by
    have e : rowOf n = (pts n).map fun x => (x + 1) % (n : Int) := by
      unfold rowOf pts
      rw [List.map_map]
      rfl
    rw [e]
    exact (srt_perm _).symm
  exact p.nodup_iff.mpr (Rise.nodup h.rise)
def cRen : Expr := argE 0 (tupE 1 (stE (stAt 2 sRenamed)))
def spRenamed : Sp := fun vs H Q _ => ∃ (p a : Addr) (n : Nat) (bs : List (List Int)), vs = [.ref p, .ref a] ∧ LayAt H p n bs ∧ Lb H a (rowOf n) ∧ 0 < n ∧ n < 64 ∧ AllGood n bs ∧ bs.length ≤ 1000 ∧
  ∀ (r : Addr) (H' : Hp), Same H H' → LayAt H' r n (bs.map (turn n 1)) → Q (.ref r) H'
theorem ok_renamed (F : FnP K "renamed" sRenamed f fd) (T : Txt mg) (CR : Cal P w K mg base 4 "is_row" ["row", "points"] spIsRow) : FnOk P w K mg base CX0 5 f fd ["layout", "row"] spRenamed := by
  refine okN F scRenamed (fun vs H Q E h => ?_) (fun cdv A outer s H vs Q E hr h => ?_)
  · obtain ⟨p, a, n, bs, rfl, _⟩ := h
    rfl
  · obtain ⟨p, a, n, bs, rfl, ⟨b, ps, hp, hb, hps, rfl⟩, ha, hn, h64, hg, hl, q⟩ := h
    refine ⟨_, pss_cons (ps_asg (pv 0) (pg_tup (by rfl) (pgs_cons (pg_name (i := 2) scRenamed.nd rfl (Or.inl rfl)) (pgs_cons (pg_name (i := 3) scRenamed.nd rfl (Or.inl rfl)) pgs_nil))))
      (pss_cons (ps_if (pt_not (pt_val (pe_cal CR hr (by rfl) (pa_cons (pv 1) (pa_cons (pv 2) pa_nil))))) (pss_one ps_never) pss_nil)
      (pss_one (ps_ret (pe_tup (pa_cons (pv 2) (pa_cons (pe_callTy call_tuple_of (by rfl) T.tuple boot_tuple (pa_cons
        (pe_lc (own := [("block", 4)]) (g := gName 4) (tt := tYes) rfl scRenamed.nd (pi_tup (pv 3)) (blkOk_by (N := nRenamed) (sc := defScope sRenamed) (by decide +kernel))
          (fun _ _ _ _ _ => pg_name (i := 4) scRenamed.nd rfl (Or.inl rfl)) (fun _ _ _ _ _ => pts_nil) (fun _ _ _ _ _ => pe_callTy (r := rTupOf K) call_tuple_of (by rfl) T.tuple boot_tuple (pa_cons (pe_callB (r := rSorted K) cr_sorted (by rfl) T.sorted boot_sorted (pa_cons
            (pe_lc (wi := iTup K (tVar 4)) (own := [("point", 5)]) (g := gName 5) (tt := tYes) rfl scRenamed.nd (pi_tup (pv 4)) (blkOk_by (N := nRenamed) (sc := relS (lcScope cRen) (defScope sRenamed)) (by decide +kernel))
              (fun _ _ _ _ _ => pg_name (i := 5) scRenamed.nd rfl (Or.inl rfl)) (fun _ _ _ _ _ => pts_nil) (fun _ _ _ _ _ => pe_ix (r := rIxL K) ix_list (pv 1) (pv 5) (fun _ _ => rfl))) pa_nil)) pa_nil))) pa_nil)) pa_nil)))))), ?_⟩
    refine ⟨_, rfl, p, _, rfl, SqT.of hp, rfl, _, _, rfl, _, _, rfl, rfl, ?_⟩
    refine ⟨_, rfl, _, rfl, a, rowOf n, n, rfl, ha, rowOf_length n, h64, rowOf_nodup hn, rowOf_bd hn, fun H1 s1 => ⟨true, rfl, iteF ?_⟩⟩
    refine ⟨_, rfl, rd_tupRefs (A := fun rs => rs.map (·.2) = (ps.map (·.2)).map (turn n 1)) (fun {R} hR => ?_) fun t H2 rs s2 ht0 ht hrs hA => ?_⟩
    · refine rd_blksT (a := b) (xs := refs ps) (Rl := fun k c => ∃ z, ps[k]? = some z ∧ c = turn n 1 z.2) (fun {R'} h => ⟨_, rfl, h⟩) (sSeqT s1 (SqT.of hb)) (by rw [List.length_map]; rw [List.length_map] at hl; exact hl) (fun i x hx H2 R' s2 h => ?_) fun D H2 rs s2 hD hrs ht hlen hRl => ?_
      · obtain ⟨z, hz, rfl⟩ := ref_at hx
        have gz : Good n z.2 := hg z.2 (List.mem_map.mpr ⟨z, List.mem_of_getElem? hz, rfl⟩)
        have s12 := s1.trans s2
        refine rd_srtT (b := z.2.map fun x => (x + 1) % (n : Int)) (by rw [List.length_map]; exact Nat.lt_of_le_of_lt gz.len h64) (fun {R2} hR2 => ?_) fun t H3 s3 h0 ht => h t _ H3 s3 ht ⟨z, hz, rfl⟩
        refine rd_intsT (a := z.1) (b := z.2) (g := fun x => (x + 1) % (n : Int)) (fun {R'} h => ⟨_, rfl, h⟩) (SqT.of (s12 _ _ (hps z (List.mem_of_getElem? hz)))) (by have := gz.len; omega) (fun x hx H3 R3 s3 h3 => ?_) fun D2 H3 s3 h0 hD2 => hR2 D2 H3 s3 hD2
        have bx := gz.bd x hx
        exact ⟨_, rfl, _, rfl, a, _, _, _, rfl, rfl, SqL.of (s3 _ _ (s12 _ _ ha)), rowOf_at bx.1 bx.2, h3⟩
      · refine hR D H2 rs s2 hrs ht ?_
        rw [map_of_el (xs := ps) (F := fun z => turn n 1 z.2) (by rw [hlen, List.length_map]) hRl, List.map_map]
        rfl
    · refine ⟨by show 2 ≤ sizeLine; decide, fun r hr0 => ?_⟩
      have s3 := sNew (s1.trans s2) (o := .tup [.int (n : Int), .ref t]) hr0
      refine q r _ s3 ?_
      rw [← hA]
      exact lay_new ht hrs hr0
/-! ### complement -/
abbrev nCompl : List Str := ["layout", "blocks", "block", "point"]
theorem scCompl : FnScope nCompl ["layout"] (defScope sCompl) := ⟨rfl, rfl, rfl, by decide +kernel, rfl, by decide +kernel, by decide +kernel⟩
def cCompl : Expr := stE (stAt 0 sCompl)
theorem inV_ints (x : Int) : ∀ b : List Int, inV (.int x) (b.map V.int) = decide (x ∈ b)
  | [] => rfl
  | y :: b => by
    have ih := inV_ints x b
    show (eqV (.int y) (.int x) || inV (.int x) (b.map V.int)) = _
    rw [ih]
    have e : eqV (.int y) (.int x) = decide (x = y) := by
      show (decide (y = x)) = _
      by_cases c : y = x
      · rw [decide_eq_true c, decide_eq_true c.symm]
      · rw [decide_eq_false c, decide_eq_false fun z => c z.symm]
    rw [e]
    by_cases c : x = y
    · rw [decide_eq_true c, decide_eq_true (by rw [c]; exact List.mem_cons_self : x ∈ y :: b)]
      rfl
    · rw [decide_eq_false c, Bool.false_or]
      by_cases m : x ∈ b
      · rw [decide_eq_true m, decide_eq_true (List.mem_cons_of_mem _ m)]
      · rw [decide_eq_false m, decide_eq_false (fun z => (List.mem_cons.mp z).elim c m)]
theorem flat_ints : ∀ b : List Int, (b.map V.int).all flatV = true
  | [] => rfl
  | _ :: b => by
    rw [List.map_cons, List.all_cons, flat_ints b]
    rfl
def spCompl : Sp := fun vs H Q _ => ∃ (p : Addr) (n : Nat) (bs : List (List Int)), vs = [.ref p] ∧ LayAt H p n bs ∧ n ≤ 1000 ∧ bs.length ≤ 1000 ∧
  ∀ (r : Addr) (H' : Hp), Same H H' → LayAt H' r n (bs.map (compl n)) → Q (.ref r) H'
theorem ok_compl (F : FnP K "complement" sCompl f fd) (T : Txt mg) : FnOk P w K mg base CX0 1 f fd ["layout"] spCompl := by
  refine okN F scCompl (fun vs H Q E h => ?_) (fun cdv A outer s H vs Q E hr h => ?_)
  · obtain ⟨p, n, bs, rfl, _⟩ := h
    rfl
  · obtain ⟨p, n, bs, rfl, ⟨b, ps, hp, hb, hps, rfl⟩, hn, hl, q⟩ := h
    refine ⟨_, pss_cons (ps_setLc (i := 1) (own := [("block", 2)]) (g := gName 2) (tt := tYes) rfl scCompl.nd rfl rfl (sw_true rfl rfl rfl (by decide +kernel)) (pi_tup (pe_ix ix_tup (pv 0) pe_int (fun _ _ => rfl))) (blkOk_by (N := nCompl) (sc := defScope sCompl) (by decide +kernel))
        (fun _ _ _ _ _ => pg_name (i := 2) scCompl.nd rfl (Or.inr rfl)) (fun _ _ _ _ _ => pts_nil) (fun _ _ _ _ _ => pe_callTy (r := rTupOf K) call_tuple_of (by rfl) T.tuple boot_tuple (pa_cons
          (pe_lc (own := [("point", 3)]) (g := gName 3) rfl scCompl.nd (pi_range1 (by rfl) T.range (pa_cons (pe_ix (r := rIxT K) ix_tup (pv 0) pe_int (fun _ _ => rfl)) pa_nil)) (blkOk_by (N := nCompl) (sc := relS (lcScope cCompl) (defScope sCompl)) (by decide +kernel))
            (fun _ _ _ _ _ => pg_name (i := 3) scCompl.nd rfl (Or.inl rfl)) (fun _ _ _ _ _ => pts_one (pt_cmpR (r := rIn K true) op_notIn_seq (pv 3) (pv 2) (by rfl))) (fun _ _ _ _ _ => pv 3)) pa_nil)))
      (pss_one (ps_ret (pe_tup (pa_cons (pe_ix ix_tup (pv 0) pe_int (fun _ _ => rfl)) (pa_cons (pe_callTy call_tuple_of (by rfl) T.tuple boot_tuple (pa_cons (pv 1) pa_nil)) pa_nil))))), ?_⟩
    refine rd_set (rd_blksT (a := b) (xs := refs ps) (Rl := fun k c => ∃ z, ps[k]? = some z ∧ c = compl n z.2) (fun {R'} h => ⟨_, rfl, p, _, _, _, rfl, rfl, SqT.of hp, at_of (j := 1) rfl rfl, h⟩) (SqT.of hb) (by rw [List.length_map]; rw [List.length_map] at hl; exact hl) (fun i x hx H2 R' s2 h => ?_) fun D H2 rs s2 hD hrs ht hlen hRl => ?_)
    · obtain ⟨z, hz, rfl⟩ := ref_at hx
      have hz' := s2 _ _ (hps z (List.mem_of_getElem? hz))
      refine rd_tupOf (b := compl n z.2) (fun {R2} hR2 => ?_) fun t H3 s3 h0 ht => h t _ H3 s3 ht ⟨z, hz, rfl⟩
      refine rd_filtR (n := n) (p := fun x => !decide (x ∈ z.2)) (by show 3 < 4; decide) (fun {R'} h => ⟨_, rfl, p, _, _, _, rfl, rfl, SqT.of (s2 _ _ hp), at_of (j := 0) rfl rfl, h⟩) hn (fun i hi H3 R3 s3 h3 => ?_) fun D2 H3 s3 h0 hD2 => hR2 D2 H3 s3 hD2
      refine ⟨_, rfl, _, rfl, z.1, _, rfl, .inr (SqT.of (s3 _ _ hz')), rfl, flat_ints _, _, rfl, ?_⟩
      rw [inV_ints]
      exact h3
    · refine ⟨_, rfl, p, _, _, _, rfl, rfl, SqT.of (s2 _ _ hp), at_of (j := 0) rfl rfl, _, rfl, D, _, rfl, .inl ⟨SqL.of hrs, fun t ht0 => ⟨by show 2 ≤ sizeLine; decide, fun r hr0 => ?_⟩⟩⟩
      have s3 := sNew s2 (o := .tup (refs rs)) ht0
      refine q r _ (sNew s3 hr0) ?_
      have e : rs.map (·.2) = (ps.map (·.2)).map (compl n) := by
        rw [map_of_el (xs := ps) (F := fun z => compl n z.2) (by rw [hlen, List.length_map]) hRl, List.map_map]
        rfl
      rw [← e]
      exact lay_new upd_same (ht.same (same_new ht0)) hr0
end
end K95

set_option Elab.async false
set_option linter.all false
set_option maxRecDepth 100000
set_option maxHeartbeats 1000000
namespace K95
open PySem PySem.Spec PyProof.Rows L2
/-! ### dicts from blocks to counts, as lists -/
theorem keyB_inj {a b : List Int} (h : a.map (Sum.inl : Int → L2.Key) = b.map Sum.inl) : a = b := by
  induction a generalizing b with
  | nil =>
    cases b with
    | nil => rfl
    | cons y b => simp at h
  | cons x a ih =>
    cases b with
    | nil => simp at h
    | cons y b =>
      rw [List.map_cons, List.map_cons] at h
      injection h with h1 h2
      rw [Sum.inl.inj h1, ih h2]
def putE (es : List (List Int × Nat)) (b : List Int) (n : Nat) : List (List Int × Nat) := if (es.any fun e => decide (e.1 = b)) = true then es.map (fun e => if e.1 = b then (b, n) else e) else es ++ [(b, n)]
theorem valV_ent (b : List Int) : ∀ es : List (List Int × Nat), valV (es.map entI) (b.map Sum.inl) = (es.find? fun e => decide (e.1 = b)).map fun e => V.int (e.2 : Int)
  | [] => rfl
  | e :: es => by
    rw [List.map_cons]
    by_cases c : e.1 = b
    · rw [valV_pos (show (entI e).1 = b.map Sum.inl by rw [← c]), List.find?_cons_of_pos (by exact decide_eq_true c)]
      rfl
    · rw [valV_neg (show ¬ (entI e).1 = b.map Sum.inl from fun z => c (keyB_inj z)), List.find?_cons_of_neg (by simpa using c)]
      exact valV_ent b es
theorem putK_ent (es : List (List Int × Nat)) (b : List Int) (n : Nat) : putK (es.map entI) (b.map Sum.inl) (.int (n : Int)) = (putE es b n).map entI := by
  have h1 : ((es.map entI).any fun kv => decide (kv.1 = b.map Sum.inl)) = es.any fun e => decide (e.1 = b) := by
    rw [List.any_map]
    congr 1
    funext e
    show decide (e.1.map Sum.inl = b.map Sum.inl) = decide (e.1 = b)
    by_cases c : e.1 = b
    · rw [decide_eq_true c, decide_eq_true (by rw [c])]
    · rw [decide_eq_false c, decide_eq_false fun z => c (keyB_inj z)]
  unfold putK putE
  rw [h1]
  by_cases c : (es.any fun e => decide (e.1 = b)) = true
  · rw [if_pos c, if_pos c, List.map_map, List.map_map]
    refine List.map_congr_left fun e _ => ?_
    show (if (entI e).1 = b.map Sum.inl then ((entI e).1, V.int (n : Int)) else entI e) = entI (if e.1 = b then (b, n) else e)
    by_cases q : e.1 = b
    · rw [if_pos q, if_pos (show (entI e).1 = b.map Sum.inl by rw [← q])]
      show (e.1.map Sum.inl, V.int (n : Int)) = (b.map Sum.inl, V.int (n : Int))
      rw [q]
    · rw [if_neg q, if_neg (show ¬ (entI e).1 = b.map Sum.inl from fun z => q (keyB_inj z))]
  · rw [if_neg c, if_neg c, List.map_append]
    rfl
/-- entries: keys that differ, just those of a kind, each with its count -/
structure Ents (es : List (List Int × Nat)) (A : List Int → Prop) (f : List Int → Nat) : Prop where
  nd : (es.map (·.1)).Nodup
  mem : ∀ e, e ∈ es ↔ A e.1 ∧ e.2 = f e.1
theorem Ents.has {es : List (List Int × Nat)} {A : List Int → Prop} {f : List Int → Nat} (h : Ents es A f) {b : List Int} (hb : A b) : (es.find? fun e => decide (e.1 = b)) = some (b, f b) := by
  have m : (b, f b) ∈ es := (h.mem _).mpr ⟨hb, rfl⟩
  cases q : es.find? fun e => decide (e.1 = b) with
  | none =>
    have z := List.find?_eq_none.mp q _ m
    simp at z
  | some e =>
    have h1 := List.mem_of_find?_eq_some q
    have h2 : e.1 = b := by simpa using List.find?_some q
    have h3 := ((h.mem e).mp h1).2
    rw [← h2, ← h3]
theorem Ents.not {es : List (List Int × Nat)} {A : List Int → Prop} {f : List Int → Nat} (h : Ents es A f) {b : List Int} (hb : ¬ A b) : (es.find? fun e => decide (e.1 = b)) = none := by
  refine List.find?_eq_none.mpr fun e m => ?_
  have z := ((h.mem e).mp m).1
  simp only [decide_eq_true_eq]
  intro q
  rw [q] at z
  exact hb z
theorem Ents.any {es : List (List Int × Nat)} {A : List Int → Prop} {f : List Int → Nat} (h : Ents es A f) (b : List Int) : (es.any fun e => decide (e.1 = b)) = true ↔ A b := by
  rw [List.any_eq_true]
  constructor
  · rintro ⟨e, m, q⟩
    have z := ((h.mem e).mp m).1
    rw [of_decide_eq_true q] at z
    exact z
  · intro hb
    exact ⟨(b, f b), (h.mem _).mpr ⟨hb, rfl⟩, by simp⟩
theorem Ents.put {es : List (List Int × Nat)} {A : List Int → Prop} {f g : List Int → Nat} (h : Ents es A f) (b : List Int) (hg : ∀ x, x ≠ b → g x = f x) : Ents (putE es b (g b)) (fun x => A x ∨ x = b) g := by
  have hany := h.any b
  unfold putE
  by_cases c : (es.any fun e => decide (e.1 = b)) = true
  · rw [if_pos c]
    have hA := hany.mp c
    have ek : (es.map fun e => if e.1 = b then (b, g b) else e).map (·.1) = es.map (·.1) := by
      rw [List.map_map]
      refine List.map_congr_left fun e _ => ?_
      show (if e.1 = b then (b, g b) else e).1 = e.1
      by_cases q : e.1 = b
      · rw [if_pos q, q]
      · rw [if_neg q]
    refine ⟨by rw [ek]; exact h.nd, fun e => ?_⟩
    rw [List.mem_map]
    constructor
    · rintro ⟨x, m, rfl⟩
      by_cases q : x.1 = b
      · rw [if_pos q]
        exact ⟨.inr rfl, rfl⟩
      · rw [if_neg q]
        obtain ⟨z1, z2⟩ := (h.mem x).mp m
        exact ⟨.inl z1, by rw [z2, hg _ q]⟩
    · rintro ⟨z1, z2⟩
      by_cases q : e.1 = b
      · refine ⟨(b, f b), (h.mem _).mpr ⟨hA, rfl⟩, ?_⟩
        rw [if_pos rfl]
        exact Prod.ext q.symm (by rw [z2, q])
      · have a1 := z1.resolve_right q
        refine ⟨e, (h.mem e).mpr ⟨a1, by rw [z2, hg _ q]⟩, ?_⟩
        rw [if_neg q]
  · rw [if_neg c]
    have hA : ¬ A b := fun z => c (hany.mpr z)
    refine ⟨?_, fun e => ?_⟩
    · rw [List.map_append]
      refine nd_snoc h.nd fun m => hA ?_
      obtain ⟨e, me, q⟩ := List.mem_map.mp m
      have z := ((h.mem e).mp me).1
      rw [q] at z
      exact z
    · rw [List.mem_append, List.mem_singleton]
      constructor
      · rintro (m | rfl)
        · obtain ⟨z1, z2⟩ := (h.mem e).mp m
          have q : e.1 ≠ b := fun z => hA (by rw [← z]; exact z1)
          exact ⟨.inl z1, by rw [z2, hg _ q]⟩
        · exact ⟨.inr rfl, rfl⟩
      · rintro ⟨z1, z2⟩
        by_cases q : e.1 = b
        · exact .inr (Prod.ext q (by rw [z2, q]))
        · exact .inl ((h.mem e).mpr ⟨z1.resolve_right q, by rw [z2, hg _ q]⟩)
theorem Ents.congr {es : List (List Int × Nat)} {A B : List Int → Prop} {f g : List Int → Nat} (h : Ents es A f) (hA : ∀ x, A x ↔ B x) (hf : ∀ x, B x → f x = g x) : Ents es B g :=
  ⟨h.nd, fun e => by rw [h.mem, hA]; exact ⟨fun z => ⟨z.1, by rw [z.2, hf _ z.1]⟩, fun z => ⟨z.1, by rw [z.2, hf _ z.1]⟩⟩⟩
theorem putE_length (es : List (List Int × Nat)) (b : List Int) (n : Nat) : (putE es b n).length ≤ es.length + 1 := by
  unfold putE
  split
  · rw [List.length_map]; omega
  · rw [List.length_append]; exact Nat.le_refl _
/-- the blocks' counts -/
abbrev Cnt (es : List (List Int × Nat)) (bs : List (List Int)) : Prop := Ents es (fun x => x ∈ bs) fun x => bs.count x
theorem Cnt.nil : Cnt [] [] := ⟨List.nodup_nil, fun e => by simp⟩
theorem Cnt.snoc {es : List (List Int × Nat)} {bs : List (List Int)} (h : Cnt es bs) (b : List Int) : Cnt (putE es b (bs.count b + 1)) (bs ++ [b]) := by
  have z := Ents.put (g := fun x => (bs ++ [b]).count x) h b fun x hx => by
    show (bs ++ [b]).count x = bs.count x
    rw [List.count_append, List.count_cons_of_ne (fun q => hx q.symm), List.count_nil, Nat.add_zero]
  have e : (bs ++ [b]).count b = bs.count b + 1 := by
    rw [List.count_append, List.count_cons_self, List.count_nil]
  simp only [e] at z
  refine z.congr (fun x => ?_) fun _ _ => rfl
  rw [List.mem_append, List.mem_singleton]
theorem Cnt.get {es : List (List Int × Nat)} {bs : List (List Int)} (h : Cnt es bs) (b : List Int) : (valV (es.map entI) (b.map Sum.inl)).getD (.int 0) = .int (bs.count b : Int) := by
  rw [valV_ent]
  by_cases m : b ∈ bs
  · rw [h.has m]
    rfl
  · rw [h.not m, List.count_eq_zero_of_not_mem m]
    rfl
theorem Cnt.at_ {es : List (List Int × Nat)} {bs : List (List Int)} (h : Cnt es bs) {b : List Int} (m : b ∈ bs) : valV (es.map entI) (b.map Sum.inl) = some (.int (bs.count b : Int)) := by
  rw [valV_ent, h.has m]
  rfl
theorem Tb.key {H : Hp} {t : Addr} {b : List Int} (h : Tb H t b) : H t = some (.tup ((b.map (Sum.inl : Int → L2.Key)).map kV)) := by
  rw [key_ints]
  exact h
section
variable {P : Program} {w : World} {K : PySem.W.Frag} {mg : Str → Option Value} {base : Heap} {f : Addr} {fd : FuncData}
/-! ### counted -/
abbrev nCounted : List Str := ["blocks", "found", "block"]
theorem scCounted : FnScope nCounted ["blocks"] (defScope sCounted) := ⟨rfl, rfl, rfl, by decide +kernel, rfl, by decide +kernel, by decide +kernel⟩
def spCounted (K : PySem.W.Frag) : Sp := fun vs H Q _ => ∃ (a : Addr) (ps : List (Addr × List Int)), vs = [.ref a] ∧ SqT K H a (refs ps) ∧ AllT H ps ∧ ps.length ≤ 1000 ∧
  ∀ (d : Addr) (H' : Hp) (es : List (List Int × Nat)), Same H H' → H d = none → H' d = some (.dT (es.map entI)) → Cnt es (ps.map (·.2)) → es.length ≤ ps.length → Q (.ref d) H'
theorem ok_counted (F : FnP K "counted" sCounted f fd) : FnOk P w K mg base CX0 1 f fd ["blocks"] (spCounted K) := by
  refine okN F scCounted (fun vs H Q E h => ?_) (fun cdv A outer s H vs Q E hr h => ?_)
  · obtain ⟨a, ps, rfl, _⟩ := h
    rfl
  · obtain ⟨a, ps, rfl, ha, hps, hl, q⟩ := h
    have hu := hu_of hr
    refine ⟨_, pss_cons (ps_set (i := 1) scCounted.nd rfl (Or.inl rfl) pe_dnewT)
      (pss_cons (ps_for PassesOwn.never rfl (pi_tup (pv 0)) (pg_name (i := 2) scCounted.nd rfl (Or.inl rfl)) (pss_one (ps_dput hu (pv 1) (pv 2) (pe_op op_add (pe_dget2 hu (pv 1) (pv 2) pe_int ⟨rfl, rfl, rfl, rfl⟩) pe_int) rfl)))
      (pss_one (ps_ret (pv 1)))), ?_⟩
    intro d hd
    have s1 := same_new (o := .dT []) hd
    refine ⟨_, rfl, a, rfl, ⟨_, sSeqT s1 ha⟩, for_tup (K := K) (a := a) (xs := refs ps) (fun i σ H2 => ∃ v, σ = [some (.ref a), some (.ref d), v] ∧ Same H H2 ∧ ∃ es, H2 d = some (.dT (es.map entI)) ∧ Cnt es ((ps.map (·.2)).take i) ∧ es.length ≤ i)
      ⟨none, rfl, s1, [], upd_same, Cnt.nil, Nat.le_refl _⟩ (fun i σ H2 _ ⟨_, _, s2, _⟩ => sSeqT s2 ha) ?_ ?_⟩
    · rintro i y σ H2 hi ⟨v, rfl, s2, es, h1, h2, h3⟩
      obtain ⟨p, hp, rfl⟩ := ref_at hi
      have hlt := (List.getElem?_eq_some_iff.mp hp).1
      have hpb : (ps.map (·.2))[i]? = some p.2 := by rw [List.getElem?_map, hp]; rfl
      have hk := Tb.key (s2 _ _ (hps p (List.mem_of_getElem? hp)))
      refine ⟨_, rfl, d, rfl, .inr ⟨_, .inl h1⟩, _, rfl, _, DGet.t h1 hk, ?_⟩
      rw [h2.get p.2]
      refine ⟨_, _, rfl, rfl, _, rfl, _, rfl, d, _, rfl, DPut.t h1 hk (by rw [List.length_map]; exact small1000 (by omega)), ?_⟩
      have e : ((((ps.map (·.2)).take i).count p.2 : Nat) : Int) + 1 = ((((ps.map (·.2)).take i).count p.2 + 1 : Nat) : Int) := by omega
      refine ⟨_, rfl, sOwn s2 hd, putE es p.2 (((ps.map (·.2)).take i).count p.2 + 1), ?_, ?_, Nat.le_trans (putE_length _ _ _) (by omega)⟩
      · rw [upd_same]
        show some (HO.dT (putK (es.map entI) (p.2.map Sum.inl) (.int ((((ps.map (·.2)).take i).count p.2 : Int) + 1)))) = _
        rw [e, putK_ent]
      · have z := h2.snoc p.2
        rw [List.take_succ, hpb]
        exact z
    · rintro σ H2 ⟨v, rfl, s2, es, h1, h2, h3⟩
      rw [List.length_map] at h2 h3
      rw [List.take_of_length_le (by rw [List.length_map]; exact Nat.le_refl _)] at h2
      exact ⟨_, rfl, q d H2 es s2 hd h1 h2 h3⟩
end
end K95

set_option Elab.async false
set_option linter.all false
set_option maxRecDepth 100000
set_option maxHeartbeats 1000000
namespace K95
open PySem PySem.Spec PyProof.Rows L2
/-! ### the told bases in the heap -/
def ToldAt (H : Hp) (r : Addr) (T : List (List Int × Nat)) : Prop := ∃ (l : Addr) (zs : List (Addr × List Int × Nat)), H r = some (.tup [.str "turns", .ref l]) ∧ H l = some (.lst (zs.map fun z => V.ref z.1)) ∧
  (∀ z ∈ zs, ∃ q, H z.1 = some (.tup [.ref q, .int (z.2.2 : Int)]) ∧ Tb H q z.2.1) ∧ zs.map (·.2) = T
theorem ToldAt.same {H H' : Hp} {r : Addr} {T : List (List Int × Nat)} (h : ToldAt H r T) (s : Same H H') : ToldAt H' r T := by
  obtain ⟨l, zs, h1, h2, h3, h4⟩ := h
  refine ⟨l, zs, s _ _ h1, s _ _ h2, fun z m => ?_, h4⟩
  obtain ⟨q, q1, q2⟩ := h3 z m
  exact ⟨q, s _ _ q1, s _ _ q2⟩
/-- over the keys of a locked dict with tuple keys -/
theorem for_keysT {d : Addr} {od : Obj} {kvs : List (List L2.Key × V)} {g : TG} {tb : TS} {D : Ends} {σ : L2.St} {H : Hp} (Pv : Nat → L2.St → Hp → Prop) (h0 : Pv 0 σ H) (hl : ∀ i σ H, i ≤ kvs.length → Pv i σ H → H d = some (.frz od (.dT kvs)))
    (hs : ∀ i k v q σ H, kvs[i]? = some (k, v) → H q = some (.tup (k.map kV)) → Pv i σ H → g (.ref q) σ H fun σ2 H2 => tb { D with nx := Pv (i + 1), ct := Pv (i + 1), bk := D.nx } σ2 H2) (hd : ∀ σ H, Pv kvs.length σ H → D.nx σ H) :
    ∃ W : Nat → Nat → L2.St → Hp → Prop, (∃ m, W 0 m σ H) ∧ ∀ i m σ H, W i m σ H →
      ((Itkt d od kvs).stop i H ∧ D.nx σ H) ∨ ((Itkt d od kvs).go i H ∧ ∃ N : L2.St → Hp → Prop, (∀ σ' H', N σ' H' → ∃ m', m' < m ∧ W (i + 1) m' σ' H') ∧ ∀ x H', (Itkt d od kvs).yld i H x H' → g x σ H' fun σ2 H2 => tb { D with nx := N, ct := N, bk := D.nx } σ2 H2) := by
  refine ⟨fun i m σ H => m = kvs.length - i ∧ i ≤ kvs.length ∧ Pv i σ H, ⟨kvs.length, by simp, Nat.zero_le _, h0⟩, ?_⟩
  rintro i m σ H ⟨rfl, hi, p⟩
  have q := hl i σ H hi p
  by_cases hlt : i < kvs.length
  · refine .inr ⟨⟨q, hlt⟩, Pv (i + 1), fun σ' H' p' => ⟨kvs.length - (i + 1), by omega, rfl, hlt, p'⟩, fun x H' y => ?_⟩
    obtain ⟨e, k, v, a, hk, ex, ha⟩ := y
    subst e ex
    exact hs i k v a σ _ hk ha p
  · have e : i = kvs.length := by omega
    subst e
    exact .inl ⟨⟨q, Nat.le_refl _⟩, hd σ H p⟩
theorem rd_turnMin {v : V} {i j : Nat} {σ : L2.St} {H : Hp} {r : List V → Hp → VK → Prop} {wi : TI} {g : TG} {tt : TT} {te : TE} {vs : List Nat} {u : TS} {D : Ends}
    (h : tLc wi g tt te vs (σ.set i (some v)) H fun x H1 => r [x] H1 fun y H2 => u D ((σ.set i (some v)).set j (some y)) H2) : gName i v σ H fun σ2 H2 => tSeq (tAsg (tCB r (tCons (tLc wi g tt te vs) tNil)) (gName j)) u D σ2 H2 := h
/-- sorted by keys that differ: strictly -/
theorem strict_of {zs : List (List Int × Nat)} (h : zs.Pairwise fun e f => leL e.1 f.1) (nd : (zs.map (·.1)).Nodup) : zs.Pairwise fun e f => ltL e.1 f.1 = true := by
  refine List.Pairwise.imp (fun {x y} z => ?_) (List.Pairwise.and h (List.pairwise_map.mp nd))
  rcases ltL_tri x.1 y.1 with c | c | c
  · exact c
  · exact absurd c z.2
  · have e : ltL y.1 x.1 = false := z.1
    rw [c] at e
    exact absurd e (by decide)
theorem told_of {n : Nat} {bs : List (List Int)} {es es2 zs : List (List Int × Nat)} (hn : 0 < n) (hg : AllGood n bs) (I : Trn n bs) (hc : Cnt es bs) (h2 : Ents es2 (fun x => ∃ e ∈ es, x = least n e.1) fun x => bs.count x) (pm : zs.Perm es2) (hs : zs.Pairwise fun e f => leL e.1 f.1) : Told n bs zs := by
  refine ⟨strict_of hs ((pm.map (·.1)).nodup_iff.mpr h2.nd), fun p => ?_⟩
  rw [pm.mem_iff, h2.mem]
  constructor
  · rintro ⟨⟨e, m, z⟩, c⟩
    exact ⟨⟨e.1, ((hc.mem e).mp m).1, z⟩, c⟩
  · rintro ⟨⟨b, m, z⟩, c⟩
    exact ⟨⟨(b, bs.count b), (hc.mem _).mpr ⟨m, rfl⟩, z⟩, c⟩
section
variable {P : Program} {w : World} {K : PySem.W.Frag} {mg : Str → Option Value} {base : Heap} {f : Addr} {fd : FuncData}
/-! ### turns_told -/
abbrev nTold : List Str := ["layout", "n", "blocks", "often", "number", "known", "block", "least", "by"]
theorem scTold : FnScope nTold ["layout"] (defScope sTold) := ⟨rfl, rfl, rfl, by decide +kernel, rfl, by decide +kernel, by decide +kernel⟩
/-- what is told of a layout -/
def Tells (H : Hp) (r : Addr) (n : Nat) (bs : List (List Int)) : Prop := (¬ Trn n bs ∧ ∃ k : Int, H r = some (.tup [.str "stays", .int k])) ∨ (Trn n bs ∧ ∃ T, Told n bs T ∧ ToldAt H r T)
def spTold : Sp := fun vs H Q _ => ∃ (p : Addr) (n : Nat) (bs : List (List Int)), vs = [.ref p] ∧ LayAt H p n bs ∧ 0 < n ∧ n < 64 ∧ AllGood n bs ∧ bs.length ≤ 900 ∧ ∀ (r : Addr) (H' : Hp), Same H H' → Tells H' r n bs → Q (.ref r) H'
theorem ok_told (F : FnP K "turns_told" sTold f fd) (T : Txt mg) (CC : Cal P w K mg base 1 "counted" ["blocks"] (spCounted K)) (CT : Cal P w K mg base 1 "turned" ["block", "by", "n"] (spTurnedT K)) : FnOk P w K mg base CX0 2 f fd ["layout"] spTold := by
  refine okN F scTold (fun vs H Q E h => ?_) (fun cdv A outer s H vs Q E hr h => ?_)
  · obtain ⟨p, n, bs, rfl, _⟩ := h
    rfl
  · obtain ⟨p, n, bs, rfl, ⟨b, ps, hp, hb, hps, rfl⟩, hn, h64, hg, hl, q⟩ := h
    have hu := hu_of hr
    rw [List.length_map] at hl
    have gd : ∀ z ∈ ps, Good n z.2 := fun z m => hg z.2 (List.mem_map.mpr ⟨z, m, rfl⟩)
    have gl : ∀ z ∈ ps, z.2.length < 64 := fun z m => Nat.lt_of_le_of_lt (gd z m).len h64
    refine ⟨_, pss_cons (ps_asg (pv 0) (pg_tup (by rfl) (pgs_cons (pg_name (i := 1) scTold.nd rfl (Or.inr rfl)) (pgs_cons (pg_name (i := 2) scTold.nd rfl (Or.inl rfl)) pgs_nil))))
      (pss_cons (ps_set (i := 3) scTold.nd rfl (Or.inl rfl) (pe_cal CC hr (by rfl) (pa_cons (pv 2) pa_nil)))
      (pss_cons (ps_for PassesOwn.never rfl (pi_range1 (by rfl) T.range (pa_cons (pe_callB call_len_seq (by rfl) T.len PySem.boot_len (pa_cons (pv 2) pa_nil)) pa_nil)) (pg_name (i := 4) scTold.nd rfl (Or.inl rfl))
        (pss_one (ps_if (pt_cmpR op_lt (pe_dget2 hu (pv 3) (pe_cal CT hr (by rfl) (pa_cons (pe_ix ix_tup (pv 2) (pv 4) (fun _ _ => rfl)) (pa_cons pe_int (pa_cons (pv 1) pa_nil)))) pe_int ⟨rfl, rfl, rfl, rfl⟩)
          (pe_dget hu (pv 3) (pe_ix ix_tup (pv 2) (pv 4) (fun _ _ => rfl)) (fun _ _ => rfl)) (nomark _)) (pss_one (ps_ret (pe_tup (pa_cons pe_str (pa_cons (pv 4) pa_nil))))) pss_nil)))
      (pss_cons (ps_set (i := 5) scTold.nd rfl (Or.inl rfl) pe_dnewT)
      (pss_cons (ps_lock (ps_for PassesOwn.never rfl (pi_keys (pv 3)) (pg_name (i := 6) scTold.nd rfl (Or.inr rfl))
        (pss_cons (ps_set (i := 7) scTold.nd rfl (Or.inl rfl) (pe_callB (cr_minB rfl hr.units) (by rfl) T.min boot_min (pa_cons
          (pe_lc (own := [("by", 8)]) (g := gName 8) (tt := tYes) rfl scTold.nd (pi_range1 (by rfl) T.range (pa_cons (pv 1) pa_nil)) (blkOk_by (N := nTold) (sc := defScope sTold) (by decide +kernel))
            (fun _ _ _ _ _ => pg_name (i := 8) scTold.nd rfl (Or.inl rfl)) (fun _ _ _ _ _ => pts_nil) (fun _ _ _ _ _ => pe_cal CT hr (by rfl) (pa_cons (pv 6) (pa_cons (pv 8) (pa_cons (pv 1) pa_nil))))) pa_nil)))
        (pss_one (ps_dput hu (pv 5) (pv 7) (pe_dget hu (pv 3) (pv 6) (fun _ _ => rfl)) rfl)))))
      (pss_one (ps_ret (pe_tup (pa_cons pe_str (pa_cons (pe_callB (cr_sortI rfl hr.units) (by rfl) T.sorted boot_sorted (pa_cons (pe_bm0 PySem.F.plainAttrs_dict PySem.F.slot_dict_items PySem.F.type_dict_items L2.DX.mt_itemsT (pv 5)) pa_nil)) pa_nil))))))))), ?_⟩
    -- n, blocks = layout; often = counted(blocks)
    refine ⟨_, rfl, p, _, rfl, SqT.of hp, rfl, _, _, rfl, _, _, rfl, rfl, ?_⟩
    refine ⟨_, rfl, b, ps, rfl, SqT.of hb, hps, by omega, fun d H1 es s1 hd0 h1 hc hel => ?_⟩
    -- for number in range(len(blocks))
    refine ⟨_, rfl, b, _, rfl, .inr (SqT.of (s1 _ _ hb)), _, rfl, by omega, by rw [List.length_map]; omega, ?_⟩
    refine for_range (lo := 0) (n := (((refs ps).length : Nat) : Int).toNat) (fun i σ H2 => (∀ (j : Nat) (z : Addr × List Int), j < i → ps[j]? = some z → (ps.map (·.2)).count z.2 ≤ (ps.map (·.2)).count (turn n 1 z.2)) ∧
      ∃ v, σ = [some (.ref p), some (.int (n : Int)), some (.ref b), some (.ref d), v, none, none, none, none] ∧ Same H1 H2) ⟨fun j z hj => absurd hj (Nat.not_lt_zero _), none, rfl, Same.refl H1⟩ ?_ ?_
    · rintro i σ H2 hi ⟨hall, v, rfl, s2⟩
      have e : (0 : Int) + (i : Int) = (i : Int) := Int.zero_add _
      rw [e]
      have hi' : i < ps.length := by rw [List.length_map] at hi; omega
      obtain ⟨z, hz⟩ : ∃ z, ps[i]? = some z := ⟨_, List.getElem?_eq_getElem hi'⟩
      have mz := List.mem_of_getElem? hz
      have mb : z.2 ∈ ps.map (·.2) := List.mem_map.mpr ⟨z, mz, rfl⟩
      have s12 := s1.trans s2
      have hat : atI (refs ps) (i : Int) = some (V.ref z.1) := at_of rfl (by rw [List.getElem?_map, hz]; rfl)
      have hzt := s12 _ _ (hps z mz)
      refine ⟨_, rfl, d, rfl, .inr ⟨_, .inl (s2 _ _ h1)⟩, _, rfl, _, rfl, b, _, _, _, rfl, rfl, SqT.of (s12 _ _ hb), hat, _, rfl, z.1, z.2, 1, n, rfl, SqT.of hzt, gl z mz, hn, fun t H3 s3 ht0 ht => ?_⟩
      refine ⟨_, DGet.t (s3 _ _ (s2 _ _ h1)) (Tb.key ht), ?_⟩
      rw [hc.get]
      refine ⟨_, rfl, _, rfl, _, rfl, b, _, _, _, rfl, rfl, SqT.of (s3 _ _ (s12 _ _ hb)), hat, d, .int ((ps.map (·.2)).count z.2 : Int), rfl, ?_, ?_⟩
      · rw [← hc.at_ mb]
        exact DGet.t (s3 _ _ (s2 _ _ h1)) (Tb.key (s3 _ _ hzt))
      · refine ⟨_, _, rfl, rfl, _, rfl, ite2 (fun c => ?_) fun c => ?_⟩
        · have c' := of_decide_eq_true c
          refine ⟨_, rfl, by show 2 ≤ sizeLine; decide, fun r hr0 => ?_⟩
          refine q r _ (sNew (s12.trans s3) hr0) (.inl ⟨fun I => ?_, (i : Int), upd_same⟩)
          have z2 := I z.2 (gd z mz)
          omega
        · have c' : ¬ ((ps.map (·.2)).count (turn n 1 z.2) : Int) < ((ps.map (·.2)).count z.2 : Int) := fun q2 => c (decide_eq_true q2)
          refine ⟨fun j y hj hy => ?_, _, rfl, s2.trans s3⟩
          rcases Nat.lt_or_ge j i with c2 | c2
          · exact hall j y c2 hy
          · have ej : j = i := by omega
            subst ej
            rw [hz] at hy
            cases hy
            omega
    · rintro σ H2 ⟨hall, v, rfl, s2⟩
      have I : Trn n (ps.map (·.2)) := by
        refine trn_of_asked hn hg fun c mc => ?_
        obtain ⟨z, mz, rfl⟩ := List.mem_map.mp mc
        obtain ⟨j, hj⟩ := List.mem_iff_getElem?.mp mz
        refine hall j z ?_ hj
        have := (List.getElem?_eq_some_iff.mp hj).1
        rw [List.length_map]
        omega
      have ces : ∀ e ∈ es, e.1 ∈ ps.map (·.2) ∧ e.2 = (ps.map (·.2)).count e.1 := fun e m => (hc.mem e).mp m
      -- known = {}
      intro d2 hd2
      have s12 := s1.trans s2
      have s3 := sNew s12 (o := .dT []) hd2
      have hd20 : H d2 = none := s12.free hd2
      have hdd : d ≠ d2 := ne_of_none (s2 _ _ h1) hd2
      -- for block in often
      refine ⟨d, .dT (es.map entI), (by rw [upd_ne hdd]; exact s2 _ _ h1), True.intro, fun od => ?_⟩
      refine ⟨_, rfl, d, od, rfl, .inr ⟨_, upd_same, for_keysT (d := d) (od := od) (kvs := es.map entI) (fun i σ H4 => ∃ v6 v7, σ = [some (.ref p), some (.int (n : Int)), some (.ref b), some (.ref d), v, some (.ref d2), v6, v7, none] ∧ Same H H4 ∧ H4 d = some (.frz od (.dT (es.map entI))) ∧
        ∃ es2, H4 d2 = some (.dT (es2.map entI)) ∧ Ents es2 (fun x => ∃ e ∈ es.take i, x = least n e.1) (fun x => (ps.map (·.2)).count x) ∧ es2.length ≤ i)
        ⟨none, none, rfl, sOwn s3 hd0, upd_same, [], (by rw [upd_ne hdd.symm, upd_same]; rfl), ⟨List.nodup_nil, fun e => by simp⟩, Nat.le_refl _⟩ (fun i σ H4 _ ⟨_, _, _, _, h, _⟩ => h) ?_ ?_⟩⟩
      · rintro i k v' t σ H4 hk ht ⟨v6, v7, rfl, s4, h4d, es2, h4, hE, hl2⟩
        rw [List.getElem?_map] at hk
        obtain ⟨e, he⟩ : ∃ e, es[i]? = some e := by
          cases z : es[i]? with
          | none =>
            rw [z] at hk
            cases hk
          | some e => exact ⟨e, rfl⟩
        rw [he] at hk
        have ek : k = e.1.map Sum.inl := (congrArg (·.1) (Option.some.inj hk)).symm
        rw [ek, key_ints] at ht
        have me := List.mem_of_getElem? he
        obtain ⟨mb, ec⟩ := ces e me
        have ge := hg e.1 mb
        have hlt := (List.getElem?_eq_some_iff.mp he).1
        -- least = min([..])
        refine rd_turnMin (rd_blksR (n := n) (Rl := fun k b => b = turn n k e.1) (fun {R} h => ⟨_, rfl, h⟩) (by omega) (fun k hk' H5 R s5 h => ?_) fun D H5 rs s5 hD h5 h6 h7 h8 => ?_)
        · exact ⟨_, rfl, _, rfl, _, rfl, t, e.1, k, n, rfl, SqT.of (s5 _ _ ht), Nat.lt_of_le_of_lt ge.len h64, hn, fun t2 H6 s6 h60 ht2 => h t2 _ H6 s6 ht2 rfl⟩
        · have er : rs.map (·.2) = orb n e.1 := map_of_at h7 h8
          refine ⟨D, rs, rfl, SqL.of h5, h6.B, fun z => ?_, fun z mz hz => ?_⟩
          · rw [z] at h7
            have : (0 : Nat) = n := h7
            omega
          · have ez : z.2 = least n e.1 := by
              refine least_unique hn ge ?_ fun x mx => ?_
              · rw [← er]
                exact List.mem_map.mpr ⟨z, mz, rfl⟩
              · rw [← er] at mx
                obtain ⟨y, my, rfl⟩ := List.mem_map.mp mx
                exact hz y my
            -- known[least] = often[block]
            refine ⟨_, rfl, _, rfl, d, .int ((ps.map (·.2)).count e.1 : Int), rfl, ?_, _, rfl, _, rfl, d2, _, rfl, DPut.t (s5 _ _ h4) (Tb.key (h6 z mz)) (by rw [List.length_map]; exact small1000 (by omega)), ?_⟩
            · refine .inr ⟨_, _, t, .inr ⟨od, s5 _ _ h4d⟩, rfl, Tb.key (s5 _ _ ht), ?_⟩
              exact (hc.at_ mb).symm
            · have hd45 : d ≠ d2 := hdd
              refine ⟨_, _, rfl, sOwn (s4.trans s5) hd20, (by rw [upd_ne hd45]; exact s5 _ _ h4d), putE es2 z.2 ((ps.map (·.2)).count e.1), ?_, ?_, Nat.le_trans (putE_length _ _ _) (by omega)⟩
              · rw [upd_same, putK_ent]
              · have cz : (ps.map (·.2)).count e.1 = (ps.map (·.2)).count z.2 := by rw [ez, trn_least hn I ge]
                rw [cz]
                refine (hE.put z.2 (g := fun x => (ps.map (·.2)).count x) fun x _ => rfl).congr (fun x => ?_) fun _ _ => rfl
                rw [List.take_succ, he, Option.toList_some]
                constructor
                · rintro (⟨y, my, ey⟩ | ex)
                  · exact ⟨y, List.mem_append_left _ my, ey⟩
                  · exact ⟨e, List.mem_append_right _ (List.mem_singleton.mpr rfl), by rw [ex, ez]⟩
                · rintro ⟨y, my, ey⟩
                  rcases List.mem_append.mp my with my | my
                  · exact .inl ⟨y, my, ey⟩
                  · rw [List.mem_singleton.mp my] at ey
                    exact .inr (by rw [ey, ez])
      · rintro σ H4 ⟨v6, v7, rfl, s4, h4d, es2, h4, hE, hl2⟩
        refine ⟨h4d, ?_⟩
        rw [List.length_map, List.take_of_length_le (Nat.le_refl _)] at hE
        have h4' : (upd H4 d (.dT (es.map entI))) d2 = some (.dT (es2.map entI)) := by rw [upd_ne hdd.symm]; exact h4
        have s5 : Same H (upd H4 d (.dT (es.map entI))) := sOwn s4 hd0
        -- return ("turns", sorted(known.items()))
        refine ⟨_, rfl, .inr (.inr (.inl ⟨rfl, .inr ⟨_, h4'⟩⟩)), d2, _, rfl, rfl, h4', fun it hit => ?_⟩
        refine ⟨it, d2, es2, rfl, upd_same, (by rw [upd_ne (ne_of_none h4' hit)]; exact h4'), fun H6 l zs s6 pm srt hl6 hz6 => ?_⟩
        refine ⟨by show 2 ≤ sizeLine; decide, fun r hr0 => ?_⟩
        have s7 : Same H6 (upd H6 r (.tup [.str "turns", .ref l])) := same_new hr0
        have s8 : Same H (upd H6 r (.tup [.str "turns", .ref l])) := (sNew s5 hit).trans (Same.trans s6 s7)
        refine q r _ s8 (.inr ⟨I, zs.map (·.2), told_of hn hg I hc hE pm srt, l, zs, upd_same, s7 _ _ hl6, fun z mz => ?_, rfl⟩)
        obtain ⟨q0, q1, q2⟩ := hz6 z mz
        exact ⟨q0, s7 _ _ q1, s7 _ _ q2⟩
end
end K95

set_option Elab.async false
set_option linter.all false
set_option maxRecDepth 100000
set_option maxHeartbeats 1000000
namespace K95
open PySem PySem.Spec PyProof.Rows L2
/-! ### layouts and told bases as data -/
def dBlk (b : List Int) : PyData := .tuple (b.map PyData.int)
def dLay (n : Nat) (bs : List (List Int)) : PyData := .tuple [.int (n : Int), .tuple (bs.map dBlk)]
def dPair (p : List Int × Nat) : PyData := .tuple [dBlk p.1, .int (p.2 : Int)]
def dTold (T : List (List Int × Nat)) : PyData := .tuple [.str "turns", .list (T.map dPair)]
theorem eqv_ints : ∀ a b : List Int, PyData.eqvAll (a.map PyData.int) (b.map PyData.int) = decide (a = b)
  | [], [] => by simp [PyData.eqvAll]
  | [], _ :: _ => by simp [PyData.eqvAll]
  | _ :: _, [] => by simp [PyData.eqvAll]
  | x :: a, y :: b => by
    have ih := eqv_ints a b
    rw [List.map_cons, List.map_cons, PyData.eqvAll, PyData.eqv, ih]
    by_cases c : x = y
    · rw [c, beq_self_eq_true, Bool.true_and]
      by_cases d : a = b
      · rw [d, decide_eq_true rfl, decide_eq_true rfl]
      · rw [decide_eq_false d, decide_eq_false fun z => d (List.cons.inj z).2]
    · rw [beq_eq_false_iff_ne.mpr c, Bool.false_and, decide_eq_false fun z => c (List.cons.inj z).1]
theorem eqv_blks : ∀ a b : List (List Int), PyData.eqvAll (a.map dBlk) (b.map dBlk) = decide (a = b)
  | [], [] => by simp [PyData.eqvAll]
  | [], _ :: _ => by simp [PyData.eqvAll]
  | _ :: _, [] => by simp [PyData.eqvAll]
  | x :: a, y :: b => by
    have ih := eqv_blks a b
    have e : PyData.eqv (dBlk x) (dBlk y) = decide (x = y) := by
      unfold dBlk
      rw [PyData.eqv, eqv_ints]
    rw [List.map_cons, List.map_cons, PyData.eqvAll, e, ih]
    by_cases c : x = y
    · rw [decide_eq_true c, Bool.true_and]
      by_cases d : a = b
      · rw [decide_eq_true d, decide_eq_true (by rw [c, d])]
      · rw [decide_eq_false d, decide_eq_false fun z => d (List.cons.inj z).2]
    · rw [decide_eq_false c, Bool.false_and, decide_eq_false fun z => c (List.cons.inj z).1]
theorem eqv_lay (n : Nat) (a b : List (List Int)) : PyData.eqv (dLay n a) (dLay n b) = decide (a = b) := by
  unfold dLay
  rw [PyData.eqv, PyData.eqvAll, PyData.eqvAll, PyData.eqvAll, PyData.eqv, PyData.eqv, eqv_blks, beq_self_eq_true, Bool.true_and, Bool.and_true]
theorem lay_ints : ∀ a : List Int, PyData.canLayAll0 (a.map PyData.int) = true ∧ PyData.depthAll (a.map PyData.int) = 0
  | [] => ⟨by rw [List.map_nil, PyData.canLayAll0], by rw [List.map_nil, PyData.depthAll]⟩
  | x :: a => by
    obtain ⟨h1, h2⟩ := lay_ints a
    rw [List.map_cons, PyData.canLayAll0, PyData.canLay0, h1, PyData.depthAll, h2, PyData.depth]
    exact ⟨rfl, rfl⟩
theorem lay_blk (b : List Int) : (dBlk b).canLay0 = true ∧ (dBlk b).depth = 1 := by
  obtain ⟨h1, h2⟩ := lay_ints b
  unfold dBlk
  rw [PyData.canLay0, PyData.depth, h1, h2]
  exact ⟨rfl, rfl⟩
theorem lay_blks : ∀ a : List (List Int), PyData.canLayAll0 (a.map dBlk) = true ∧ PyData.depthAll (a.map dBlk) ≤ 1
  | [] => ⟨by rw [List.map_nil, PyData.canLayAll0], by rw [List.map_nil, PyData.depthAll]; omega⟩
  | x :: a => by
    obtain ⟨h1, h2⟩ := lay_blks a
    obtain ⟨h3, h4⟩ := lay_blk x
    rw [List.map_cons, PyData.canLayAll0, h3, h1, PyData.depthAll, h4]
    exact ⟨rfl, by omega⟩
theorem lay_pairs : ∀ a : List (List Int × Nat), PyData.canLayAll0 (a.map dPair) = true ∧ PyData.depthAll (a.map dPair) ≤ 2
  | [] => ⟨by rw [List.map_nil, PyData.canLayAll0], by rw [List.map_nil, PyData.depthAll]; omega⟩
  | x :: a => by
    obtain ⟨h1, h2⟩ := lay_pairs a
    obtain ⟨h3, h4⟩ := lay_blk x.1
    have e1 : (dPair x).canLay0 = true := by
      unfold dPair
      rw [PyData.canLay0, PyData.canLayAll0, PyData.canLayAll0, PyData.canLayAll0, PyData.canLay0, h3]
      rfl
    have e2 : (dPair x).depth = 2 := by
      unfold dPair
      rw [PyData.depth, PyData.depthAll, PyData.depthAll, PyData.depthAll, PyData.depth, h4]
      rfl
    rw [List.map_cons, PyData.canLayAll0, e1, h1, PyData.depthAll, e2]
    exact ⟨rfl, by omega⟩
theorem shaped_lay (n : Nat) (bs : List (List Int)) : SeqAt.shaped (dLay n bs) = true := by
  obtain ⟨h1, h2⟩ := lay_blks bs
  unfold SeqAt.shaped dLay
  rw [PyData.canLay0, PyData.canLayAll0, PyData.canLayAll0, PyData.canLayAll0, PyData.canLay0, PyData.canLay0, h1]
  rw [PyData.depth, PyData.depthAll, PyData.depthAll, PyData.depthAll, PyData.depth, PyData.depth]
  show (true && decide _) = true
  rw [Bool.true_and, decide_eq_true_eq]
  omega
theorem shaped_told (T : List (List Int × Nat)) : SeqAt.shaped (dTold T) = true := by
  obtain ⟨h1, h2⟩ := lay_pairs T
  have h0 : PyData.canLay0 (.str "turns") = true := by rw [PyData.canLay0]; decide +kernel
  unfold SeqAt.shaped dTold
  rw [PyData.canLay0, PyData.canLayAll0, PyData.canLayAll0, PyData.canLayAll0, h0, PyData.canLay0, h1]
  rw [PyData.depth, PyData.depthAll, PyData.depthAll, PyData.depthAll, PyData.depth, PyData.depth]
  show (true && decide _) = true
  rw [Bool.true_and, decide_eq_true_eq]
  omega
theorem dp_ints {K : PySem.W.Frag} {H : Hp} : ∀ b : List Int, DpAll K H (b.map V.int) (b.map PyData.int)
  | [] => .nil
  | x :: b => .cons (.int x) (dp_ints b)
theorem dp_blk {K : PySem.W.Frag} {H : Hp} {t : Addr} {b : List Int} (h : Tb H t b) : Dp K H (.ref t) (dBlk b) := .tup (SqT.of h) (dp_ints b)
theorem dp_refs {K : PySem.W.Frag} {H : Hp} : ∀ ps : List (Addr × List Int), AllT H ps → DpAll K H (refs ps) ((ps.map (·.2)).map dBlk)
  | [], _ => .nil
  | p :: ps, h => .cons (dp_blk (h p List.mem_cons_self)) (dp_refs ps fun q m => h q (List.mem_cons_of_mem _ m))
theorem lay_told (T : List (List Int × Nat)) : (dTold T).canLay0 = true := by
  have h := shaped_told T
  unfold SeqAt.shaped at h
  simp only [Bool.and_eq_true] at h
  exact h.1
theorem dp_lay {K : PySem.W.Frag} {H : Hp} {p : Addr} {n : Nat} {bs : List (List Int)} (h : LayAt H p n bs) : Dp K H (.ref p) (dLay n bs) := by
  obtain ⟨b, ps, h1, h2, h3, rfl⟩ := h
  exact .tup (SqT.of h1) (.cons (.int _) (.cons (.tup (SqT.of h2) (dp_refs ps h3)) .nil))
theorem dp_pairs {K : PySem.W.Frag} {H : Hp} : ∀ zs : List (Addr × List Int × Nat), (∀ z ∈ zs, ∃ q, H z.1 = some (.tup [.ref q, .int (z.2.2 : Int)]) ∧ Tb H q z.2.1) → DpAll K H (zs.map fun z => V.ref z.1) ((zs.map (·.2)).map dPair)
  | [], _ => .nil
  | z :: zs, h => by
    obtain ⟨q, q1, q2⟩ := h z List.mem_cons_self
    exact .cons (.tup (SqT.of q1) (.cons (dp_blk q2) (.cons (.int _) .nil))) (dp_pairs zs fun y m => h y (List.mem_cons_of_mem _ m))
theorem dp_told {K : PySem.W.Frag} {H : Hp} {r : Addr} {T : List (List Int × Nat)} (h : ToldAt H r T) : Dp K H (.ref r) (dTold T) := by
  obtain ⟨l, zs, h1, h2, h3, rfl⟩ := h
  exact .tup (SqT.of h1) (.cons (.str _) (.cons (.lst (SqL.of h2) (dp_pairs zs h3)) .nil))
/-! ### the unlike turned ones of a base, in order -/
open Classical in
noncomputable def uniq (n : Nat) (b : List Int) : List (List Int) := if h : ∃ l : List (List Int), l.Nodup ∧ l.Pairwise leL ∧ ∀ x, x ∈ l ↔ x ∈ orb n b then h.choose else []
theorem uniq_eq {n : Nat} {b : List Int} {l : List (List Int)} (h1 : l.Nodup) (h2 : l.Pairwise leL) (h3 : ∀ x, x ∈ l ↔ x ∈ orb n b) : uniq n b = l := by
  have h : ∃ l : List (List Int), l.Nodup ∧ l.Pairwise leL ∧ ∀ x, x ∈ l ↔ x ∈ orb n b := ⟨l, h1, h2, h3⟩
  have e : uniq n b = h.choose := dif_pos h
  obtain ⟨g1, g2, g3⟩ := h.choose_spec
  rw [e]
  exact sorted_unique g2 h2 ((List.perm_ext_iff_of_nodup g1 h1).mpr fun x => by rw [g3, h3])
/-- .. which are there -/
def HasU (n : Nat) (b : List Int) : Prop := (uniq n b).Nodup ∧ ∀ x, x ∈ uniq n b ↔ x ∈ orb n b
theorem hasU_of {n : Nat} {b : List Int} {l : List (List Int)} (h1 : l.Nodup) (h2 : l.Pairwise leL) (h3 : ∀ x, x ∈ l ↔ x ∈ orb n b) : HasU n b := by
  have e := uniq_eq h1 h2 h3
  unfold HasU
  rw [e]
  exact ⟨h1, h3⟩
theorem rebl_take (U : List Int → List (List Int)) {T : List (List Int × Nat)} {i : Nat} {p : List Int × Nat} (h : T[i]? = some p) : rebl U (T.take (i + 1)) = rebl U (T.take i) ++ (List.replicate p.2 (U p.1)).flatten := by
  rw [List.take_succ, h]
  unfold rebl
  rw [List.flatMap_append]
  congr 1
  show ((List.replicate p.2 (U p.1)).flatten ++ []) = _
  rw [List.append_nil]
theorem whole_take {T : List (List Int × Nat)} {i : Nat} {p : List Int × Nat} (h : T[i]? = some p) : wholeOf (T.take (i + 1)) = wholeOf (T.take i) ++ List.replicate p.2 p.1 := by
  rw [List.take_succ, h]
  unfold wholeOf
  rw [List.flatMap_append]
  congr 1
  show (List.replicate p.2 p.1 ++ []) = _
  rw [List.append_nil]
section
variable {P : Program} {w : World} {K : PySem.W.Frag} {mg : Str → Option Value} {base : Heap} {f : Addr} {fd : FuncData}
/-! ### _law_turned_base -/
abbrev nTB : List Str := ["_law_base", "_law_many", "_law_turn", "_law_point"]
theorem scTB : FnScope nTB ["_law_base", "_law_many"] (defScope sTurnedBase) := ⟨rfl, rfl, rfl, by decide +kernel, rfl, by decide +kernel, by decide +kernel⟩
def cTB : Expr := stE (stAt 0 sTurnedBase)
def spTBL (K : PySem.W.Frag) : Sp := fun vs H Q _ => ∃ (a : Addr) (b : List Int) (n : Nat), vs = [.ref a, .int (n : Int)] ∧ SqL K H a (b.map V.int) ∧ b.length < 64 ∧ 0 < n ∧ n ≤ 900 ∧
  ∀ (D : Addr) (H' : Hp) (ps : List (Addr × List Int)), Same H H' → H D = none → H' D = some (.lst (refs ps)) → AllT H' ps → ps.map (·.2) = orb n b → Q (.ref D) H'
theorem ok_TBL (F : FnP K "_law_turned_base" sTurnedBase f fd) (T : Txt mg) : FnOk P w K mg base CX0 1 f fd ["_law_base", "_law_many"] (spTBL K) := by
  refine okN F scTB (fun vs H Q E h => ?_) (fun cdv A outer s H vs Q E hr h => ?_)
  · obtain ⟨a, b, n, rfl, _⟩ := h
    rfl
  · obtain ⟨a, b, n, rfl, hb, hl, hn, h9, q⟩ := h
    refine ⟨_, pss_one (ps_ret (pe_lc (own := [("_law_turn", 2)]) (g := gName 2) (tt := tYes) rfl scTB.nd (pi_range1 (by rfl) T.range (pa_cons (pv 1) pa_nil)) (blkOk_by (N := nTB) (sc := defScope sTurnedBase) (by decide +kernel))
      (fun _ _ _ _ _ => pg_name (i := 2) scTB.nd rfl (Or.inr rfl)) (fun _ _ _ _ _ => pts_nil) (fun _ _ _ _ _ => pe_callTy (r := rTupOf K) call_tuple_of (by rfl) T.tuple boot_tuple (pa_cons (pe_callB (r := rSorted K) cr_sorted (by rfl) T.sorted boot_sorted (pa_cons
        (pe_lc (wi := iList K (tVar 0)) (own := [("_law_point", 3)]) (g := gName 3) (tt := tYes) rfl scTB.nd (pi_list (pv 0)) (blkOk_by (N := nTB) (sc := relS (lcScope cTB) (defScope sTurnedBase)) (by decide +kernel))
          (fun _ _ _ _ _ => pg_name (i := 3) scTB.nd rfl (Or.inl rfl)) (fun _ _ _ _ _ => pts_nil) (fun _ _ _ _ _ => pe_op op_mod (pe_op op_add (pv 3) (pv 2)) (pv 1))) pa_nil)) pa_nil)))), ?_⟩
    refine rd_blksR (n := n) (Rl := fun k c => c = turn n k b) (fun {R} h => ⟨_, rfl, h⟩) (by omega) (fun k hk H2 R s2 h => ?_) fun D H2 ps s2 hD h1 h2 h3 h4 => q D H2 ps s2 hD h1 h2 (map_of_at h3 h4)
    refine rd_srtT (b := b.map fun x => (x + (k : Int)) % (n : Int)) (by rw [List.length_map]; exact hl) (fun {R2} hR => ?_) fun t H3 s3 h0 ht => h t _ H3 s3 ht rfl
    refine rd_intsL (a := a) (b := b) (g := fun x => (x + (k : Int)) % (n : Int)) (fun {R} h => ⟨_, rfl, h⟩) (s2.seq hb) (by omega) (fun x hx H' R' s' h' => ?_) fun D H' s' h0 hD => hR D H' s' hD
    exact ⟨_, rfl, _, rfl, _, _, rfl, rfl, _, rfl, _, _, rfl, rfl, (by omega), h'⟩
def spTBT (K : PySem.W.Frag) : Sp := fun vs H Q _ => ∃ (a : Addr) (b : List Int) (n : Nat), vs = [.ref a, .int (n : Int)] ∧ SqT K H a (b.map V.int) ∧ b.length < 64 ∧ 0 < n ∧ n ≤ 900 ∧
  ∀ (D : Addr) (H' : Hp) (ps : List (Addr × List Int)), Same H H' → H D = none → H' D = some (.lst (refs ps)) → AllT H' ps → ps.map (·.2) = orb n b → Q (.ref D) H'
theorem ok_TBT (F : FnP K "_law_turned_base" sTurnedBase f fd) (T : Txt mg) : FnOk P w K mg base CX0 1 f fd ["_law_base", "_law_many"] (spTBT K) := by
  refine okN F scTB (fun vs H Q E h => ?_) (fun cdv A outer s H vs Q E hr h => ?_)
  · obtain ⟨a, b, n, rfl, _⟩ := h
    rfl
  · obtain ⟨a, b, n, rfl, hb, hl, hn, h9, q⟩ := h
    refine ⟨_, pss_one (ps_ret (pe_lc (own := [("_law_turn", 2)]) (g := gName 2) (tt := tYes) rfl scTB.nd (pi_range1 (by rfl) T.range (pa_cons (pv 1) pa_nil)) (blkOk_by (N := nTB) (sc := defScope sTurnedBase) (by decide +kernel))
      (fun _ _ _ _ _ => pg_name (i := 2) scTB.nd rfl (Or.inr rfl)) (fun _ _ _ _ _ => pts_nil) (fun _ _ _ _ _ => pe_callTy (r := rTupOf K) call_tuple_of (by rfl) T.tuple boot_tuple (pa_cons (pe_callB (r := rSorted K) cr_sorted (by rfl) T.sorted boot_sorted (pa_cons
        (pe_lc (wi := iTup K (tVar 0)) (own := [("_law_point", 3)]) (g := gName 3) (tt := tYes) rfl scTB.nd (pi_tup (pv 0)) (blkOk_by (N := nTB) (sc := relS (lcScope cTB) (defScope sTurnedBase)) (by decide +kernel))
          (fun _ _ _ _ _ => pg_name (i := 3) scTB.nd rfl (Or.inl rfl)) (fun _ _ _ _ _ => pts_nil) (fun _ _ _ _ _ => pe_op op_mod (pe_op op_add (pv 3) (pv 2)) (pv 1))) pa_nil)) pa_nil)))), ?_⟩
    refine rd_blksR (n := n) (Rl := fun k c => c = turn n k b) (fun {R} h => ⟨_, rfl, h⟩) (by omega) (fun k hk H2 R s2 h => ?_) fun D H2 ps s2 hD h1 h2 h3 h4 => q D H2 ps s2 hD h1 h2 (map_of_at h3 h4)
    refine rd_srtT (b := b.map fun x => (x + (k : Int)) % (n : Int)) (by rw [List.length_map]; exact hl) (fun {R2} hR => ?_) fun t H3 s3 h0 ht => h t _ H3 s3 ht rfl
    refine rd_intsT (a := a) (b := b) (g := fun x => (x + (k : Int)) % (n : Int)) (fun {R} h => ⟨_, rfl, h⟩) (sSeqT s2 hb) (by omega) (fun x hx H' R' s' h' => ?_) fun D H' s' h0 hD => hR D H' s' hD
    exact ⟨_, rfl, _, rfl, _, _, rfl, rfl, _, rfl, _, _, rfl, rfl, (by omega), h'⟩
/-! ### _law_rebuilt -/
abbrev nReb : List Str := ["_law_many", "_law_bases", "_law_found", "_law_base", "_law_times", "_law_unlike"]
theorem scReb : FnScope nReb ["_law_many", "_law_bases"] (defScope sRebuilt) := ⟨rfl, rfl, rfl, by decide +kernel, rfl, by decide +kernel, by decide +kernel⟩
/-- a list of bases, each with how often -/
def PairsAt (H : Hp) (l : Addr) (T : List (List Int × Nat)) : Prop := ∃ zs : List (Addr × List Int × Nat), H l = some (.lst (zs.map fun z => V.ref z.1)) ∧ (∀ z ∈ zs, ∃ q, H z.1 = some (.tup [.ref q, .int (z.2.2 : Int)]) ∧ Tb H q z.2.1) ∧ zs.map (·.2) = T
theorem PairsAt.same {H H' : Hp} {l : Addr} {T : List (List Int × Nat)} (h : PairsAt H l T) (s : Same H H') : PairsAt H' l T := by
  obtain ⟨zs, h1, h2, h3⟩ := h
  refine ⟨zs, s _ _ h1, fun z m => ?_, h3⟩
  obtain ⟨q, q1, q2⟩ := h2 z m
  exact ⟨q, s _ _ q1, s _ _ q2⟩
theorem reps_refs (rs : List (Addr × List Int)) : ∀ k : Nat, (List.replicate k (refs rs)).flatten = refs ((List.replicate k rs).flatten)
  | 0 => rfl
  | k + 1 => by
    rw [List.replicate_succ, List.replicate_succ, List.flatten_cons, List.flatten_cons, reps_refs rs k]
    show _ = (rs ++ (List.replicate k rs).flatten).map fun p => V.ref p.1
    rw [List.map_append]
theorem reps_snd (rs : List (Addr × List Int)) : ∀ k : Nat, ((List.replicate k rs).flatten).map (·.2) = (List.replicate k (rs.map (·.2))).flatten
  | 0 => rfl
  | k + 1 => by rw [List.replicate_succ, List.replicate_succ, List.flatten_cons, List.flatten_cons, List.map_append, reps_snd rs k]
theorem reps_mem (rs : List (Addr × List Int)) {p : Addr × List Int} : ∀ k : Nat, p ∈ (List.replicate k rs).flatten → p ∈ rs
  | 0, h => by simp at h
  | k + 1, h => by
    rw [List.replicate_succ, List.flatten_cons] at h
    rcases List.mem_append.mp h with h | h
    · exact h
    · exact reps_mem rs k h
theorem reps_len {α : Type} (rs : List α) : ∀ k : Nat, ((List.replicate k rs).flatten).length = k * rs.length
  | 0 => by simp
  | k + 1 => by rw [List.replicate_succ, List.flatten_cons, List.length_append, reps_len rs k, Nat.succ_mul, Nat.add_comm]
def spReb : Sp := fun vs H Q _ => ∃ (n : Nat) (l : Addr) (T : List (List Int × Nat)), vs = [.int (n : Int), .ref l] ∧ PairsAt H l T ∧ 0 < n ∧ n < 64 ∧ (∀ p ∈ T, Good n p.1 ∧ p.2 ≤ 100) ∧ T.length ≤ 100 ∧
  ∀ (r : Addr) (H' : Hp) (bs : List (List Int)), Same H H' → LayAt H' r n bs → (∀ p ∈ T, HasU n p.1) → bs.Perm (rebl (uniq n) T) → bs.Pairwise leL → Q (.ref r) H'
theorem ok_reb (F : FnP K "_law_rebuilt" sRebuilt f fd) (T : Txt mg) (CT : Cal P w K mg base 1 "_law_turned_base" ["_law_base", "_law_many"] (spTBT K)) : FnOk P w K mg base CX0 2 f fd ["_law_many", "_law_bases"] spReb := by
  refine okN F scReb (fun vs H Q E h => ?_) (fun cdv A outer s H vs Q E hr h => ?_)
  · obtain ⟨n, l, T, rfl, _⟩ := h
    rfl
  · obtain ⟨n, l, TT, rfl, ⟨zs, hl, hz, rfl⟩, hn, h64, hgood, hlen, q⟩ := h
    rw [List.length_map] at hlen
    refine ⟨_, pss_cons (ps_set (i := 2) scReb.nd rfl (Or.inl rfl) (pe_lst pa_nil))
      (pss_cons (ps_for PassesOwn.never rfl (pi_list (pv 1)) (pg_tup (by rfl) (pgs_cons (pg_name (i := 3) scReb.nd rfl (Or.inl rfl)) (pgs_cons (pg_name (i := 4) scReb.nd rfl (Or.inl rfl)) pgs_nil)))
        (pss_cons (ps_set (i := 5) scReb.nd rfl (Or.inl rfl) (pe_callB (cr_sortS rfl hr.units) (by rfl) T.sorted boot_sorted (pa_cons (pe_callTy (cr_setOfT rfl hr.units) (by rfl) T.set boot_set (pa_cons (pe_cal CT hr (by rfl) (pa_cons (pv 3) (pa_cons (pv 0) pa_nil))) pa_nil)) pa_nil)))
        (pss_one (ps_expr (pe_bm PySem.F.plainAttrs_list PySem.F.slot_list_extend PySem.F.type_list_extend mt_extend (pv 2) (pa_cons (pe_op op_rep (pv 5) (pv 4)) pa_nil))))))
      (pss_one (ps_ret (pe_tup (pa_cons (pv 0) (pa_cons (pe_callTy call_tuple_of (by rfl) T.tuple boot_tuple (pa_cons (pe_callB (cr_sortB hr.units) (by rfl) T.sorted boot_sorted (pa_cons (pv 2) pa_nil)) pa_nil)) pa_nil)))))), ?_⟩
    refine ⟨small_line (Nat.zero_le _), fun fo hfo => ?_⟩
    have s1 := same_new (o := .lst []) hfo
    refine ⟨_, rfl, l, rfl, ⟨_, SqL.of (s1 _ _ hl)⟩, for_list (K := K) (a := l) (xs := zs.map fun z => V.ref z.1) (fun i σ H2 => ∃ v3 v4 v5, σ = [some (.int (n : Int)), some (.ref l), some (.ref fo), v3, v4, v5] ∧ Same H H2 ∧ (∀ p ∈ (zs.map (·.2)).take i, HasU n p.1) ∧
      ∃ qs, H2 fo = some (.lst (refs qs)) ∧ AllT H2 qs ∧ qs.map (·.2) = rebl (uniq n) ((zs.map (·.2)).take i) ∧ qs.length ≤ i * 6400) ⟨none, none, none, rfl, s1, fun p m => by simp at m, [], upd_same, AllT.nil, rfl, Nat.zero_le _⟩ (fun i σ H2 _ ⟨_, _, _, _, s2, _⟩ => SqL.of (s2 _ _ hl)) ?_ ?_⟩
    · rintro i y σ H2 hi ⟨v3, v4, v5, rfl, s2, hU, qs, h1, h2, h3, h4⟩
      rw [List.getElem?_map] at hi
      obtain ⟨z, hzi, rfl⟩ : ∃ z, zs[i]? = some z ∧ y = V.ref z.1 := by
        cases e : zs[i]? with
        | none =>
          rw [e] at hi
          cases hi
        | some z =>
          rw [e] at hi
          exact ⟨z, rfl, (Option.some.inj hi).symm⟩
      have mz := List.mem_of_getElem? hzi
      have hil := (List.getElem?_eq_some_iff.mp hzi).1
      obtain ⟨t, ht1, ht2⟩ := hz z mz
      have hT : (zs.map (·.2))[i]? = some z.2 := by rw [List.getElem?_map, hzi]; rfl
      obtain ⟨gz, tz⟩ := hgood z.2 (List.mem_map.mpr ⟨z, mz, rfl⟩)
      refine ⟨z.1, _, rfl, SqT.of (s2 _ _ ht1), rfl, _, _, rfl, _, _, rfl, rfl, ?_⟩
      refine ⟨_, rfl, _, rfl, t, z.2.1, n, rfl, SqT.of (s2 _ _ ht2), Nat.lt_of_le_of_lt gz.len h64, hn, by omega, fun D H3 ps s3 hD h5 h6 h7 => ?_⟩
      have hpl : ps.length = n := by
        have e := congrArg List.length h7
        rw [List.length_map, orb_length] at e
        exact e
      refine ⟨D, ps, rfl, SqL.of h5, h6.B, by omega, fun S L hS hsub hall => ?_⟩
      have s4 : Same H3 (upd H3 S (SetTO P w S L)) := same_new hS
      refine ⟨S, L, rfl, upd_same, fun p m => SqT.of (s4 _ _ (h6 p (hsub p m))), fun rs u pm nd srt hu => ?_⟩
      have s5 := sNew s4 (o := .lst (refs rs)) hu
      have hmem : ∀ x, x ∈ rs.map (·.2) ↔ x ∈ orb n z.2.1 := fun x => by
        rw [← h7, (pm.map (·.2)).mem_iff]
        constructor
        · intro m
          obtain ⟨p, mp, rfl⟩ := List.mem_map.mp m
          exact List.mem_map.mpr ⟨p, hsub p mp, rfl⟩
        · intro m
          obtain ⟨p, mp, rfl⟩ := List.mem_map.mp m
          exact hall p mp
      have srt' : (rs.map (·.2)).Pairwise leL := List.pairwise_map.mpr srt
      have eU := uniq_eq nd srt' hmem
      have hUz := hasU_of nd srt' hmem
      have hrl : rs.length ≤ 64 := by
        have e := List.Nodup.length_le_of_subset nd fun x m => (hmem x).mp m
        rw [List.length_map, orb_length] at e
        omega
      have hmul : z.2.2 * rs.length ≤ 6400 := Nat.le_trans (Nat.mul_le_mul tz hrl) (by decide)
      have hi6 : i * 6400 ≤ 100 * 6400 := Nat.mul_le_mul_right _ (by omega)
      have s35 := s3.trans s5
      refine ⟨_, rfl, .inl ⟨rfl, _, SqL.of (s35 _ _ h1)⟩, _, rfl, _, rfl, u, _, _, rfl, rfl, upd_same, by omega, by omega, ?_, fun D2 hD2 => ?_⟩
      · rw [List.length_map]
        have e : ((z.2.2 : Nat) : Int).toNat = z.2.2 := by omega
        rw [e, Nat.mul_comm]
        exact Nat.le_trans hmul (by decide)
      · have e : ((z.2.2 : Nat) : Int).toNat = z.2.2 := by omega
        rw [e, reps_refs]
        have s6 := sNew s35 (o := .lst (refs ((List.replicate z.2.2 rs).flatten))) hD2
        refine ⟨fo, D2, _, _, rfl, rfl, s6 _ _ h1, upd_same, ?_, ?_⟩
        · rw [List.length_map, List.length_map, reps_len]
          exact Nat.le_trans (show qs.length + z.2.2 * rs.length ≤ 100 * 6400 + 6400 by omega) (by decide)
        · refine ⟨_, _, _, rfl, sOwn (s2.trans s6) hfo, fun p m => ?_, qs ++ (List.replicate z.2.2 rs).flatten, ?_, ?_, ?_, ?_⟩
          · rw [List.take_succ, hT, Option.toList_some] at m
            rcases List.mem_append.mp m with m | m
            · exact hU p m
            · rw [List.mem_singleton.mp m]
              exact hUz
          · rw [upd_same]
            show _ = some (HO.lst ((qs ++ (List.replicate z.2.2 rs).flatten).map fun p => V.ref p.1))
            rw [List.map_append]
          · refine allT_upd (xs := refs qs) (fun p m => ?_) (s6 _ _ h1)
            rcases List.mem_append.mp m with m | m
            · exact s6 _ _ (h2 p m)
            · have mp := pm.mem_iff.mp (reps_mem rs _ m)
              exact (sNew s5 hD2) _ _ (h6 p (hsub p mp))
          · rw [List.map_append, h3, reps_snd, rebl_take (uniq n) hT, eU]
          · rw [List.length_append, reps_len]
            omega
    · rintro σ H2 ⟨v3, v4, v5, rfl, s2, hU, qs, h1, h2, h3, h4⟩
      rw [List.length_map] at h3 h4 hU
      rw [List.take_of_length_le (by rw [List.length_map]; exact Nat.le_refl _)] at h3 hU
      refine ⟨_, rfl, _, rfl, fo, qs, rfl, .inl (SqL.of h1), h2.B, fun rs u pm srt hu => ?_⟩
      refine ⟨u, _, rfl, .inl ⟨SqL.of upd_same, fun t ht => ⟨by show 2 ≤ sizeLine; decide, fun r hr0 => ?_⟩⟩⟩
      have s3 := sNew s2 (o := .lst (refs rs)) hu
      have s4 := sNew s3 (o := .tup (refs rs)) ht
      refine q r _ (rs.map (·.2)) (sNew s4 hr0) (lay_new upd_same ?_ hr0) hU ?_ (List.pairwise_map.mpr srt)
      · exact ((h2.perm pm).same (same_new hu)).same (same_new ht)
      · rw [← h3]
        exact pm.map (·.2)
end
end K95

set_option Elab.async false
set_option linter.all false
set_option maxRecDepth 100000
set_option maxHeartbeats 1000000
namespace K95
open PySem PySem.Spec PyProof.Rows L2
theorem row_made {n : Nat} (hn : 0 < n) : rgV 1 (n : Int) ++ [V.int 0] = (rowOf n).map V.int := by
  obtain ⟨m, rfl⟩ : ∃ m, n = m + 1 := ⟨n - 1, by omega⟩
  unfold rgV rowOf
  have e : (((m + 1 : Nat) : Int) - 1).toNat = m := by omega
  rw [e, List.range_succ, List.map_append, List.map_append]
  congr 1
  · rw [List.map_map]
    refine List.map_congr_left fun k hk => ?_
    have := List.mem_range.mp hk
    show V.int (1 + (k : Int)) = V.int (((k : Int) + 1) % ((m + 1 : Nat) : Int))
    rw [Int.emod_eq_of_lt (by omega) (by omega), Int.add_comm]
  · show [V.int 0] = [V.int (((m : Int) + 1) % ((m + 1 : Nat) : Int))]
    have e2 : (m : Int) + 1 = ((m + 1 : Nat) : Int) := by omega
    rw [e2, Int.emod_self]
/-- the told word of a layout -/
theorem tells_word {H : Hp} {r : Addr} {n : Nat} {bs : List (List Int)} (h : Tells H r n bs) : ∃ (x : Str) (v : V), H r = some (.tup [.str x, v]) ∧ ((x = "turns" ∧ Trn n bs) ∨ (x = "stays" ∧ ¬ Trn n bs)) := by
  rcases h with ⟨h1, k, h2⟩ | ⟨h1, T, _, l, zs, h2, _⟩
  · exact ⟨"stays", _, h2, .inr ⟨rfl, h1⟩⟩
  · exact ⟨"turns", _, h2, .inl ⟨rfl, h1⟩⟩
open Classical in
theorem word_turns {x : Str} {n : Nat} {bs : List (List Int)} (h : (x = "turns" ∧ Trn n bs) ∨ (x = "stays" ∧ ¬ Trn n bs)) : decide (V.str x = V.str "turns") = decide (Trn n bs) := by
  rcases h with ⟨e, t⟩ | ⟨e, t⟩
  · rw [e, decide_eq_true t, decide_eq_true rfl]
  · rw [e, decide_eq_false t]
    exact decide_eq_false (fun z => absurd (V.str.inj z) (by decide +kernel))
theorem bool_ne (b c : Bool) (h : b = c) : (!decide (V.bl b = V.bl c)) = false := by
  rw [h, decide_eq_true rfl]
  rfl
theorem told_small {n : Nat} {bs : List (List Int)} {T : List (List Int × Nat)} (hn : 0 < n) (hg : AllGood n bs) (I : Trn n bs) (h : Told n bs T) : T.length ≤ bs.length ∧ ∀ p ∈ T, p.2 ≤ bs.length := by
  refine ⟨?_, fun p m => ?_⟩
  · have z := List.Nodup.length_le_of_subset (l₂ := bs) h.nodup fun x m => by
      obtain ⟨p, mp, rfl⟩ := List.mem_map.mp m
      obtain ⟨⟨b, hb, e⟩, _⟩ := (h.mem p).mp mp
      rw [e]
      refine List.count_pos_iff.mp ?_
      rw [trn_least hn I (hg b hb)]
      exact List.count_pos_iff.mpr hb
    rw [List.length_map] at z
    exact z
  · rw [((h.mem p).mp m).2]
    exact List.count_le_length
theorem reps_one (l : Addr) (b : List Int) (k : Nat) : (List.replicate k [V.ref l]).flatten = refs (List.replicate k (l, b)) := by
  induction k with
  | zero => rfl
  | succ k ih =>
    rw [List.replicate_succ, List.replicate_succ, List.flatten_cons, ih]
    rfl
section
variable {P : Program} {w : World} {K : PySem.W.Frag} {mg : Str → Option Value} {base : Heap} {f : Addr} {fd : FuncData}
/-! ### _law_turning -/
abbrev nTrn : List Str := ["_law_layout_here", "_law_many", "_law_row_here", "_law_same", "_law_told", "_law_whole", "_law_base", "_law_times"]
theorem scTrn : FnScope nTrn ["_law_layout_here"] (defScope sTurning) := ⟨rfl, rfl, rfl, by decide +kernel, rfl, by decide +kernel, by decide +kernel⟩
def spTrn : Sp := fun vs H Q _ => ∃ (p : Addr) (n : Nat) (bs : List (List Int)), vs = [.ref p] ∧ LayAt H p n bs ∧ 0 < n ∧ n ≤ 60 ∧ AllGood n bs ∧ bs.length ≤ 100 ∧ ∀ H', Same H H' → Q (.bl true) H'
open Classical in
theorem ok_trn (F : FnP K "_law_turning" sTurning f fd) (T : Txt mg) (CS : Cal P w K mg base 1 "sorted_layout" ["layout"] spSorted) (CR : Cal P w K mg base 5 "renamed" ["layout", "row"] spRenamed) (CT : Cal P w K mg base 2 "turns_told" ["layout"] spTold)
    (CC : Cal P w K mg base 1 "complement" ["layout"] spCompl) (CB : Cal P w K mg base 2 "_law_rebuilt" ["_law_many", "_law_bases"] spReb) (CD : Cal P w K mg base 5 "developed" ["n", "bases"] (spDev K)) (CU : Cal P w K mg base 1 "_law_turned_base" ["_law_base", "_law_many"] (spTBT K)) :
    FnOk P w K mg base CX0 6 f fd ["_law_layout_here"] spTrn := by
  refine okN F scTrn (fun vs H Q E h => ?_) (fun cdv A outer s H vs Q E hr h => ?_)
  · obtain ⟨p, n, bs, rfl, _⟩ := h
    rfl
  · obtain ⟨p, n, bs, rfl, L0, hn, h60, hg, hl, q⟩ := h
    have r1 := hr.mono (show 1 ≤ 5 by decide)
    have r2 := hr.mono (show 2 ≤ 5 by decide)
    refine ⟨_, pss_cons (ps_set (i := 1) scTrn.nd rfl (Or.inl rfl) (pe_ix ix_tup (pv 0) pe_int (fun _ _ => rfl)))
      (pss_cons (ps_set (i := 2) scTrn.nd rfl (Or.inl rfl) (pe_op op_cat (pe_listRg rfl (by rfl) T.list (prg_2 (by rfl) T.range pe_int (pv 1))) (pe_lst (pa_cons pe_int pa_nil))))
      (pss_cons (ps_set (i := 3) scTrn.nd rfl (Or.inl rfl) (pe_cmpR (op_eqD hr.units) (pe_cal CS r1 (by rfl) (pa_cons (pe_cal CR hr (by rfl) (pa_cons (pv 0) (pa_cons (pv 2) pa_nil))) pa_nil)) (pe_cal CS r1 (by rfl) (pa_cons (pv 0) pa_nil)) (nomark _)))
      (pss_cons (ps_set (i := 4) scTrn.nd rfl (Or.inl rfl) (pe_cal CT r2 (by rfl) (pa_cons (pv 0) pa_nil)))
      (pss_cons (ps_if (PW.pt (pw_or (pt_cmpR op_ne (pe_cmpR op_eq (pe_ix ix_tup (pv 4) pe_int (fun _ _ => rfl)) pe_str (nomark _)) (pv 3) (nomark _))
          (pw_or1 (pt_cmpR op_ne (pe_cmpR op_eq (pe_ix ix_tup (pe_cal CT r2 (by rfl) (pa_cons (pe_cal CC r1 (by rfl) (pa_cons (pv 0) pa_nil)) pa_nil)) pe_int (fun _ _ => rfl)) pe_str (nomark _)) (pv 3) (nomark _))))) (pss_one (ps_ret pe_bl)) pss_nil)
      (pss_cons (ps_if (pt_not (pt_val (pv 3))) (pss_one (ps_ret (pe_cmpR op_eq (pe_ix ix_tup (pe_cal CT r2 (by rfl) (pa_cons (pe_cal CR hr (by rfl) (pa_cons (pv 0) (pa_cons (pv 2) pa_nil))) pa_nil)) pe_int (fun _ _ => rfl)) pe_str (nomark _)))) pss_nil)
      (pss_cons (ps_if (PW.pt (pw_or (pt_cmpR (op_neD hr.units) (pe_cal CB r2 (by rfl) (pa_cons (pv 1) (pa_cons (pe_ix ix_tup (pv 4) pe_int (fun _ _ => rfl)) pa_nil))) (pe_cal CS r1 (by rfl) (pa_cons (pv 0) pa_nil)) (nomark _))
          (pw_or1 (pt_cmpR (op_neD hr.units) (pe_cal CT r2 (by rfl) (pa_cons (pe_cal CS r1 (by rfl) (pa_cons (pv 0) pa_nil)) pa_nil)) (pv 4) (nomark _))))) (pss_one (ps_ret pe_bl)) pss_nil)
      (pss_cons (ps_set (i := 5) scTrn.nd rfl (Or.inl rfl) (pe_lst pa_nil))
      (pss_cons (ps_for PassesOwn.never rfl (pi_list (pe_ix ix_tup (pv 4) pe_int (fun _ _ => rfl))) (pg_tup (by rfl) (pgs_cons (pg_name (i := 6) scTrn.nd rfl (Or.inl rfl)) (pgs_cons (pg_name (i := 7) scTrn.nd rfl (Or.inl rfl)) pgs_nil)))
        (pss_cons (ps_if (pt_cmpR op_lt (pe_callB cr_lenS (by rfl) T.len PySem.boot_len (pa_cons (pe_callTy (cr_setOfT rfl hr.units) (by rfl) T.set boot_set (pa_cons (pe_cal CU r1 (by rfl) (pa_cons (pv 6) (pa_cons (pv 1) pa_nil))) pa_nil)) pa_nil)) (pv 1) (nomark _)) (pss_one (ps_ret pe_bl)) pss_nil)
        (pss_one (ps_expr (pe_bm PySem.F.plainAttrs_list PySem.F.slot_list_extend PySem.F.type_list_extend mt_extend (pv 5) (pa_cons (pe_op op_rep (pe_lst (pa_cons (pe_callTy call_list_of (by rfl) T.list boot_list (pa_cons (pv 6) pa_nil)) pa_nil)) (pv 7)) pa_nil))))))
      (pss_one (ps_ret (pe_cmpR (op_eqD hr.units) (pe_cal CS r1 (by rfl) (pa_cons (pe_cal CD hr (by rfl) (pa_cons (pv 1) (pa_cons (pv 5) pa_nil))) pa_nil)) (pe_cal CS r1 (by rfl) (pa_cons (pv 0) pa_nil)) (nomark _)))))))))))), ?_⟩
    obtain ⟨bb, ps, hp, hb, hps, hbs⟩ := id L0
    have h1000 : bs.length ≤ 1000 := by omega
    -- many
    refine ⟨_, rfl, p, _, _, _, rfl, rfl, SqT.of hp, at_of (j := 0) rfl rfl, ?_⟩
    -- the row
    refine ⟨_, rfl, 1, (n : Int), rfl, rfl, RgOk.of_le (by decide) (by omega) (by decide) (by omega), fun l1 hl1 => ⟨by show 1 ≤ sizeLine; decide, fun l2 hl2 => ?_⟩⟩
    refine ⟨l1, l2, _, _, rfl, rfl, (by rw [upd_ne (ne_of_none upd_same hl2)]; exact upd_same), upd_same, ?_, fun lr hlr => ?_⟩
    · rw [rgV_length]
      exact small_line (show _ + 1 ≤ 1000 by omega)
    rw [row_made hn]
    have s1 : Same H (upd H l1 (.lst (rgV 1 (n : Int)))) := same_new hl1
    have s2 := sNew s1 (o := .lst [.int 0]) hl2
    have s3 := sNew s2 (o := .lst ((rowOf n).map V.int)) hlr
    generalize hH3 : upd (upd (upd H l1 (.lst (rgV 1 (n : Int)))) l2 (.lst [.int 0])) lr (.lst ((rowOf n).map V.int)) = H3 at s3 ⊢
    have hrow : Lb H3 lr (rowOf n) := by rw [← hH3]; exact upd_same
    -- same
    refine ⟨_, rfl, _, rfl, p, lr, n, bs, rfl, L0.same s3, hrow, hn, by omega, hg, h1000, fun a1 H4 s4 L1 => ?_⟩
    refine ⟨a1, n, _, rfl, L1, by rw [List.length_map]; omega, fun a2 H5 cs s5 L2 pm2 srt2 => ?_⟩
    have s35 := s3.trans (s4.trans s5)
    refine ⟨_, rfl, p, n, bs, rfl, L0.same s35, h1000, fun a3 H6 ds s6 L3 pm3 srt3 => ?_⟩
    refine ⟨_, _, dp_lay (L2.same s6), dp_lay L3, shaped_lay _ _, shaped_lay _ _, ?_⟩
    have same_eq : PyData.eqv (dLay n cs) (dLay n ds) = decide (Trn n bs) := by
      rw [eqv_lay]
      by_cases t : Trn n bs
      · rw [decide_eq_true t]
        exact decide_eq_true (sorted_unique srt2 srt3 (pm2.trans (((perm_iff_trn hn hg).mpr t).trans pm3.symm)))
      · rw [decide_eq_false t]
        refine decide_eq_false fun z => t ((perm_iff_trn hn hg).mp ?_)
        rw [z] at pm2
        exact pm2.symm.trans pm3
    rw [same_eq]
    have s36 := s35.trans s6
    -- told
    refine ⟨_, rfl, p, n, bs, rfl, L0.same s36, hn, by omega, hg, by omega, fun a4 H7 s7 T4 => ?_⟩
    have s37 := s36.trans s7
    obtain ⟨x4, v4, h4, w4⟩ := tells_word T4
    -- the two tests
    refine ⟨_, rfl, a4, _, _, _, rfl, rfl, SqT.of h4, at_of (j := 0) rfl rfl, rfl, ?_⟩
    rw [word_turns w4]
    refine ⟨_, rfl, rfl, _, rfl, ?_⟩
    rw [bool_ne _ _ rfl]
    refine iteF ⟨_, rfl, p, n, bs, rfl, L0.same s37, by omega, h1000, fun a5 H8 s8 L5 => ?_⟩
    have hgc := map_good (n := n) (f := compl n) (fun b _ => compl_good b) hg
    refine ⟨a5, n, _, rfl, L5, hn, by omega, hgc, by rw [List.length_map]; omega, fun a6 H9 s9 T6 => ?_⟩
    have s39 := s37.trans (s8.trans s9)
    obtain ⟨x6, v6, h6, w6⟩ := tells_word T6
    refine ⟨a6, _, _, _, rfl, rfl, SqT.of h6, at_of (j := 0) rfl rfl, rfl, ?_⟩
    rw [word_turns w6]
    refine ⟨_, rfl, rfl, _, rfl, ?_⟩
    rw [bool_ne _ _ (decide_eq_decide.mpr (trn_compl hn hg))]
    refine iteF ⟨_, rfl, _, rfl, ?_⟩
    by_cases t : Trn n bs
    · rw [decide_eq_true t]
      refine iteF ?_
      rcases T4 with ⟨nt, _⟩ | ⟨_, TT, hT, hTA⟩
      · exact absurd t nt
      obtain ⟨lT, zs, g1, g2, g3, g4⟩ := id hTA
      have s79 : Same H7 H9 := s8.trans s9
      have hpairs : PairsAt H9 lT TT := ⟨zs, s79 _ _ g2, fun z m => let ⟨a, b, c⟩ := g3 z m; ⟨a, s79 _ _ b, s79 _ _ c⟩, g4⟩
      have tgood := hT.good hn hg
      obtain ⟨tl, tc⟩ := told_small hn hg t hT
      -- rebuilt
      refine ⟨_, rfl, _, rfl, a4, _, _, _, rfl, rfl, SqT.of (s79 _ _ g1), at_of (j := 1) rfl rfl, n, lT, TT, rfl, hpairs, hn, by omega, fun z m => ⟨tgood z m, Nat.le_trans (tc z m) hl⟩, by omega, fun a7 H10 es s10 L7 hU pm7 srt7 => ?_⟩
      have s310 := s39.trans s10
      refine ⟨_, rfl, p, n, bs, rfl, L0.same s310, h1000, fun a8 H11 fs s11 L8 pm8 srt8 => ?_⟩
      refine ⟨_, _, dp_lay (L7.same s11), dp_lay L8, shaped_lay _ _, shaped_lay _ _, _, rfl, ?_⟩
      have e7 : es = fs := sorted_unique srt7 srt8 (pm7.trans ((rebl_perm hn hg t hT fun z m => hU z m).trans pm8.symm))
      rw [eqv_lay, decide_eq_true e7]
      have s311 := s310.trans s11
      -- the sorted layout is told the same
      refine iteF ⟨_, rfl, p, n, bs, rfl, L0.same s311, h1000, fun a9 H12 gs s12 L9 pm9 srt9 => ?_⟩
      refine ⟨a9, n, gs, rfl, L9, hn, by omega, good_perm pm9 hg, by rw [pm9.length_eq]; omega, fun a10 H13 s13 T10 => ?_⟩
      have s713 : Same H7 H13 := s79.trans (s10.trans (s11.trans (s12.trans s13)))
      have s313 := s311.trans (s12.trans s13)
      rcases T10 with ⟨nt, _⟩ | ⟨_, T2, hT2, hTA2⟩
      · exact absurd ((trn_perm pm9).mpr t) nt
      have eT : T2 = TT := hT.unique hT2 pm9
      subst eT
      refine ⟨_, rfl, _, _, dp_told hTA2, dp_told (hTA.same s713), shaped_told _, shaped_told _, _, rfl, ?_⟩
      rw [SeqAt.eqv_refl _ (lay_told T2)]
      refine iteF ⟨small_line (Nat.zero_le _), fun lw hlw => ?_⟩
      have s14 := sNew s313 (o := .lst []) hlw
      have lw0 : H lw = none := s313.free hlw
      have s714 := sNew s713 (o := .lst []) hlw
      have lw7 : H7 lw = none := s713.free hlw
      -- the loop
      refine ⟨_, rfl, a4, _, _, _, rfl, rfl, SqT.of (s714 _ _ g1), at_of (j := 1) rfl rfl, lT, rfl, ⟨_, SqL.of (s714 _ _ g2)⟩, for_list (K := K) (a := lT) (xs := zs.map fun z => V.ref z.1) (fun i σ H2 => ∃ v6 v7, σ = [some (.ref p), some (.int (n : Int)), some (.ref lr), some (.bl true), some (.ref a4), some (.ref lw), v6, v7] ∧ Same H7 H2 ∧ Same H H2 ∧
        (∀ z ∈ T2.take i, (orb n z.1).Nodup) ∧ ∃ qs, H2 lw = some (.lst (refs qs)) ∧ AllL H2 qs ∧ qs.map (·.2) = wholeOf (T2.take i) ∧ qs.length ≤ i * 100)
        ⟨none, none, rfl, s714, s14, fun z m => by simp at m, [], upd_same, fun _ m => (nomatch m), rfl, Nat.zero_le _⟩ (fun i σ H2 _ ⟨_, _, _, s2, _⟩ => SqL.of (s2 _ _ g2)) ?_ ?_⟩
      · rintro i y σ H2 hi ⟨v6, v7, rfl, s2, s02, hnd, qs, h1, h2, h3, h5⟩
        rw [List.getElem?_map] at hi
        obtain ⟨z, hzi, rfl⟩ : ∃ z, zs[i]? = some z ∧ y = V.ref z.1 := by
          cases e : zs[i]? with
          | none =>
            rw [e] at hi
            cases hi
          | some z =>
            rw [e] at hi
            exact ⟨z, rfl, (Option.some.inj hi).symm⟩
        have mz := List.mem_of_getElem? hzi
        obtain ⟨tq, ht1, ht2⟩ := g3 z mz
        have hTi : T2[i]? = some z.2 := by rw [← g4, List.getElem?_map, hzi]; rfl
        have mT := List.mem_of_getElem? hTi
        have hil := (List.getElem?_eq_some_iff.mp hTi).1
        have gz := tgood z.2 mT
        have cz := tc z.2 mT
        refine ⟨z.1, _, rfl, SqT.of (s2 _ _ ht1), rfl, _, _, rfl, _, _, rfl, rfl, ?_⟩
        refine ⟨_, rfl, _, rfl, tq, z.2.1, n, rfl, SqT.of (s2 _ _ ht2), Nat.lt_of_le_of_lt gz.len (by omega), hn, by omega, fun D H3' ps' s3' hD h6' h7' h8' => ?_⟩
        have hpl : ps'.length = n := by
          have e := congrArg List.length h8'
          rw [List.length_map, orb_length] at e
          exact e
        refine ⟨D, ps', rfl, SqL.of h6', h7'.B, by omega, fun S L hS hsub hall => ?_⟩
        have s4' : Same H3' (upd H3' S (SetTO P w S L)) := same_new hS
        refine ⟨S, L, rfl, upd_same, fun nd _ => ?_⟩
        have s24 := s3'.trans s4'
        refine ⟨_, rfl, _, _, rfl, rfl, _, rfl, ite2 (fun c => ?_) fun c => ?_⟩
        · exact q _ (s02.trans s24)
        · have cL : ¬ (L.length : Int) < (n : Int) := fun z2 => c (decide_eq_true z2)
          have ndo : (orb n z.2.1).Nodup := by
            refine nodup_of_len (L := L.map (·.2)) nd (fun x m => ?_) ?_
            · obtain ⟨y, my, rfl⟩ := List.mem_map.mp m
              rw [← h8']
              exact List.mem_map.mpr ⟨y, hsub y my, rfl⟩
            · rw [orb_length, List.length_map]
              omega
          have hi6 : i * 100 ≤ 100 * 100 := Nat.mul_le_mul_right _ (by omega)
          have ek : ((z.2.2 : Nat) : Int).toNat = z.2.2 := by omega
          refine ⟨_, rfl, .inl ⟨rfl, _, SqL.of (s24 _ _ h1)⟩, _, rfl, tq, _, rfl, .inr (SqT.of (s24 _ _ (s2 _ _ ht2))), fun lb hlb => ⟨by show 1 ≤ sizeLine; decide, fun l3 hl3 => ?_⟩⟩
          have s5' := sNew s24 (o := .lst (z.2.1.map V.int)) hlb
          have s6' := sNew s5' (o := .lst [.ref lb]) hl3
          refine ⟨_, rfl, l3, _, _, rfl, rfl, upd_same, by omega, by omega, ?_, fun l4 hl4 => ?_⟩
          · rw [ek]
            exact small_line (show 1 * z.2.2 ≤ 1000 by omega)
          · rw [ek, reps_one lb z.2.1]
            have s7' := sNew s6' (o := .lst (refs (List.replicate z.2.2 (lb, z.2.1)))) hl4
            refine ⟨lw, l4, _, _, rfl, rfl, s7' _ _ h1, upd_same, ?_, ?_⟩
            · rw [List.length_map, List.length_map, List.length_replicate]
              exact Nat.le_trans (show qs.length + z.2.2 ≤ 10100 by omega) (by decide)
            · have s27 : Same H7 _ := s2.trans s7'
              have elb := (sNew (same_new (o := .lst [.ref lb]) hl3) (o := .lst (refs (List.replicate z.2.2 (lb, z.2.1)))) hl4) lb _ upd_same
              have lblw : lb ≠ lw := fun e => by
                rw [e] at hlb
                have z9 := s24 _ _ h1
                have z8 := hlb.symm.trans z9
                cases z8
              refine ⟨_, _, rfl, sOwn s27 lw7, sOwn (s02.trans s7') lw0, fun y m => ?_, qs ++ List.replicate z.2.2 (lb, z.2.1), ?_, fun y m => ?_, ?_, ?_⟩
              · rw [List.take_succ, hTi, Option.toList_some] at m
                rcases List.mem_append.mp m with m | m
                · exact hnd y m
                · rw [List.mem_singleton.mp m]
                  exact ndo
              · rw [upd_same]
                show _ = some (HO.lst ((qs ++ List.replicate z.2.2 (lb, z.2.1)).map fun p => V.ref p.1))
                rw [List.map_append]
              · show upd _ lw _ y.1 = _
                rcases List.mem_append.mp m with m | m
                · have hy := h2 y m
                  by_cases ey : y.1 = lw
                  · exfalso
                    have z9 : H2 y.1 = some (.lst (y.2.map V.int)) := hy
                    rw [ey, h1] at z9
                    have z10 : refs qs = y.2.map V.int := by
                      injection z9 with z9
                      injection z9
                    cases hq : qs with
                    | nil =>
                      rw [hq] at m
                      cases m
                    | cons a r =>
                      rw [hq] at z10
                      cases hy2 : y.2 with
                      | nil =>
                        rw [hy2] at z10
                        cases z10
                      | cons b c =>
                        rw [hy2] at z10
                        have z11 := (List.cons.inj z10).1
                        cases z11
                  · rw [upd_ne ey]
                    exact s7' _ _ hy
                · have ey := List.eq_of_mem_replicate m
                  rw [ey, upd_ne lblw]
                  exact elb
              · rw [List.map_append, h3, whole_take hTi]
                congr 1
                rw [List.map_replicate]
              · rw [List.length_append, List.length_replicate]
                omega
      · rintro σ H2 ⟨v6, v7, rfl, s2, s02, hnd, qs, h1, h2, h3, h5⟩
        have ezl : zs.length = T2.length := by rw [← g4, List.length_map]
        rw [List.length_map, ezl, List.take_of_length_le (Nat.le_refl _)] at h3 hnd
        have hW := whole_perm hn hg t hT hnd
        have hWl : n * (wholeOf T2).length = bs.length := by
          rw [← dev_length, hW.length_eq]
        have B : Bases K H2 n lw qs := ⟨hn, h60, SqL.of h1, h2, by rw [h3]; exact whole_good hn hg hT, by
          have e := congrArg List.length h3
          rw [List.length_map] at e
          rw [e, hWl]
          omega⟩
        refine ⟨_, rfl, _, rfl, n, lw, qs, rfl, B, fun a11 H14 s14' hf11 L11 => ?_⟩
        rw [h3] at L11
        refine ⟨a11, n, _, rfl, L11, by rw [hW.length_eq]; omega, fun a12 H15 ks s15 L12 pm12 srt12 => ?_⟩
        have s015 := s02.trans (s14'.trans s15)
        refine ⟨_, rfl, p, n, bs, rfl, L0.same s015, h1000, fun a13 H16 js s16 L13 pm13 srt13 => ?_⟩
        refine ⟨_, _, dp_lay (L12.same s16), dp_lay L13, shaped_lay _ _, shaped_lay _ _, ?_⟩
        rw [eqv_lay]
        exact ansT (sorted_unique srt12 srt13 (pm12.trans (hW.trans pm13.symm))) (q _ (s015.trans s16))
    · rw [decide_eq_false t]
      refine iteT ⟨_, rfl, _, rfl, p, lr, n, bs, rfl, L0.same s39, ?_, hn, by omega, hg, h1000, fun a7 H10 s10 L7 => ?_⟩
      · exact (s4.trans (s5.trans (s6.trans (s7.trans (s8.trans s9))))) _ _ hrow
      have hgt := map_good (n := n) (f := turn n 1) (fun b h => turn_good hn h) hg
      refine ⟨a7, n, _, rfl, L7, hn, by omega, hgt, by rw [List.length_map]; omega, fun a8 H11 s11 T8 => ?_⟩
      rcases T8 with ⟨_, k, h8⟩ | ⟨t8, _⟩
      · refine ⟨a8, _, _, _, rfl, rfl, SqT.of h8, at_of (j := 0) rfl rfl, rfl, ?_⟩
        exact ansT rfl (q _ (s39.trans (s10.trans s11)))
      · exact absurd ((trn_turned hn hg).mp t8) t
end
end K95

set_option Elab.async false
set_option linter.all false
set_option maxRecDepth 100000
set_option maxHeartbeats 1000000
namespace K95
open PySem PySem.Spec PyProof.Rows L2
/-- a statement whose ways meet again -/
theorem joint {a b : TS} {D : Ends} {σ : L2.St} {H : Hp} (J : L2.St → Hp → Prop) (h2 : ∀ σ' H', J σ' H' → b D σ' H') (h1 : (∀ σ' H', J σ' H' → b D σ' H') → tSeq a b D σ H) : tSeq a b D σ H := h1 h2
theorem rd_const {v : V} {i : Nat} {u : TS} {D : Ends} {σ : L2.St} {H : Hp} (h : u D (σ.set i (some v)) H) : tSeq (tAsg (tC v) (gName i)) u D σ H := h
theorem rd_put {te : TE} {i : Nat} {u : TS} {D : Ends} {σ : L2.St} {H : Hp} (h : te σ H fun x H1 => u D (σ.set i (some x)) H1) : tSeq (tAsg te (gName i)) u D σ H := h
theorem erase_ints : ∀ (ls : List Int) (j : Nat), (ls.map V.int).eraseIdx j = (ls.eraseIdx j).map V.int
  | [], _ => rfl
  | _ :: _, 0 => rfl
  | x :: ls, j + 1 => congrArg (V.int x :: ·) (erase_ints ls j)
theorem filter_good {n : Nat} (p : Int → Bool) : Good n ((pts n).filter p) :=
  ⟨(pts_rise n).sublist List.filter_sublist, fun x h => mem_pts.mp (List.mem_filter.mp h).1⟩
theorem sub_good {n : Nat} {b : List Int} (h : List.Sublist b (pts n)) : Good n b := ⟨(pts_rise n).sublist h, fun x m => mem_pts.mp (h.subset m)⟩
theorem rgV_pts (n : Nat) : rgV 0 (n : Int) = (pts n).map V.int := by
  unfold rgV pts
  have e : (((n : Int)) - 0).toNat = n := by omega
  rw [e, List.map_map]
  refine List.map_congr_left fun k _ => ?_
  show V.int (0 + (k : Int)) = V.int (k : Int)
  rw [Int.zero_add]
theorem cut_ints (ns : List Int) (lo hi : Option Int) : cutV (ns.map V.int) lo hi = ((ns.drop (HT.sIx ns.length 0 lo)).take (HT.sIx ns.length ns.length hi - HT.sIx ns.length 0 lo)).map V.int := by
  unfold cutV
  rw [List.length_map, List.map_take, List.map_drop]
section
variable {P : Program} {w : World} {K : PySem.W.Frag} {mg : Str → Option Value} {base : Heap} {f : Addr} {fd : FuncData}
/-! ### _law_cell -/
abbrev nCell : List Str := ["_law_script", "_law_k", "_law_state", "_law_cell_here"]
theorem scCell : FnScope nCell ["_law_script", "_law_k"] (defScope sCell) := ⟨rfl, rfl, rfl, by decide +kernel, rfl, by decide +kernel, by decide +kernel⟩
def spCell (K : PySem.W.Frag) : Sp := fun vs H Q _ => ∃ (a : Addr) (ns : List Int) (k : Nat), vs = [.ref a, .int (k : Int)] ∧ SqL K H a (ns.map V.int) ∧ k ≤ 1000 ∧ ∀ (x : Int) (H' : Hp), Same H H' → Q (.int x) H'
theorem ok_cell (F : FnP K "_law_cell" sCell f fd) (T : Txt mg) : FnOk P w K mg base CX0 1 f fd ["_law_script", "_law_k"] (spCell K) := by
  refine okN F scCell (fun vs H Q E h => ?_) (fun cdv A outer s H vs Q E hr h => ?_)
  · obtain ⟨a, ns, k, rfl, _⟩ := h
    rfl
  · obtain ⟨a, ns, k, rfl, ha, hk, q⟩ := h
    refine ⟨_, pss_cons (ps_if (pt_cmpR op_lt (pv 1) (pe_callB call_len_seq (by rfl) T.len PySem.boot_len (pa_cons (pv 0) pa_nil)) (nomark _)) (pss_one (ps_ret (pe_ix ix_list (pv 0) (pv 1) (fun _ _ => rfl)))) pss_nil)
      (pss_cons (ps_set (i := 2) scCell.nd rfl (Or.inl rfl) (pe_op op_mod (pe_op op_mul pe_int (pe_op op_add (pe_op op_add (pe_op op_mul (pv 1) (pv 1)) (pe_op op_mul pe_int (pv 1))) pe_int)) pe_int))
      (pss_cons (ps_for PassesOwn.never rfl (pi_list (pe_slice sl_list (pv 0) po_none (po_some pe_int))) (pg_name (i := 3) scCell.nd rfl (Or.inl rfl)) (pss_one (ps_set (i := 2) scCell.nd rfl (Or.inl rfl) (pe_op op_mod (pe_op op_add (pe_op op_mul (pv 2) pe_int) (pv 3)) pe_int))))
      (pss_one (ps_ret (pv 2))))), ?_⟩
    refine ⟨_, rfl, _, rfl, a, _, rfl, .inl ha, _, _, rfl, rfl, _, rfl, ite2 (fun c => ?_) fun c => ?_⟩
    · have c' : (k : Int) < ((ns.map V.int).length : Int) := of_decide_eq_true c
      rw [List.length_map] at c'
      have hk' : k < ns.length := by omega
      exact ⟨_, rfl, _, rfl, a, _, _, _, rfl, rfl, ha, at_of (j := k) rfl (by rw [List.getElem?_map, List.getElem?_eq_getElem hk']; rfl), q _ H (Same.refl H)⟩
    · refine ⟨_, rfl, _, rfl, _, _, rfl, rfl, .inl ⟨by omega, by omega⟩, _, rfl, _, _, rfl, rfl, .inl ⟨by decide, by decide⟩, _, _, rfl, rfl, _, _, rfl, rfl, _, _, rfl, rfl, .inl ⟨by decide, by decide⟩, _, _, rfl, rfl, (show (0:Int) < 2147483647 by decide), ?_⟩
      refine ⟨_, rfl, _, rfl, a, _, rfl, ha, fun l hl => ⟨l, rfl, ⟨_, SqL.of upd_same⟩, ?_⟩⟩
      rw [cut_ints]
      have s1 := same_new (o := .lst (((ns.drop (HT.sIx ns.length 0 none)).take (HT.sIx ns.length ns.length (some 3) - HT.sIx ns.length 0 none)).map V.int)) hl
      refine for_list (K := K) (a := l) (xs := ((ns.drop (HT.sIx ns.length 0 none)).take (HT.sIx ns.length ns.length (some 3) - HT.sIx ns.length 0 none)).map V.int) (fun i σ H2 => ∃ (st : Int) (v : Option V), σ = [some (.ref a), some (.int (k : Int)), some (.int st), v] ∧ H2 = upd H l (.lst (((ns.drop (HT.sIx ns.length 0 none)).take (HT.sIx ns.length ns.length (some 3) - HT.sIx ns.length 0 none)).map V.int)))
        ⟨_, none, rfl, rfl⟩ (fun i σ H2 _ ⟨_, _, _, e⟩ => (by rw [e]; exact SqL.of upd_same)) ?_ ?_
      · rintro i y σ H2 hi ⟨st, v, rfl, rfl⟩
        obtain ⟨x, _, rfl⟩ := int_at hi
        exact ⟨_, rfl, _, _, rfl, rfl, .inr ⟨by decide, by decide⟩, _, rfl, _, _, rfl, rfl, _, _, rfl, rfl, (show (0:Int) < 2147483647 by decide), _, _, rfl, rfl⟩
      · rintro σ H2 ⟨st, v, rfl, rfl⟩
        exact ⟨_, rfl, q st _ s1⟩
/-! ### _law_numbers -/
abbrev nNum : List Str := ["_law_cell_here", "_law_many", "_law_found", "_law_state", "_law_digits", "_law_k"]
theorem scNum : FnScope nNum ["_law_cell_here", "_law_many"] (defScope sNumbers) := ⟨rfl, rfl, rfl, by decide +kernel, rfl, by decide +kernel, by decide +kernel⟩
def spNum : Sp := fun vs H Q _ => ∃ (z : Int) (m : Nat), vs = [.int z, .int (m : Int)] ∧ m ≤ 1000 ∧ ∀ (l : Addr) (H' : Hp) (ns : List Int), Same H H' → H l = none → Lb H' l ns → ns.length = m → (∀ x ∈ ns, 0 ≤ x ∧ x < 2000000000) → Q (.ref l) H'
theorem ok_num (F : FnP K "_law_numbers" sNumbers f fd) (T : Txt mg) : FnOk P w K mg base CX0 1 f fd ["_law_cell_here", "_law_many"] spNum := by
  refine okN F scNum (fun vs H Q E h => ?_) (fun cdv A outer s H vs Q E hr h => ?_)
  · obtain ⟨z, m, rfl, _⟩ := h
    rfl
  · obtain ⟨z, m, rfl, hm, q⟩ := h
    refine ⟨_, pss_cons (ps_set (i := 2) scNum.nd rfl (Or.inl rfl) (pe_lst pa_nil))
      (pss_cons (ps_set (i := 3) scNum.nd rfl (Or.inl rfl) (pe_op op_mod (pe_op op_mul (pe_op op_add (pe_op op_mod (pv 0) pe_int) pe_int) pe_int) pe_int))
      (pss_cons (ps_set (i := 4) scNum.nd rfl (Or.inl rfl) pe_int)
      (pss_cons (ps_if (PW.pt (pw_or (pt_cmpR op_lt (pv 0) pe_int (nomark _)) (pw_or1 (pt_cmpR op_ge (pv 0) (pe_op op_pow pe_int pe_int) (nomark _))))) (pss_one (ps_set (i := 4) scNum.nd rfl (Or.inl rfl) (pe_callB call_abs (by rfl) T.abs boot_abs (pa_cons (pv 0) pa_nil)))) pss_nil)
      (pss_cons (ps_for PassesOwn.never rfl (pi_range1 (by rfl) T.range (pa_cons (pv 1) pa_nil)) (pg_name (i := 5) scNum.nd rfl (Or.inl rfl))
        (pss_cons (ps_set (i := 3) scNum.nd rfl (Or.inl rfl) (pe_op op_mod (pe_op op_add (pe_op op_add (pe_op op_mul (pv 3) (pe_op op_add (pe_op op_mod (pv 3) pe_int) pe_int)) (pe_op op_mul pe_int (pv 5))) pe_int) pe_int))
        (pss_cons (ps_expr (pe_bm PySem.F.plainAttrs_list PySem.F.slot_list_append PySem.F.type_list_append mt_append (pv 2) (pa_cons (pe_ix ix_list (pe_lst (pa_cons (pv 3) (pa_cons (pe_op op_mod (pv 4) pe_int) pa_nil))) (pe_callTy call_int1 (by rfl) T.int boot_int (pa_cons (pe_cmpR op_gt (pv 4) pe_int (nomark _)) pa_nil)) (fun _ _ => rfl)) pa_nil)))
        (pss_one (ps_set (i := 4) scNum.nd rfl (Or.inl rfl) (pe_op op_fdiv (pv 4) pe_int))))))
      (pss_one (ps_ret (pv 2))))))), ?_⟩
    refine rd_put ⟨small_line (Nat.zero_le _), fun l hl => ?_⟩
    have hl0 : H l = none := hl
    refine rd_put ⟨_, rfl, _, _, rfl, rfl, (show (0:Int) < 1999999973 by decide), _, _, rfl, rfl, _, _, rfl, rfl, .inr ⟨by decide, by decide⟩, _, _, rfl, rfl, (show (0:Int) < 1999999973 by decide), ?_⟩
    have b0 : 0 ≤ (z % 1999999973 + 31) * 765432101 % 1999999973 := Int.emod_nonneg _ (by decide)
    have b1 : (z % 1999999973 + 31) * 765432101 % 1999999973 < 1999999973 := Int.emod_lt_of_pos _ (by decide)
    dsimp only
    generalize (z % 1999999973 + 31) * 765432101 % 1999999973 = st0 at b0 b1 ⊢
    refine rd_const (joint (fun σ' H' => ∃ d : Int, 0 ≤ d ∧ σ' = [some (.int z), some (.int (m : Int)), some (.ref l), some (.int st0), some (.int d), none] ∧ H' = upd H l (.lst [])) ?_ fun J => ?_)
    · rintro σ' H' ⟨d, hd, rfl, rfl⟩
      refine ⟨_, rfl, _, rfl, by omega, by omega, ?_⟩
      refine for_range (lo := 0) (n := ((m : Int)).toNat) (fun i σ H2 => ∃ (st d : Int) (ns : List Int) (v : Option V), σ = [some (.int z), some (.int (m : Int)), some (.ref l), some (.int st), some (.int d), v] ∧ Same H H2 ∧ Lb H2 l ns ∧ ns.length = i ∧ (∀ x ∈ ns, 0 ≤ x ∧ x < 2000000000) ∧ 0 ≤ d ∧ 0 ≤ st ∧ st < 1999999973)
        ⟨st0, d, [], none, rfl, same_new hl, upd_same, rfl, (fun x h => nomatch h), hd, b0, b1⟩ ?_ ?_
      · rintro i σ H2 hi ⟨st, d, ns, v, rfl, s2, h2, hlen, hb, hd, c0, c1⟩
        have e : (0 : Int) + (i : Int) = (i : Int) := Int.zero_add _
        rw [e]
        refine ⟨_, rfl, _, rfl, _, _, rfl, rfl, (show (0:Int) < 65521 by decide), _, _, rfl, rfl, _, _, rfl, rfl, .inl ⟨by omega, by omega⟩, _, rfl, _, _, rfl, rfl, .inl ⟨by decide, by decide⟩, _, _, rfl, rfl, _, _, rfl, rfl, _, _, rfl, rfl, (show (0:Int) < 1999999973 by decide), ?_⟩
        have b0 : 0 ≤ (st * (st % 65521 + 40487) + 7 * (i : Int) + 5) % 1999999973 := Int.emod_nonneg _ (by decide)
        have b1 : (st * (st % 65521 + 40487) + 7 * (i : Int) + 5) % 1999999973 < 1999999973 := Int.emod_lt_of_pos _ (by decide)
        dsimp only
        generalize (st * (st % 65521 + 40487) + 7 * (i : Int) + 5) % 1999999973 = st1 at b0 b1 ⊢
        have d0 : 0 ≤ d % 1000000 := Int.emod_nonneg _ (by decide)
        have d1 : d % 1000000 < 1000000 := Int.emod_lt_of_pos _ (by decide)
        refine ⟨_, rfl, .inl ⟨rfl, _, SqL.of h2⟩, _, rfl, _, rfl, _, _, rfl, rfl, (show (0:Int) < 1000000 by decide), by show 2 ≤ sizeLine; decide, fun p hp => ?_⟩
        have s3 := sNew s2 (o := .lst [.int st1, .int (d % 1000000)]) hp
        have h3 : (upd H2 p (.lst [.int st1, .int (d % 1000000)])) l = some (.lst (ns.map V.int)) := by rw [upd_ne (ne_of_none h2 hp)]; exact h2
        refine ⟨_, rfl, _, _, rfl, rfl, .inr ⟨_, rfl, ?_⟩⟩
        obtain ⟨y, hy, y0, y1⟩ : ∃ y : Int, atI [V.int st1, V.int (d % 1000000)] (if decide ((0 : Int) < d) = true then 1 else 0) = some (V.int y) ∧ 0 ≤ y ∧ y < 2000000000 := by
          by_cases c : (0 : Int) < d
          · rw [decide_eq_true c]
            exact ⟨d % 1000000, at_of (j := 1) rfl rfl, d0, by omega⟩
          · rw [decide_eq_false c]
            exact ⟨st1, at_of (j := 0) rfl rfl, b0, by omega⟩
        refine ⟨p, _, _, _, rfl, rfl, SqL.of upd_same, hy, l, _, _, rfl, rfl, h3, ?_, ?_⟩
        · rw [List.length_map]
          exact small1000 (by omega)
        · refine ⟨_, rfl, _, _, rfl, rfl, ⟨by decide, by decide⟩, st1, d / 1000000, ns ++ [y], _, rfl, sOwn s3 hl0, ?_, ?_, fun x hx => ?_, Int.ediv_nonneg hd (by decide), b0, b1⟩
          · show upd _ l _ l = _
            rw [upd_same, List.map_append]
            rfl
          · rw [List.length_append, hlen]
            rfl
          · rcases List.mem_append.mp hx with hx | hx
            · exact hb x hx
            · rw [List.mem_singleton.mp hx]
              exact ⟨y0, y1⟩
      · rintro σ H2 ⟨st, d, ns, v, rfl, s2, h2, hlen, hb, hd, c0, c1⟩
        exact ⟨_, rfl, q l H2 ns s2 hl0 h2 (by omega) hb⟩
    · refine ⟨_, rfl, _, _, rfl, rfl, _, rfl, ite2 (fun c => ?_) fun c => ?_⟩
      · exact ⟨_, rfl, _, rfl, J _ _ ⟨if z < 0 then -z else z, by split <;> omega, rfl, rfl⟩⟩
      · refine ⟨_, rfl, _, _, rfl, rfl, ⟨by decide, by decide, by decide⟩, _, _, rfl, rfl, _, rfl, ite2 (fun c => ?_) fun c => ?_⟩
        · exact ⟨_, rfl, _, rfl, J _ _ ⟨if z < 0 then -z else z, by split <;> omega, rfl, rfl⟩⟩
        · exact J _ _ ⟨0, Int.le_refl 0, rfl, rfl⟩
/-! ### _law_mask -/
abbrev nMask : List Str := ["_law_x", "_law_many", "_law_point"]
theorem scMask : FnScope nMask ["_law_x", "_law_many"] (defScope sMask) := ⟨rfl, rfl, rfl, by decide +kernel, rfl, by decide +kernel, by decide +kernel⟩
def spMask : Sp := fun vs H Q _ => ∃ (x : Int) (n : Nat), vs = [.int x, .int (n : Int)] ∧ n ≤ 1000 ∧ ∀ (t : Addr) (H' : Hp) (b : List Int), Same H H' → H t = none → Tb H' t b → Good n b → Q (.ref t) H'
theorem ok_mask (F : FnP K "_law_mask" sMask f fd) (T : Txt mg) : FnOk P w K mg base CX0 1 f fd ["_law_x", "_law_many"] spMask := by
  refine okN F scMask (fun vs H Q E h => ?_) (fun cdv A outer s H vs Q E hr h => ?_)
  · obtain ⟨x, n, rfl, _⟩ := h
    rfl
  · obtain ⟨x, n, rfl, hn, q⟩ := h
    refine ⟨_, pss_one (ps_ret (pe_callTy (r := rTupOf K) call_tuple_of (by rfl) T.tuple boot_tuple (pa_cons (pe_lc (own := [("_law_point", 2)]) (g := gName 2) rfl scMask.nd (pi_range1 (by rfl) T.range (pa_cons (pv 1) pa_nil)) (blkOk_by (N := nMask) (sc := defScope sMask) (by decide +kernel))
      (fun _ _ _ _ _ => pg_name (i := 2) scMask.nd rfl (Or.inl rfl)) (fun _ _ _ _ _ => pts_one (pt_cmpR op_eq (pe_op op_and (pe_op op_shr (pv 0) (pv 2)) pe_int) pe_int (nomark _))) (fun _ _ _ _ _ => pv 2)) pa_nil))), ?_⟩
    refine rd_tupOf (b := (pts n).filter fun i => decide (V.int (Builtin.bitAnd (x / 2 ^ i.toNat) 1) = V.int 1)) (fun {R2} hR2 => ?_) fun t H3 s3 h0 ht => q t H3 _ s3 h0 ht (filter_good _)
    refine rd_filtR (n := n) (by show 2 < 3; decide) (fun {R'} h => ⟨_, rfl, h⟩) hn (fun i hi H3 R3 s3 h3 => ?_) fun D2 H3 s3 h0 hD2 => hR2 D2 H3 s3 hD2
    exact ⟨_, rfl, _, rfl, _, _, rfl, rfl, by show (0:Int) ≤ (i:Int); omega, _, _, rfl, rfl, rfl, _, rfl, h3⟩
/-! ### _law_of_size -/
abbrev nSize : List Str := ["_law_x", "_law_many", "_law_size", "_law_left"]
theorem scSize : FnScope nSize ["_law_x", "_law_many", "_law_size"] (defScope sOfSize) := ⟨rfl, rfl, rfl, by decide +kernel, rfl, by decide +kernel, by decide +kernel⟩
def spSize : Sp := fun vs H Q _ => ∃ (x : Int) (n : Nat) (z : Int), vs = [.int x, .int (n : Int), .int z] ∧ n ≤ 1000 ∧ 0 ≤ z ∧ ∀ (t : Addr) (H' : Hp) (b : List Int), Same H H' → H t = none → Tb H' t b → Good n b → Q (.ref t) H'
theorem ok_size (F : FnP K "_law_of_size" sOfSize f fd) (T : Txt mg) : FnOk P w K mg base CX0 1 f fd ["_law_x", "_law_many", "_law_size"] spSize := by
  refine okN F scSize (fun vs H Q E h => ?_) (fun cdv A outer s H vs Q E hr h => ?_)
  · obtain ⟨x, n, z, rfl, _⟩ := h
    rfl
  · obtain ⟨x, n, z, rfl, hn, hz, q⟩ := h
    refine ⟨_, pss_cons (ps_set (i := 3) scSize.nd rfl (Or.inl rfl) (pe_listRg rfl (by rfl) T.list (prg_1 (by rfl) T.range (pv 1))))
      (pss_cons (ps_while PassesOwn.never (pt_cmpR op_gt (pe_callB call_len_seq (by rfl) T.len PySem.boot_len (pa_cons (pv 3) pa_nil)) (pv 2) (nomark _))
        (pss_cons (ps_expr (pe_bm PySem.F.plainAttrs_list PySem.F.slot_list_pop PySem.F.type_list_pop mt_popAt (pv 3) (pa_cons (pe_op op_mod (pv 0) (pe_callB call_len_seq (by rfl) T.len PySem.boot_len (pa_cons (pv 3) pa_nil))) pa_nil)))
        (pss_one (ps_set (i := 0) scSize.nd rfl (Or.inl rfl) (pe_op op_add (pe_op op_fdiv (pv 0) pe_int) pe_int)))))
      (pss_one (ps_ret (pe_callTy (r := rTupOf K) call_tuple_of (by rfl) T.tuple boot_tuple (pa_cons (pv 3) pa_nil))))), ?_⟩
    refine ⟨_, rfl, _, rfl, RgOk.of_le (by decide) (by omega) (by decide) (by omega), fun l hl => ?_⟩
    rw [rgV_pts]
    have hl0 : H l = none := hl
    refine ⟨fun m σ H2 => ∃ (x2 : Int) (ls : List Int), σ = [some (.int x2), some (.int (n : Int)), some (.int z), some (.ref l)] ∧ Same H H2 ∧ Lb H2 l ls ∧ List.Sublist ls (pts n) ∧ ls.length = m, ⟨_, x, pts n, rfl, same_new hl, upd_same, List.Sublist.refl _, rfl⟩, ?_⟩
    rintro m σ H2 ⟨x2, ls, rfl, s2, h2, sub, rfl⟩
    refine ⟨_, rfl, l, _, rfl, .inl (SqL.of h2), _, rfl, _, _, rfl, rfl, _, rfl, ite2 (fun c => ?_) fun c => ?_⟩
    · have c' : z < ((ls.map V.int).length : Int) := of_decide_eq_true c
      rw [List.length_map] at c'
      have hlen : ls.length ≤ 1000 := Nat.le_trans sub.length_le (by rw [pts_length]; exact hn)
      have b0 : 0 ≤ x2 % (ls.length : Int) := Int.emod_nonneg _ (by omega)
      have b1 : x2 % (ls.length : Int) < (ls.length : Int) := Int.emod_lt_of_pos _ (by omega)
      refine ⟨fun σ' H' => ∃ (x2 : Int) (ls' : List Int), σ' = [some (.int x2), some (.int (n : Int)), some (.int z), some (.ref l)] ∧ Same H H' ∧ Lb H' l ls' ∧ List.Sublist ls' (pts n) ∧ ls'.length + 1 = ls.length, fun σ' H' ⟨x3, ls', e1, e2, e3, e4, e5⟩ => ⟨ls'.length, by omega, x3, ls', e1, e2, e3, e4, rfl⟩, ?_⟩
      refine ⟨_, rfl, .inl ⟨rfl, _, SqL.of h2⟩, _, rfl, _, rfl, l, _, rfl, .inl (SqL.of h2), _, _, rfl, rfl, ?_, ?_⟩
      · show (0 : Int) < ((ls.map V.int).length : Int)
        rw [List.length_map]
        omega
      · rw [List.length_map]
        obtain ⟨j, hj⟩ : ∃ j : Nat, (x2 % (ls.length : Int)) = (j : Int) := ⟨(x2 % (ls.length : Int)).toNat, by omega⟩
        have hj1 : j < ls.length := by omega
        refine ⟨l, _, _, j, V.int (ls[j]'hj1), rfl, rfl, h2, by omega, by omega, ?_, ?_, ?_⟩
        · rw [hj, List.length_map]
          exact seqIndex_of (by omega) (by omega)
        · rw [List.getElem?_map, List.getElem?_eq_getElem hj1]
          rfl
        · refine ⟨_, rfl, _, _, rfl, rfl, ⟨by decide, by decide⟩, _, _, rfl, rfl, _, ls.eraseIdx j, rfl, sOwn s2 hl0, ?_, (List.eraseIdx_sublist ls j).trans sub, ?_⟩
          · show upd H2 l _ l = _
            rw [upd_same, erase_ints]
          · rw [List.length_eraseIdx]
            simp only [hj1, if_true]
            omega
    · exact ⟨_, rfl, l, _, rfl, .inl ⟨SqL.of h2, fun t ht => q t _ ls (sNew s2 ht) (s2.free ht) upd_same (sub_good sub)⟩⟩
end
end K95

set_option Elab.async false
set_option linter.all false
set_option maxRecDepth 100000
set_option maxHeartbeats 1000000
namespace K95
open PySem PySem.Spec PyProof.Rows L2
theorem rd_cb {r : List V → Hp → VK → Prop} {tl : TE} {σ : L2.St} {H : Hp} {Q : VK} (h : tl σ H fun x H1 => r [x] H1 Q) : tCB r (tCons tl tNil) σ H Q := h
/-! ### more comprehensions -/
section
variable {K : PySem.W.Frag} {σ : L2.St} {H : Hp} {te : TE} {j : Nat}
/-- [an int of p for p in a new list of tuples] -/
theorem rd_intsP {tl : TE} {g : Addr × List Int → Int} {A : List (Addr × List Int) → Prop} {Q : VK}
    (hl : ∀ {R : VK}, (∀ (a : Addr) (H1 : Hp) (ps : List (Addr × List Int)), Same H H1 → SqL K H1 a (refs ps) → AllT H1 ps → A ps → ps.length ≤ 1000 → R (.ref a) H1) → tl σ H R)
    (he : ∀ (ps : List (Addr × List Int)) (p : Addr × List Int) (H' : Hp) (R : VK), A ps → p ∈ ps → Tb H' p.1 p.2 → R (.int (g p)) H' → te ((wipe σ [j]).set j (some (.ref p.1))) H' R)
    (q : ∀ (D : Addr) (H' : Hp) (ps : List (Addr × List Int)), Same H H' → H D = none → A ps → Lb H' D (ps.map g) → Q (.ref D) H') : tLc (iList K tl) (gName j) tYes te [j] σ H Q := by
  refine hl fun a H1 ps s1 ha ht hA hz => ⟨a, rfl, ⟨_, ha⟩, fun D hD => lc_list (K := K) (a := a) (xs := refs ps) (fun i H' => Same H1 H' ∧ Lb H' D ((ps.take i).map g)) ⟨same_new hD, upd_same⟩ (fun i H' _ p => p.1.seq ha) ?_ ?_⟩
  · rintro i y H2 hi ⟨s2, hD2⟩
    obtain ⟨z, hz', rfl⟩ := ref_at hi
    have hlt := (List.getElem?_eq_some_iff.mp hz').1
    have mz := List.mem_of_getElem? hz'
    refine ⟨wipe_one σ j _, he ps z H2 _ hA mz (s2 _ _ (ht z mz)) ⟨_, hD2, ?_, sOwn s2 hD, ?_⟩⟩
    · rw [List.length_map, List.length_map, List.length_take]
      exact small1000 (by omega)
    · show upd H2 D _ D = _
      rw [upd_same, List.take_succ, hz', Option.toList_some, List.map_append, List.map_append]
      rfl
  · rintro H2 ⟨s2, hD2⟩
    rw [List.length_map, List.take_length] at hD2
    exact q D H2 ps (s1.trans s2) (s1.free hD) hA hD2
/-- [an int of i for i in range(n)] -/
theorem rd_intsR {ta : TA} {n : Nat} {g : Nat → Int} {Q : VK} (hl : ∀ {R : List V → Hp → Prop}, R [.int (n : Int)] H → ta σ H R) (hz : n ≤ 1000)
    (he : ∀ i, i < n → ∀ (H' : Hp) (R : VK), Same H H' → R (.int (g i)) H' → te ((wipe σ [j]).set j (some (.int (i : Int)))) H' R)
    (q : ∀ (D : Addr) (H' : Hp), Same H H' → H D = none → Lb H' D ((List.range n).map g) → Q (.ref D) H') : tLc (iRng1 ta) (gName j) tYes te [j] σ H Q := by
  refine hl ⟨_, rfl, by omega, by omega, fun D hD => lc_range (lo := 0) (n := ((n : Int)).toNat) (fun i H' => Same H H' ∧ Lb H' D ((List.range i).map g)) ⟨same_new hD, upd_same⟩ ?_ ?_⟩
  · rintro i H2 hi ⟨s2, hD2⟩
    refine ⟨wipe_one σ j _, ?_⟩
    have e : (0 : Int) + (i : Int) = (i : Int) := Int.zero_add _
    rw [e]
    refine he i (by omega) H2 _ s2 ⟨_, hD2, ?_, sOwn s2 hD, ?_⟩
    · rw [List.length_map, List.length_map, List.length_range]
      exact small1000 (by omega)
    · show upd H2 D _ D = _
      rw [upd_same, List.range_succ, List.map_append, List.map_append]
      rfl
  · rintro H2 ⟨s2, hD2⟩
    have e : ((n : Int)).toNat = n := by omega
    rw [e] at hD2
    exact q D H2 s2 hD hD2
/-- [a block of i for i in range(n) if ..] -/
theorem rd_blksRF {ta : TA} {tt : TT} {n : Nat} {G : List Int → Prop} {Q : VK} (hl : ∀ {R : List V → Hp → Prop}, R [.int (n : Int)] H → ta σ H R) (hz : n ≤ 1000)
    (ht : ∀ i, i < n → ∀ (H' : Hp) (R : Bool → Hp → Prop), Same H H' → (∀ (b : Bool) (H'' : Hp), Same H' H'' → R b H'') → tt ((wipe σ [j]).set j (some (.int (i : Int)))) H' R)
    (he : ∀ (i : Nat), i < n → ∀ (H' : Hp) (R : VK), Same H H' → (∀ (t : Addr) (b : List Int) (H'' : Hp), Same H' H'' → Tb H'' t b → G b → R (.ref t) H'') → te ((wipe σ [j]).set j (some (.int (i : Int)))) H' R)
    (q : ∀ (D : Addr) (H' : Hp) (ps : List (Addr × List Int)), Same H H' → H D = none → H' D = some (.lst (refs ps)) → AllT H' ps → ps.length ≤ n → (∀ p ∈ ps, G p.2) → Q (.ref D) H') :
    tLc (iRng1 ta) (gName j) tt te [j] σ H Q := by
  refine hl ⟨_, rfl, by omega, by omega, fun D hD => lc_range (lo := 0) (n := ((n : Int)).toNat) (fun i H' => Same H H' ∧ ∃ ps : List (Addr × List Int), H' D = some (.lst (refs ps)) ∧ AllT H' ps ∧ ps.length ≤ i ∧ ∀ p ∈ ps, G p.2) ⟨same_new hD, [], upd_same, AllT.nil, Nat.zero_le _, fun _ h => nomatch h⟩ ?_ ?_⟩
  · rintro i H2 hi ⟨s2, ps, h1, h2, h3, h4⟩
    refine ⟨wipe_one σ j _, ?_⟩
    have e : (0 : Int) + (i : Int) = (i : Int) := Int.zero_add _
    rw [e]
    refine ht i (by omega) H2 _ s2 fun b H3 s3 => ?_
    cases b with
    | false => exact ⟨s2.trans s3, ps, s3 _ _ h1, h2.same s3, by omega, h4⟩
    | true =>
      refine he i (by omega) H3 _ (s2.trans s3) fun t b H4 s4 hb hG => ?_
      have s34 := s3.trans s4
      have hD4 := s34 _ _ h1
      refine ⟨_, hD4, ?_, sOwn (s2.trans s34) hD, ps ++ [(t, b)], ?_, ?_, ?_, fun p m => ?_⟩
      · rw [List.length_map]
        exact small1000 (by omega)
      · rw [upd_same]
        show _ = some (HO.lst ((ps ++ [(t, b)]).map fun p => V.ref p.1))
        rw [List.map_append]
        rfl
      · exact allT_upd ((h2.same s34).snoc (p := (t, b)) hb) hD4
      · rw [List.length_append]
        show ps.length + 1 ≤ i + 1
        omega
      · rcases List.mem_append.mp m with m | m
        · exact h4 p m
        · rw [List.mem_singleton.mp m]
          exact hG
  · rintro H2 ⟨s2, ps, h1, h2, h3, h4⟩
    exact q D H2 ps s2 hD h1 h2 (by omega) h4
end
section
variable {P : Program} {w : World} {K : PySem.W.Frag} {mg : Str → Option Value} {base : Heap} {f : Addr} {fd : FuncData}
/-! ### _law_row -/
abbrev nRow : List Str := ["_law_xs", "_law_many", "_law_pair", "_law_k"]
theorem scRow : FnScope nRow ["_law_xs", "_law_many"] (defScope sRow) := ⟨rfl, rfl, rfl, by decide +kernel, rfl, by decide +kernel, by decide +kernel⟩
def spRow (K : PySem.W.Frag) : Sp := fun vs H Q _ => ∃ (a : Addr) (ns : List Int) (m : Nat), vs = [.ref a, .int (m : Int)] ∧ SqL K H a (ns.map V.int) ∧ m ≤ ns.length ∧ m ≤ 1000 ∧ ∀ (D : Addr) (H' : Hp) (rs : List Int), Same H H' → H D = none → Lb H' D rs → rs.Perm (pts m) → Q (.ref D) H'
theorem ok_row (F : FnP K "_law_row" sRow f fd) (T : Txt mg) : FnOk P w K mg base CX0 1 f fd ["_law_xs", "_law_many"] (spRow K) := by
  refine okN F scRow (fun vs H Q E h => ?_) (fun cdv A outer s H vs Q E hr h => ?_)
  · obtain ⟨a, ns, m, rfl, _⟩ := h
    rfl
  · obtain ⟨a, ns, m, rfl, ha, hm, h1000, q⟩ := h
    refine ⟨_, pss_one (ps_ret (pe_lc (own := [("_law_pair", 2)]) (g := gName 2) (tt := tYes) rfl scRow.nd (pi_list (pe_callB (cr_sortB hr.units) (by rfl) T.sorted boot_sorted (pa_cons
        (pe_lc (own := [("_law_k", 3)]) (g := gName 3) (tt := tYes) rfl scRow.nd (pi_range1 (by rfl) T.range (pa_cons (pv 1) pa_nil)) (blkOk_by (N := nRow) (sc := defScope sRow) (by decide +kernel))
          (fun _ _ _ _ _ => pg_name (i := 3) scRow.nd rfl (Or.inl rfl)) (fun _ _ _ _ _ => pts_nil) (fun _ _ _ _ _ => pe_tup (pa_cons (pe_ix (r := rIxL K) ix_list (pv 0) (pv 3) (fun _ _ => rfl)) (pa_cons (pv 3) pa_nil)))) pa_nil)))
      (blkOk_by (N := nRow) (sc := defScope sRow) (by decide +kernel)) (fun _ _ _ _ _ => pg_name (i := 2) scRow.nd rfl (Or.inl rfl)) (fun _ _ _ _ _ => pts_nil) (fun _ _ _ _ _ => pe_ix (r := rIxT K) ix_tup (pv 2) pe_int (fun _ _ => rfl)))), ?_⟩
    refine rd_intsP (g := fun p => p.2.getD 1 0) (A := fun ps => (ps.map fun p => p.2.getD 1 0).Perm (pts m) ∧ ∀ p ∈ ps, p.2.length = 2) (fun {R} hR => ?_) (fun ps p H' R hA mp hp h => ?_) fun D H' ps s' h0 hA hD => q D H' _ s' h0 hD hA.1
    · refine rd_cb (rd_blksR (n := m) (Rl := fun k c => c = [ns.getD k 0, (k : Int)]) (fun {R} h => ⟨_, rfl, h⟩) h1000 (fun k hk H2 R s2 h => ?_) fun D H2 ps s2 hD h1 h2 h3 h4 => ?_)
      · have hk' : k < ns.length := by omega
        refine ⟨_, rfl, _, rfl, a, _, _, V.int (ns.getD k 0), rfl, rfl, s2.seq ha, at_of (j := k) rfl ?_, _, rfl, by show 2 ≤ sizeLine; decide, fun t ht => h t _ _ (same_new ht) upd_same rfl⟩
        rw [List.getElem?_map, List.getElem?_eq_getElem hk', List.getD_eq_getElem?_getD, List.getElem?_eq_getElem hk']
        rfl
      · have hm2 := map_of_at (F := fun k => [ns.getD k 0, (k : Int)]) h3 h4
        refine ⟨D, ps, rfl, .inl (SqL.of h1), h2.B, fun ps' l pm _ hl => hR l _ ps' (sNew s2 hl) (SqL.of upd_same) ((h2.perm pm).same (same_new hl)) ⟨?_, fun p mp => ?_⟩ (by rw [pm.length_eq, h3]; exact h1000)⟩
        · refine (pm.map _).trans ?_
          have e : (ps.map fun p => p.2.getD 1 0) = (ps.map (·.2)).map fun b => b.getD 1 0 := by rw [List.map_map]; rfl
          rw [e, hm2, List.map_map]
          exact List.Perm.refl _
        · have mp' := pm.mem_iff.mp mp
          have m2 : p.2 ∈ ps.map (·.2) := List.mem_map.mpr ⟨p, mp', rfl⟩
          rw [hm2] at m2
          obtain ⟨k, _, e⟩ := List.mem_map.mp m2
          rw [← e]
          rfl
    · have h2 := hA.2 p mp
      refine ⟨_, rfl, p.1, _, _, V.int (p.2.getD 1 0), rfl, rfl, SqT.of hp, at_of (j := 1) rfl ?_, h⟩
      have hk' : 1 < p.2.length := by omega
      rw [List.getElem?_map, List.getElem?_eq_getElem hk', List.getD_eq_getElem?_getD, List.getElem?_eq_getElem hk']
      rfl
/-! ### _law_all_sets -/
abbrev nSets : List Str := ["_law_many", "_law_size", "_law_x"]
theorem scSets : FnScope nSets ["_law_many", "_law_size"] (defScope sAllSets) := ⟨rfl, rfl, rfl, by decide +kernel, rfl, by decide +kernel, by decide +kernel⟩
def spSets : Sp := fun vs H Q _ => ∃ (n : Nat) (z : Int), vs = [.int (n : Int), .int z] ∧ n ≤ 5 ∧ ∀ (D : Addr) (H' : Hp) (ps : List (Addr × List Int)), Same H H' → H D = none → H' D = some (.lst (refs ps)) → AllT H' ps → ps.length ≤ 32 → AllGood n (ps.map (·.2)) → Q (.ref D) H'
theorem ok_sets (F : FnP K "_law_all_sets" sAllSets f fd) (T : Txt mg) (CM : Cal P w K mg base 1 "_law_mask" ["_law_x", "_law_many"] spMask) : FnOk P w K mg base CX0 2 f fd ["_law_many", "_law_size"] spSets := by
  refine okN F scSets (fun vs H Q E h => ?_) (fun cdv A outer s H vs Q E hr h => ?_)
  · obtain ⟨n, z, rfl, _⟩ := h
    rfl
  · obtain ⟨n, z, rfl, hn, q⟩ := h
    refine ⟨_, pss_one (ps_ret (pe_lc (own := [("_law_x", 2)]) (g := gName 2) rfl scSets.nd (pi_range1 (by rfl) T.range (pa_cons (pe_op op_shl pe_int (pv 0)) pa_nil)) (blkOk_by (N := nSets) (sc := defScope sAllSets) (by decide +kernel))
      (fun _ _ _ _ _ => pg_name (i := 2) scSets.nd rfl (Or.inl rfl)) (fun _ _ _ _ _ => pts_one (pt_cmpR op_eq (pe_callB (r := rLenQ K) call_len_seq (by rfl) T.len PySem.boot_len (pa_cons (pe_cal CM hr (by rfl) (pa_cons (pv 2) (pa_cons (pv 0) pa_nil))) pa_nil)) (pv 1) (nomark _)))
      (fun _ _ _ _ _ => pe_cal CM hr (by rfl) (pa_cons (pv 2) (pa_cons (pv 0) pa_nil))))), ?_⟩
    have e : (1 : Int) * 2 ^ ((n : Int)).toNat = ((2 ^ n : Nat) : Int) := by
      rw [Int.one_mul, Int.toNat_natCast, Int.natCast_pow]
      rfl
    have hp : 2 ^ n ≤ 32 := Nat.le_trans (Nat.pow_le_pow_right (by decide) hn) (by decide : 2 ^ 5 ≤ 32)
    refine rd_blksRF (n := 2 ^ n) (G := Good n) (fun {R} h => ⟨_, rfl, _, _, rfl, rfl, ⟨by omega, by omega, by decide⟩, (by show R [V.int (1 * 2 ^ ((n : Int)).toNat)] H; rw [e]; exact h)⟩) (by omega) (fun i hi H2 R s2 h => ?_) (fun i hi H2 R s2 h => ?_) fun D H2 ps s2 hD h1 h2 h3 h4 => q D H2 ps s2 hD h1 h2 (by omega) fun b m => ?_
    · refine ⟨_, rfl, _, rfl, _, n, rfl, by omega, fun t H3 b s3 _ ht _ => ⟨t, _, rfl, .inr (SqT.of ht), _, rfl, rfl, _, rfl, h _ H3 s3⟩⟩
    · exact ⟨_, rfl, _, rfl, _, n, rfl, by omega, fun t H3 b s3 _ ht hg => h t b H3 s3 ht hg⟩
    · obtain ⟨p, mp, rfl⟩ := List.mem_map.mp m
      exact h4 p mp
end
end K95

set_option Elab.async false
set_option linter.all false
set_option maxRecDepth 100000
set_option maxHeartbeats 1000000
namespace K95
open PySem PySem.Spec PyProof.Rows L2
theorem blk3_good {g : Nat → Int} (h : ∀ k : Nat, k < 3 → 3 * (k : Int) ≤ g k ∧ g k < 3 * (k : Int) + 3) : Good 9 ((List.range 3).map g) := by
  have e : (List.range 3).map g = [g 0, g 1, g 2] := rfl
  rw [e]
  have h0 := h 0 (by decide)
  have h1 := h 1 (by decide)
  have h2 := h 2 (by decide)
  refine ⟨.cons (fun x m => ?_) (.cons (fun x m => ?_) (.cons (fun x m => nomatch m) .nil)), fun x m => ?_⟩
  · rcases List.mem_cons.mp m with e | m
    · omega
    · have e := List.mem_singleton.mp m
      omega
  · have e := List.mem_singleton.mp m
    omega
  · rcases List.mem_cons.mp m with e | m
    · omega
    · rcases List.mem_cons.mp m with e | m
      · omega
      · have e := List.mem_singleton.mp m
        omega
theorem row3_good {c : Nat} (h : c < 3) : Good 9 ((List.range 3).map fun j : Nat => 3 * (c : Int) + (j : Int)) := by
  have e : ((List.range 3).map fun j : Nat => 3 * (c : Int) + (j : Int)) = [3 * (c : Int) + 0, 3 * (c : Int) + 1, 3 * (c : Int) + 2] := rfl
  rw [e]
  refine ⟨.cons (fun x m => ?_) (.cons (fun x m => ?_) (.cons (fun x m => nomatch m) .nil)), fun x m => ?_⟩
  · rcases List.mem_cons.mp m with e | m
    · omega
    · have e := List.mem_singleton.mp m
      omega
  · have e := List.mem_singleton.mp m
    omega
  · rcases List.mem_cons.mp m with e | m
    · omega
    · rcases List.mem_cons.mp m with e | m
      · omega
      · have e := List.mem_singleton.mp m
        omega
section
variable {K : PySem.W.Frag} {σ : L2.St} {H : Hp} {te : TE}
/-- [a block of p for .. in a new list of tuples] -/
theorem rd_blksG {tl : TE} {g : TG} {vs : List Nat} {A : List (Addr × List Int) → Prop} {G : List Int → Prop} {Q : VK}
    (hl : ∀ {R : VK}, (∀ (a : Addr) (H1 : Hp) (ps : List (Addr × List Int)), Same H H1 → SqL K H1 a (refs ps) → AllT H1 ps → A ps → ps.length ≤ 1000 → R (.ref a) H1) → tl σ H R)
    (he : ∀ (ps : List (Addr × List Int)) (p : Addr × List Int) (H' : Hp) (R : VK), A ps → p ∈ ps → Tb H' p.1 p.2 → (∀ (t : Addr) (b : List Int) (H'' : Hp), Same H' H'' → Tb H'' t b → G b → R (.ref t) H'') → g (.ref p.1) (wipe σ vs) H' fun σ2 H2 => wipe σ2 vs = wipe σ vs ∧ te σ2 H2 R)
    (q : ∀ (D : Addr) (H' : Hp) (ps qs : List (Addr × List Int)), Same H H' → H D = none → A ps → H' D = some (.lst (refs qs)) → AllT H' qs → qs.length = ps.length → (∀ (k : Nat) (p : Addr × List Int), qs[k]? = some p → G p.2) → Q (.ref D) H') : tLc (iList K tl) g tYes te vs σ H Q := by
  refine hl fun a H1 ps s1 ha ht hA hz => ⟨a, rfl, ⟨_, ha⟩, fun D hD => lc_list (K := K) (a := a) (xs := refs ps) (fun i H' => Same H1 H' ∧ Blks (fun _ b => G b) H' D i) ⟨same_new hD, Blks.start⟩ (fun i H' _ p => p.1.seq ha) ?_ ?_⟩
  · rintro i y H2 hi ⟨s2, hB⟩
    obtain ⟨z, hz', rfl⟩ := ref_at hi
    have hlt := (List.getElem?_eq_some_iff.mp hz').1
    have mz := List.mem_of_getElem? hz'
    refine he ps z H2 _ hA mz (s2 _ _ (ht z mz)) fun t b H3 s3 hb hG => ?_
    obtain ⟨acc, h1, h2, h3⟩ := hB.turn s3 hb hG (by omega)
    exact ⟨acc, h1, h2, sOwn (s2.trans s3) hD, h3⟩
  · rintro H2 ⟨s2, qs, h1, h2, h3, h4⟩
    exact q D H2 ps qs (s1.trans s2) (s1.free hD) hA h1 h2 (by rw [h3, List.length_map]) h4
end
section
variable {P : Program} {w : World} {K : PySem.W.Frag} {mg : Str → Option Value} {base : Heap} {f : Addr} {fd : FuncData}
/-! ### _law_even_blocks -/
abbrev nEven : List Str := ["_law_x", "_law_y", "_law_way", "_law_blocks", "_law_many", "_law_m", "_law_c", "_law_k", "_law_j"]
theorem scEven : FnScope nEven ["_law_x", "_law_y"] (defScope sEven) := ⟨rfl, rfl, rfl, by decide +kernel, rfl, by decide +kernel, by decide +kernel⟩
def ifAt (i : Nat) : Stmt → Stmt
  | .If _ b _ _ => b.getD i (.Pass ⟨0, 0, 0, 0⟩)
  | s => s
def rightE : Expr → Expr
  | .BinOp _ _ r _ => r
  | e => e
def cEv1 : Expr := stE (ifAt 0 (stAt 2 sEven))
def cEv2 : Expr := rightE (tupE 1 (stE (ifAt 1 (stAt 2 sEven))))
/-- a pair: how many points, and a new list of blocks -/
def spEven : Sp := fun vs H Q _ => ∃ x y : Int, vs = [.int x, .int y] ∧ ∀ (r : Addr) (H' : Hp) (l : Addr) (m : Nat) (ps : List (Addr × List Int)), Same H H' → H' r = some (.tup [.int (m : Int), .ref l]) → H' l = some (.lst (refs ps)) → H l = none → AllT H' ps →
  0 < m → m ≤ 9 → AllGood m (ps.map (·.2)) → ps.length ≤ 32 → Q (.ref r) H'
theorem even_out {H H1 : Hp} {Q : VK} {m : Nat} {D : Addr} {ps : List (Addr × List Int)} (q : ∀ (r : Addr) (H' : Hp) (l : Addr) (m : Nat) (ps : List (Addr × List Int)), Same H H' → H' r = some (.tup [.int (m : Int), .ref l]) → H' l = some (.lst (refs ps)) → H l = none → AllT H' ps →
  0 < m → m ≤ 9 → AllGood m (ps.map (·.2)) → ps.length ≤ 32 → Q (.ref r) H') (s : Same H H1) (hD : H D = none) (h1 : H1 D = some (.lst (refs ps))) (h2 : AllT H1 ps) (hm : 0 < m) (hm9 : m ≤ 9) (hg : AllGood m (ps.map (·.2))) (hl : ps.length ≤ 32) :
    2 ≤ sizeLine ∧ ∀ r, H1 r = none → Q (.ref r) (upd H1 r (.tup [.int (m : Int), .ref D])) :=
  ⟨by decide, fun r hr0 => q r _ D m ps (sNew s hr0) upd_same (by rw [upd_ne (ne_of_none h1 hr0)]; exact h1) hD (h2.same (same_new hr0)) hm hm9 hg hl⟩
theorem ok_even (F : FnP K "_law_even_blocks" sEven f fd) (T : Txt mg) (CM : Cal P w K mg base 1 "_law_mask" ["_law_x", "_law_many"] spMask) (CS : Cal P w K mg base 2 "_law_all_sets" ["_law_many", "_law_size"] spSets)
    (CL : Cal P w K mg base 1 "_law_turned_base" ["_law_base", "_law_many"] (spTBL K)) (CU : Cal P w K mg base 1 "_law_turned_base" ["_law_base", "_law_many"] (spTBT K)) : FnOk P w K mg base CX0 3 f fd ["_law_x", "_law_y"] spEven := by
  refine okN F scEven (fun vs H Q E h => ?_) (fun cdv A outer s H vs Q E hr h => ?_)
  · obtain ⟨x, y, rfl, _⟩ := h
    rfl
  · obtain ⟨x, y, rfl, q⟩ := h
    have r1 := hr.mono (show 1 ≤ 2 by decide)
    refine ⟨_, pss_cons (ps_set (i := 2) scEven.nd rfl (Or.inl rfl) (pe_op op_mod (pv 0) pe_int))
      (pss_cons (ps_if (pt_cmpR op_eq (pv 2) pe_int (nomark _)) (pss_one (ps_ret (pe_tup (pa_cons pe_int (pa_cons (pe_cal CL r1 (by rfl) (pa_cons (pe_lst (pa_cons pe_int (pa_cons pe_int (pa_cons pe_int pa_nil)))) (pa_cons pe_int pa_nil))) pa_nil))))) pss_nil)
      (pss_cons (ps_if (pt_cmpR op_eq (pv 2) pe_int (nomark _))
        (pss_cons (ps_setLc (i := 3) (own := [("_law_m", 5), ("_law_c", 6)]) (g := gTup K 2 (gCons (gName 5) (gCons (gName 6) gNil))) (tt := tYes) rfl scEven.nd rfl rfl (sw_true rfl rfl rfl (by decide +kernel))
          (pi_list (pe_lc (own := [("_law_j", 8)]) (g := gName 8) (tt := tYes) rfl scEven.nd (pi_range1 (by rfl) T.range (pa_cons pe_int pa_nil)) (blkOk_by (N := nEven) (sc := defScope sEven) (by decide +kernel))
            (fun _ _ _ _ _ => pg_name (i := 8) scEven.nd rfl (Or.inl rfl)) (fun _ _ _ _ _ => pts_nil) (fun _ _ _ _ _ => pe_tup (pa_cons (pe_op op_fdiv (pv 8) pe_int) (pa_cons (pe_op op_mod (pv 8) pe_int) pa_nil)))))
          (blkOk_by (N := nEven) (sc := defScope sEven) (by decide +kernel))
          (fun _ _ _ _ _ => pg_tup (by rfl) (pgs_cons (pg_name (i := 5) scEven.nd rfl (Or.inr rfl)) (pgs_cons (pg_name (i := 6) scEven.nd rfl (Or.inr rfl)) pgs_nil))) (fun _ _ _ _ _ => pts_nil)
          (fun _ _ _ _ _ => pe_callTy (r := rTupOf K) call_tuple_of (by rfl) T.tuple boot_tuple (pa_cons
            (pe_lc (own := [("_law_k", 7)]) (g := gName 7) (tt := tYes) rfl scEven.nd (pi_range1 (by rfl) T.range (pa_cons pe_int pa_nil)) (blkOk_by (N := nEven) (sc := relS (lcScope cEv1) (defScope sEven)) (by decide +kernel))
              (fun _ _ _ _ _ => pg_name (i := 7) scEven.nd rfl (Or.inl rfl)) (fun _ _ _ _ _ => pts_nil) (fun _ _ _ _ _ => pe_op op_add (pe_op op_mul pe_int (pv 7)) (pe_op op_mod (pe_op op_add (pe_op op_mul (pv 5) (pv 7)) (pv 6)) pe_int))) pa_nil)))
        (pss_one (ps_ret (pe_tup (pa_cons pe_int (pa_cons (pe_op op_cat (pv 3)
          (pe_lc (own := [("_law_c", 6)]) (g := gName 6) (tt := tYes) rfl scEven.nd (pi_range1 (by rfl) T.range (pa_cons pe_int pa_nil)) (blkOk_by (N := nEven) (sc := defScope sEven) (by decide +kernel))
            (fun _ _ _ _ _ => pg_name (i := 6) scEven.nd rfl (Or.inr rfl)) (fun _ _ _ _ _ => pts_nil) (fun _ _ _ _ _ => pe_callTy (r := rTupOf K) call_tuple_of (by rfl) T.tuple boot_tuple (pa_cons
              (pe_lc (own := [("_law_j", 8)]) (g := gName 8) (tt := tYes) rfl scEven.nd (pi_range1 (by rfl) T.range (pa_cons pe_int pa_nil)) (blkOk_by (N := nEven) (sc := relS (lcScope cEv2) (defScope sEven)) (by decide +kernel))
                (fun _ _ _ _ _ => pg_name (i := 8) scEven.nd rfl (Or.inl rfl)) (fun _ _ _ _ _ => pts_nil) (fun _ _ _ _ _ => pe_op op_add (pe_op op_mul pe_int (pv 6)) (pv 8))) pa_nil)))) pa_nil)))))) pss_nil)
      (pss_cons (ps_if (pt_cmpR op_eq (pv 2) pe_int (nomark _))
        (pss_cons (ps_set (i := 4) scEven.nd rfl (Or.inl rfl) (pe_op op_add pe_int (pe_op op_mod (pe_op op_fdiv (pv 0) pe_int) pe_int)))
        (pss_one (ps_ret (pe_tup (pa_cons (pv 4) (pa_cons (pe_cal CS hr (by rfl) (pa_cons (pv 4) (pa_cons (pe_op op_mod (pv 1) (pe_op op_add (pv 4) pe_int)) pa_nil))) pa_nil)))))) pss_nil)
      (pss_cons (ps_set (i := 4) scEven.nd rfl (Or.inl rfl) (pe_op op_add pe_int (pe_op op_mod (pe_op op_fdiv (pv 0) pe_int) pe_int)))
      (pss_one (ps_ret (pe_tup (pa_cons (pv 4) (pa_cons (pe_cal CU r1 (by rfl) (pa_cons (pe_cal CM r1 (by rfl) (pa_cons (pe_op op_mod (pv 1) (pe_op op_shl pe_int (pv 4))) (pa_cons (pv 4) pa_nil))) (pa_cons (pv 4) pa_nil))) pa_nil))))))))), ?_⟩
    refine ⟨_, rfl, _, _, rfl, rfl, (show (0:Int) < 5 by decide), ?_⟩
    refine ⟨_, rfl, rfl, _, rfl, ite2 (fun c => ?_) fun c => ?_⟩
    · -- the seven turns of [0, 1, 3]
      refine ⟨by show 3 ≤ sizeLine; decide, fun p hp => ⟨p, [0, 1, 3], 7, rfl, SqL.of upd_same, by decide, by decide, by decide, fun D H1 ps s1 hD h1 h2 h3 => ?_⟩⟩
      have s0 := same_new (o := .lst [.int 0, .int 1, .int 3]) hp
      have g7 : Good 7 [0, 1, 3] := ⟨by decide, by decide⟩
      have hl : ps.length = 7 := by
        have e := congrArg List.length h3
        rw [List.length_map, orb_length] at e
        exact e
      exact even_out q (s0.trans s1) (s0.free hD) h1 h2 (by decide) (by decide) (by rw [h3]; exact orb_good (by decide) g7) (by omega)
    refine ⟨_, rfl, rfl, _, rfl, ite2 (fun c => ?_) fun c => ?_⟩
    · -- the twelve lines on nine points
      refine rd_set (rd_blksG (A := fun ps => ps.length = 9 ∧ ∀ p ∈ ps, ∃ m c : Int, p.2 = [m, c]) (G := Good 9) (fun {R} hR => ?_) (fun ps p H' R hA mp hp h => ?_) fun D H1 ps qs s1 hD hA h1 h2 h3 h4 => ?_)
      · refine rd_blksR (n := 9) (Rl := fun k c => c = [(k : Int) / 3, (k : Int) % 3]) (fun {R} h => h) (by decide) (fun k hk H2 R s2 h => ?_) fun D H2 ps s2 hD h1 h2 h3 h4 => hR D H2 ps s2 (SqL.of h1) h2 ⟨h3, fun p mp => ?_⟩ (by omega)
        · exact ⟨_, rfl, _, _, rfl, rfl, ⟨by decide, by decide⟩, _, rfl, _, _, rfl, rfl, (show (0:Int) < 3 by decide), by show 2 ≤ sizeLine; decide, fun t ht => h t _ _ (same_new ht) upd_same rfl⟩
        · obtain ⟨k, hk⟩ := List.mem_iff_getElem?.mp mp
          exact ⟨_, _, h4 k p hk⟩
      · obtain ⟨m, c, e⟩ := hA.2 p mp
        rw [e] at hp
        refine ⟨p.1, _, rfl, SqT.of hp, rfl, _, _, rfl, _, _, rfl, rfl, rfl, ?_⟩
        refine rd_tupOf (b := (List.range 3).map fun k : Nat => 3 * (k : Int) + (m * (k : Int) + c) % 3) (fun {R2} hR2 => ?_) fun t H3 s3 h0 ht => h t _ H3 s3 ht (blk3_good fun k hk => ?_)
        · refine rd_intsR (n := 3) (g := fun k : Nat => 3 * (k : Int) + (m * (k : Int) + c) % 3) (fun {R} h => h) (by decide) (fun k hk H3 R3 s3 h3 => ?_) fun D2 H3 s3 h0 hD2 => hR2 D2 H3 s3 hD2
          exact ⟨_, rfl, _, _, rfl, rfl, .inl ⟨by decide, by decide⟩, _, rfl, _, rfl, _, _, rfl, rfl, .inr ⟨by omega, by omega⟩, _, rfl, _, _, rfl, rfl, _, _, rfl, rfl, (show (0:Int) < 3 by decide), _, _, rfl, rfl, h3⟩
        · have b0 : 0 ≤ (m * (k : Int) + c) % 3 := Int.emod_nonneg _ (by decide)
          have b1 : (m * (k : Int) + c) % 3 < 3 := Int.emod_lt_of_pos _ (by decide)
          exact ⟨by omega, by omega⟩
      · refine ⟨_, rfl, rd_blksR (n := 3) (Rl := fun c b => b = (List.range 3).map fun j : Nat => 3 * (c : Int) + (j : Int)) (fun {R} h => h) (by decide) (fun c hc H2 R s2 h => ?_) fun D2 H2 rs s2 hD2 g1 g2 g3 g4 => ?_⟩
        · refine rd_tupOf (b := (List.range 3).map fun j : Nat => 3 * (c : Int) + (j : Int)) (fun {R2} hR2 => ?_) fun t H3 s3 h0 ht => h t _ H3 s3 ht rfl
          refine rd_intsR (n := 3) (g := fun j : Nat => 3 * (c : Int) + (j : Int)) (fun {R} h => h) (by decide) (fun k hk H3 R3 s3 h3 => ?_) fun D2 H3 s3 h0 hD2 => hR2 D2 H3 s3 hD2
          exact ⟨_, rfl, _, _, rfl, rfl, .inl ⟨by decide, by decide⟩, _, rfl, _, _, rfl, rfl, h3⟩
        · refine ⟨D, D2, _, _, rfl, rfl, s2 _ _ h1, g1, ?_, fun p hp => ?_⟩
          · rw [List.length_map, List.length_map, h3, hA.1, g3]
            exact small_line (by decide)
          · have s3 := sNew (s1.trans s2) (o := .lst (refs qs ++ refs rs)) hp
            have er : refs qs ++ refs rs = refs (qs ++ rs) := by
              show _ = (qs ++ rs).map fun p => V.ref p.1
              rw [List.map_append]
            rw [er] at s3 ⊢
            have hgood : AllGood 9 ((qs ++ rs).map (·.2)) := fun b m => by
              obtain ⟨z, mz, rfl⟩ := List.mem_map.mp m
              rcases List.mem_append.mp mz with mz | mz
              · obtain ⟨k, hk⟩ := List.mem_iff_getElem?.mp mz
                exact h4 k z hk
              · obtain ⟨k, hk⟩ := List.mem_iff_getElem?.mp mz
                rw [g4 k z hk]
                have := (List.getElem?_eq_some_iff.mp hk).1
                exact row3_good (by omega)
            have hall : AllT (upd H2 p (.lst (refs (qs ++ rs)))) (qs ++ rs) := fun z mz => by
              refine same_new hp _ _ ?_
              rcases List.mem_append.mp mz with mz | mz
              · exact s2 _ _ (h2 z mz)
              · exact g2 z mz
            exact even_out q s3 ((s1.trans s2).free hp) upd_same hall (by decide) (by decide) hgood (by rw [List.length_append, h3, hA.1, g3]; decide)
    refine ⟨_, rfl, rfl, _, rfl, ite2 (fun c => ?_) fun c => ?_⟩
    · -- all sets of one size
      obtain ⟨m, hm, m1, m5⟩ : ∃ m : Nat, 1 + x / 5 % 5 = (m : Int) ∧ 1 ≤ m ∧ m ≤ 5 := by
        have b0 : 0 ≤ x / 5 % 5 := Int.emod_nonneg _ (by decide)
        have b1 : x / 5 % 5 < 5 := Int.emod_lt_of_pos _ (by decide)
        exact ⟨(1 + x / 5 % 5).toNat, by omega, by omega, by omega⟩
      refine ⟨_, rfl, _, _, rfl, rfl, ⟨by decide, by decide⟩, _, _, rfl, rfl, (show (0:Int) < 5 by decide), _, _, rfl, rfl, ?_⟩
      dsimp only
      rw [hm]
      refine ⟨_, rfl, _, rfl, _, rfl, _, rfl, _, _, rfl, rfl, _, _, rfl, rfl, (show (0:Int) < (m : Int) + 1 by omega), m, _, rfl, m5, fun D H1 ps s1 hD h1 h2 h3 h4 => ?_⟩
      exact even_out q s1 hD h1 h2 m1 (by omega) h4 h3
    · -- the turns of one
      obtain ⟨m, hm, m1, m9⟩ : ∃ m : Nat, 1 + x / 5 % 9 = (m : Int) ∧ 1 ≤ m ∧ m ≤ 9 := by
        have b0 : 0 ≤ x / 5 % 9 := Int.emod_nonneg _ (by decide)
        have b1 : x / 5 % 9 < 9 := Int.emod_lt_of_pos _ (by decide)
        exact ⟨(1 + x / 5 % 9).toNat, by omega, by omega, by omega⟩
      refine ⟨_, rfl, _, _, rfl, rfl, ⟨by decide, by decide⟩, _, _, rfl, rfl, (show (0:Int) < 9 by decide), _, _, rfl, rfl, ?_⟩
      dsimp only
      rw [hm]
      have hp : (0 : Int) < 1 * 2 ^ ((m : Int)).toNat := by
        rw [Int.one_mul, Int.toNat_natCast]
        exact Int.pow_pos (by decide)
      refine ⟨_, rfl, _, rfl, _, rfl, _, _, rfl, rfl, ⟨by omega, by omega, by decide⟩, _, _, rfl, rfl, hp, _, rfl, _, m, rfl, by omega, fun t H1 b s1 h0 ht hg => ?_⟩
      refine ⟨_, rfl, t, b, m, rfl, SqT.of ht, Nat.lt_of_le_of_lt hg.len (by omega), m1, by omega, fun D H2 ps s2 hD h1 h2 h3 => ?_⟩
      have hl : ps.length = m := by
        have e := congrArg List.length h3
        rw [List.length_map, orb_length] at e
        exact e
      exact even_out q (s1.trans s2) (s1.free hD) h1 h2 m1 m9 (by rw [h3]; exact orb_good m1 hg) (by omega)
end
end K95

set_option Elab.async false
set_option linter.all false
set_option maxRecDepth 100000
set_option maxHeartbeats 1000000
namespace K95
open PySem PySem.Spec PyProof.Rows L2
/-! ### plain -/
theorem x_at {xs : List Int} {i : Nat} (h : i < xs.length) : atI (xs.map V.int) (i : Int) = some (V.int (xs.getD i 0)) := by
  refine at_of (j := i) rfl ?_
  rw [List.getElem?_map, List.getElem?_eq_getElem h, List.getD_eq_getElem?_getD, List.getElem?_eq_getElem h]
  rfl
theorem x_atI {xs : List Int} {x : Int} (h0 : 0 ≤ x) (h : x.toNat < xs.length) : atI (xs.map V.int) x = some (V.int (xs.getD x.toNat 0)) := by
  have e := x_at h
  have e2 : ((x.toNat : Nat) : Int) = x := by omega
  rw [e2] at e
  exact e
theorem x_bd {xs : List Int} (h : ∀ x ∈ xs, 0 ≤ x ∧ x < 2000000000) (i : Nat) : 0 ≤ xs.getD i 0 ∧ xs.getD i 0 < 2000000000 := by
  rw [List.getD_eq_getElem?_getD]
  cases e : xs[i]? with
  | none => exact ⟨by decide, by decide⟩
  | some x => exact h x (List.mem_of_getElem? e)
theorem cut_refs (ps : List (Addr × List Int)) (lo hi : Option Int) : cutV (refs ps) lo hi = refs ((ps.drop (HT.sIx ps.length 0 lo)).take (HT.sIx ps.length ps.length hi - HT.sIx ps.length 0 lo)) := by
  show ((ps.map fun p => V.ref p.1).drop _).take _ = ((ps.drop _).take _).map fun p => V.ref p.1
  rw [List.length_map, List.map_take, List.map_drop]
theorem cut_mem {α : Type} {ps : List α} {i j : Nat} {p : α} (m : p ∈ (ps.drop i).take j) : p ∈ ps := List.mem_of_mem_drop (List.mem_of_mem_take m)
theorem cut_len {α : Type} (ps : List α) (i j : Nat) : ((ps.drop i).take j).length ≤ ps.length := by
  rw [List.length_take, List.length_drop]
  omega
theorem shaped_blks (bs : List (List Int)) : SeqAt.shaped (.list (bs.map dBlk)) = true := by
  obtain ⟨h1, h2⟩ := lay_blks bs
  unfold SeqAt.shaped
  rw [PyData.canLay0, h1, PyData.depth]
  show (true && decide _) = true
  rw [Bool.true_and, decide_eq_true_eq]
  omega
/-- a point put in, or taken out -/
theorem flip_good {m : Nat} {b : List Int} {x : Int} (h : Good m b) (h0 : 0 ≤ x) (h1 : x < m) : Good m (srt ((b.filter fun y => !decide (V.int y = V.int x)) ++ if x ∈ b then [] else [x])) := by
  have hnd : ((b.filter fun y => !decide (V.int y = V.int x)) ++ if x ∈ b then [] else [x]).Nodup := by
    refine List.nodup_append.mpr ⟨List.Pairwise.sublist List.filter_sublist (Rise.nodup h.rise), ?_, fun a ha c hc => ?_⟩
    · split
      · exact List.nodup_nil
      · exact .cons (fun _ m => nomatch m) .nil
    · intro e
      split at hc
      · cases hc
      · have ec := List.mem_singleton.mp hc
        have hf := (List.mem_filter.mp ha).2
        rw [e, ec, decide_eq_true rfl] at hf
        exact absurd hf (by decide)
  refine ⟨rise_of (srt_sorted _) ((srt_perm _).nodup_iff.mpr hnd), fun y my => ?_⟩
  rcases List.mem_append.mp ((srt_mem _ y).mp my) with my | my
  · exact h.bd y (List.mem_filter.mp my).1
  · split at my
    · cases my
    · rw [List.mem_singleton.mp my]
      exact ⟨h0, h1⟩
/-- renamed by a row -/
theorem row_good {m : Nat} {rs b : List Int} (hr : rs.Perm (pts m)) (h : Good m b) : Good m (srt (b.map fun x => rs.getD x.toNat 0)) := by
  have hl : rs.length = m := by rw [hr.length_eq, pts_length]
  have nd : rs.Nodup := hr.nodup_iff.mpr (Rise.nodup (pts_rise m))
  have ge : ∀ x ∈ b, ∃ hx : x.toNat < rs.length, rs.getD x.toNat 0 = rs[x.toNat] := fun x mx => by
    have := h.bd x mx
    have hx : x.toNat < rs.length := by omega
    exact ⟨hx, by rw [List.getD_eq_getElem?_getD, List.getElem?_eq_getElem hx]; rfl⟩
  refine ⟨rise_of (srt_sorted _) ((srt_perm _).nodup_iff.mpr ?_), fun y my => ?_⟩
  · refine List.pairwise_map.mpr (List.Pairwise.imp_of_mem (fun {x y} mx my hne e => hne ?_) (Rise.nodup h.rise))
    obtain ⟨hx, ex⟩ := ge x mx
    obtain ⟨hy, ey⟩ := ge y my
    rw [ex, ey] at e
    have z := (List.getElem_inj nd).mp e
    have := h.bd x mx
    have := h.bd y my
    omega
  · obtain ⟨x, mx, rfl⟩ := List.mem_map.mp ((srt_mem _ y).mp my)
    obtain ⟨hx, ex⟩ := ge x mx
    show 0 ≤ rs.getD x.toNat 0 ∧ rs.getD x.toNat 0 < (m : Int)
    rw [ex]
    exact mem_pts.mp (hr.mem_iff.mp (List.getElem_mem hx))
section
variable {K : PySem.W.Frag} {σ : L2.St} {H : Hp} {te : TE} {j : Nat}
/-- [a block of x for x in a new list of ints] -/
theorem rd_blksS {tl : TE} {N : Nat} {G : List Int → Prop} {Q : VK} (hN : N ≤ 1000)
    (hl : ∀ {R : VK}, (∀ (a : Addr) (H1 : Hp) (zs : List Int), Same H H1 → Lb H1 a zs → zs.length ≤ N → R (.ref a) H1) → tl σ H R)
    (he : ∀ (x : Int) (H' : Hp) (R : VK), Same H H' → (∀ (t : Addr) (b : List Int) (H'' : Hp), Same H' H'' → Tb H'' t b → G b → R (.ref t) H'') → te ((wipe σ [j]).set j (some (.int x))) H' R)
    (q : ∀ (D : Addr) (H' : Hp) (qs : List (Addr × List Int)), Same H H' → H D = none → H' D = some (.lst (refs qs)) → AllT H' qs → qs.length ≤ N → (∀ p ∈ qs, G p.2) → Q (.ref D) H') : tLc (iList K tl) (gName j) tYes te [j] σ H Q := by
  refine hl fun a H1 zs s1 ha hz => ⟨a, rfl, ⟨_, SqL.of ha⟩, fun D hD => lc_list (K := K) (a := a) (xs := zs.map V.int) (fun i H' => Same H1 H' ∧ Blks (fun _ b => G b) H' D i) ⟨same_new hD, Blks.start⟩ (fun i H' _ p => SqL.of (p.1 _ _ ha)) ?_ ?_⟩
  · rintro i y H2 hi ⟨s2, hB⟩
    obtain ⟨z, hz', rfl⟩ := int_at hi
    have hlt := (List.getElem?_eq_some_iff.mp hz').1
    refine ⟨wipe_one σ j _, he z H2 _ (s1.trans s2) fun t b H3 s3 hb hG => ?_⟩
    obtain ⟨acc, h1, h2, h3⟩ := hB.turn s3 hb hG (by omega)
    exact ⟨acc, h1, h2, sOwn (s2.trans s3) hD, h3⟩
  · rintro H2 ⟨s2, qs, h1, h2, h3, h4⟩
    refine q D H2 qs (s1.trans s2) (s1.free hD) h1 h2 (by rw [h3, List.length_map]; exact hz) fun p mp => ?_
    obtain ⟨k, hk⟩ := List.mem_iff_getElem?.mp mp
    exact h4 k p hk
end
section
variable {P : Program} {w : World} {K : PySem.W.Frag} {mg : Str → Option Value} {base : Heap} {f : Addr} {fd : FuncData}
/-! ### _law_layout -/
theorem joint2 {a b : TS} {D : Ends} {σ : L2.St} {H : Hp} (J : L2.St → Hp → Prop) (h1 : (∀ σ' H', J σ' H' → b D σ' H') → tSeq a b D σ H) (h2 : ∀ σ' H', J σ' H' → b D σ' H') : tSeq a b D σ H := h1 h2
theorem ixN_of {n j : Nat} (hj : j < n) : ixN n (j : Int) = some j := by
  unfold ixN
  rw [if_pos (by omega), if_pos (by omega), Int.toNat_natCast]
theorem lst_ne {H : Hp} {a b : Addr} {xs : List Int} {ps : List (Addr × List Int)} (h1 : Lb H a xs) (h2 : H b = some (.lst (refs ps))) (hp : 0 < ps.length) : a ≠ b := fun e => by
  have h3 : H a = some (.lst (xs.map V.int)) := h1
  rw [e, h2] at h3
  injection h3 with h3
  injection h3 with h3
  cases ps with
  | nil => exact absurd hp (by decide)
  | cons z zs =>
    cases xs with
    | nil => cases h3
    | cons x xs =>
      have h4 := (List.cons.inj h3).1
      cases h4
theorem rd_op {r : R2} {ta tb : TE} {σ : L2.St} {H : Hp} {Q : VK} (h : ta σ H fun x H1 => tb σ H1 fun y H2 => r x y H2 Q) : tOp r ta tb σ H Q := h
theorem rep_one (b : List Int) (x : Int) : (List.replicate (if (!decide (x ∈ b)) = true then (1 : Int) else 0).toNat [V.int x]).flatten = (if x ∈ b then [] else [x]).map V.int := by
  by_cases c : x ∈ b
  · rw [decide_eq_true c, if_pos c]
    rfl
  · rw [decide_eq_false c, if_neg c]
    rfl
theorem rd_asg {te : TE} {i : Nat} {D : Ends} {σ : L2.St} {H : Hp} (h : te σ H fun x H1 => D.nx (σ.set i (some x)) H1) : tAsg te (gName i) D σ H := h
/-- the layout as it stands between two statements -/
structure Lay0 (H : Hp) (lx ly : Addr) (xs ys : List Int) (N : Nat) (H' : Hp) (m : Nat) (lb : Addr) (ps : List (Addr × List Int)) : Prop where
  same : Same H H'
  hx : Lb H' lx xs
  hy : Lb H' ly ys
  fresh : H lb = none
  at_ : H' lb = some (.lst (refs ps))
  all : AllT H' ps
  good : AllGood m (ps.map (·.2))
  pos : 0 < m
  le : m ≤ 9
  few : ps.length ≤ N
theorem Lay0.mono {H : Hp} {lx ly : Addr} {xs ys : List Int} {N M : Nat} {H' : Hp} {m : Nat} {lb : Addr} {ps : List (Addr × List Int)} (h : Lay0 H lx ly xs ys N H' m lb ps) (l : N ≤ M) : Lay0 H lx ly xs ys M H' m lb ps :=
  ⟨h.same, h.hx, h.hy, h.fresh, h.at_, h.all, h.good, h.pos, h.le, Nat.le_trans h.few l⟩
theorem Lay0.step {H : Hp} {lx ly : Addr} {xs ys : List Int} {N : Nat} {H' H'' : Hp} {m : Nat} {lb : Addr} {ps : List (Addr × List Int)} (h : Lay0 H lx ly xs ys N H' m lb ps) (s : Same H' H'') : Lay0 H lx ly xs ys N H'' m lb ps :=
  ⟨h.same.trans s, s _ _ h.hx, s _ _ h.hy, h.fresh, s _ _ h.at_, h.all.same s, h.good, h.pos, h.le, h.few⟩
def Jn (H : Hp) (a lx ly : Addr) (k : Nat) (xs ys : List Int) (N : Nat) (r : Option V) (σ' : L2.St) (H' : Hp) : Prop := ∃ (m : Nat) (lb : Addr) (ps : List (Addr × List Int)) (v6 v7 v8 : Option V),
  σ' = [some (.ref a), some (.int (k : Int)), some (.ref lx), some (.ref ly), some (.int (m : Int)), some (.ref lb), v6, v7, v8, r, none, none] ∧ Lay0 H lx ly xs ys N H' m lb ps
abbrev nLay : List Str := ["_law_script", "_law_at", "_law_xs", "_law_ys", "_law_many", "_law_blocks", "_law_k", "_law_point", "_law_block", "_law_row_here", "_law_y", "_law_other"]
theorem scLay : FnScope nLay ["_law_script", "_law_at"] (defScope sLayout) := ⟨rfl, rfl, rfl, by decide +kernel, rfl, by decide +kernel, by decide +kernel⟩
def cLay : Expr := stE (ifAt 0 (stAt 9 sLayout))
def spLay (K : PySem.W.Frag) : Sp := fun vs H Q _ => ∃ (a : Addr) (ns : List Int) (k : Nat), vs = [.ref a, .int (k : Int)] ∧ SqL K H a (ns.map V.int) ∧ k ≤ 900 ∧
  ∀ (r : Addr) (H' : Hp) (n : Nat) (bs : List (List Int)), Same H H' → LayAt H' r n bs → 0 < n → n ≤ 9 → AllGood n bs → bs.length ≤ 64 → Q (.ref r) H'
theorem ok_lay (F : FnP K "_law_layout" sLayout f fd) (T : Txt mg) (CC : Cal P w K mg base 1 "_law_cell" ["_law_script", "_law_k"] (spCell K)) (CN : Cal P w K mg base 1 "_law_numbers" ["_law_cell_here", "_law_many"] spNum)
    (CM : Cal P w K mg base 1 "_law_mask" ["_law_x", "_law_many"] spMask) (CZ : Cal P w K mg base 1 "_law_of_size" ["_law_x", "_law_many", "_law_size"] spSize) (CE : Cal P w K mg base 3 "_law_even_blocks" ["_law_x", "_law_y"] spEven)
    (CR : Cal P w K mg base 1 "_law_row" ["_law_xs", "_law_many"] (spRow K)) : FnOk P w K mg base CX0 4 f fd ["_law_script", "_law_at"] (spLay K) := by
  refine okN F scLay (fun vs H Q E h => ?_) (fun cdv A outer s H vs Q E hr h => ?_)
  · obtain ⟨a, ns, k, rfl, _⟩ := h
    rfl
  · obtain ⟨a, ns, k, rfl, ha, hk, q⟩ := h
    have r1 := hr.mono (show 1 ≤ 3 by decide)
    refine ⟨_, pss_cons (ps_set (i := 2) scLay.nd rfl (Or.inr rfl) (pe_cal CN r1 (by rfl) (pa_cons (pe_cal CC r1 (by rfl) (pa_cons (pv 0) (pa_cons (pv 1) pa_nil))) (pa_cons pe_int pa_nil))))
      (pss_cons (ps_set (i := 3) scLay.nd rfl (Or.inl rfl) (pe_cal CN r1 (by rfl) (pa_cons (pe_cal CC r1 (by rfl) (pa_cons (pv 0) (pa_cons (pe_op op_add (pv 1) pe_int) pa_nil))) (pa_cons pe_int pa_nil))))
      (pss_cons (ps_set (i := 4) scLay.nd rfl (Or.inr rfl) (pe_op op_add pe_int (pe_op op_mod (pe_ix ix_list (pv 2) pe_int (fun _ _ => rfl)) pe_int)))
      (pss_cons (ps_setLc (i := 5) (own := [("_law_y", 10)]) (g := gName 10) (tt := tYes) rfl scLay.nd rfl rfl (sw_true rfl rfl rfl (by decide +kernel))
          (pi_list (pe_slice sl_list (pv 3) po_none (po_some (pe_op op_mod (pe_ix ix_list (pv 2) pe_int (fun _ _ => rfl)) pe_int)))) (blkOk_by (N := nLay) (sc := defScope sLayout) (by decide +kernel))
          (fun _ _ _ _ _ => pg_name (i := 10) scLay.nd rfl (Or.inl rfl)) (fun _ _ _ _ _ => pts_nil) (fun _ _ _ _ _ => pe_cal CM r1 (by rfl) (pa_cons (pe_op op_mod (pv 10) (pe_op op_shl pe_int (pv 4))) (pa_cons (pv 4) pa_nil))))
      (pss_cons (ps_if (pt_cmpR op_eq (pe_op op_mod (pe_ix ix_list (pv 2) pe_int (fun _ _ => rfl)) pe_int) pe_int (nomark _))
        (pss_one (ps_setLc (i := 5) (own := [("_law_y", 10)]) (g := gName 10) (tt := tYes) rfl scLay.nd rfl rfl (sw_true rfl rfl rfl (by decide +kernel))
          (pi_list (pe_slice sl_list (pv 3) po_none (po_some (pe_op op_mod (pe_ix ix_list (pv 2) pe_int (fun _ _ => rfl)) pe_int)))) (blkOk_by (N := nLay) (sc := defScope sLayout) (by decide +kernel))
          (fun _ _ _ _ _ => pg_name (i := 10) scLay.nd rfl (Or.inl rfl)) (fun _ _ _ _ _ => pts_nil) (fun _ _ _ _ _ => pe_cal CZ r1 (by rfl) (pa_cons (pv 10) (pa_cons (pv 4) (pa_cons (pe_op op_mod (pe_ix (r := rIxL K) ix_list (pv 2) pe_int (fun _ _ => rfl)) (pe_op op_add (pv 4) pe_int)) pa_nil)))))) pss_nil)
      (pss_cons (ps_if (pt_cmpR op_gt (pe_op op_mod (pe_ix ix_list (pv 2) pe_int (fun _ _ => rfl)) pe_int) pe_int (nomark _))
        (pss_one (ps_asg (pe_cal CE hr (by rfl) (pa_cons (pe_ix ix_list (pv 2) pe_int (fun _ _ => rfl)) (pa_cons (pe_ix ix_list (pv 2) pe_int (fun _ _ => rfl)) pa_nil))) (pg_tup (by rfl) (pgs_cons (pg_name (i := 4) scLay.nd rfl (Or.inr rfl)) (pgs_cons (pg_name (i := 5) scLay.nd rfl (Or.inl rfl)) pgs_nil))))) pss_nil)
      (pss_cons (ps_if (pt_cmpR op_eq (pe_op op_mod (pe_ix ix_list (pv 2) pe_int (fun _ _ => rfl)) pe_int) pe_int (nomark _))
        (pss_one (ps_set (i := 5) scLay.nd rfl (Or.inl rfl) (pe_slice sl_list (pe_op op_cat (pv 5) (pv 5)) po_none (po_some pe_int)))) pss_nil)
      (pss_cons (ps_if (PW.pt (pw_and (pt_cmpR op_eq (pe_op op_mod (pe_ix ix_list (pv 2) pe_int (fun _ _ => rfl)) pe_int) pe_int (nomark _)) (pw_and1 (pt_cmpR (op_neD hr.units) (pv 5) (pe_lst pa_nil) (nomark _)))))
        (pss_cons (ps_set (i := 6) scLay.nd rfl (Or.inl rfl) (pe_op op_mod (pe_ix ix_list (pv 2) pe_int (fun _ _ => rfl)) (pe_callB call_len_seq (by rfl) T.len PySem.boot_len (pa_cons (pv 5) pa_nil))))
        (pss_cons (ps_set (i := 7) scLay.nd rfl (Or.inr rfl) (pe_op op_mod (pe_ix ix_list (pv 2) pe_int (fun _ _ => rfl)) (pv 4)))
        (pss_cons (ps_set (i := 8) scLay.nd rfl (Or.inl rfl) (pe_op op_cat
          (pe_lc (own := [("_law_other", 11)]) (g := gName 11) rfl scLay.nd (pi_tup (pe_ix ix_list (pv 5) (pv 6) (fun _ _ => rfl))) (blkOk_by (N := nLay) (sc := defScope sLayout) (by decide +kernel))
            (fun _ _ _ _ _ => pg_name (i := 11) scLay.nd rfl (Or.inl rfl)) (fun _ _ _ _ _ => pts_one (pt_cmpR op_ne (pv 11) (pv 7) (nomark _))) (fun _ _ _ _ _ => pv 11))
          (pe_op op_rep (pe_lst (pa_cons (pv 7) pa_nil)) (pe_callTy call_int1 (by rfl) T.int boot_int (pa_cons (pe_cmpR op_notIn_seq (pv 7) (pe_ix ix_list (pv 5) (pv 6) (fun _ _ => rfl)) (by rfl)) pa_nil)))))
        (pss_one (ps_asg (pe_callTy call_tuple_of (by rfl) T.tuple boot_tuple (pa_cons (pe_callB cr_sorted (by rfl) T.sorted boot_sorted (pa_cons (pv 8) pa_nil)) pa_nil)) (pg_sub (pv 5) (pv 6) set_list)))))) pss_nil)
      (pss_cons (ps_set (i := 9) scLay.nd rfl (Or.inr rfl) (pe_cal CR r1 (by rfl) (pa_cons (pe_slice sl_list (pv 2) (po_some pe_int) po_none) (pa_cons (pv 4) pa_nil))))
      (pss_cons (ps_if (pt_cmpR op_eq (pe_op op_mod (pe_op op_fdiv (pe_ix ix_list (pv 2) pe_int (fun _ _ => rfl)) pe_int) pe_int) pe_int (nomark _))
        (pss_one (ps_setLc (i := 5) (own := [("_law_block", 8)]) (g := gName 8) (tt := tYes) rfl scLay.nd rfl rfl (sw_true rfl rfl rfl (by decide +kernel)) (pi_list (pv 5)) (blkOk_by (N := nLay) (sc := defScope sLayout) (by decide +kernel))
          (fun _ _ _ _ _ => pg_name (i := 8) scLay.nd rfl (Or.inl rfl)) (fun _ _ _ _ _ => pts_nil) (fun _ _ _ _ _ => pe_callTy (r := rTupOf K) call_tuple_of (by rfl) T.tuple boot_tuple (pa_cons (pe_callB (r := rSorted K) cr_sorted (by rfl) T.sorted boot_sorted (pa_cons
            (pe_lc (wi := iTup K (tVar 8)) (own := [("_law_point", 7)]) (g := gName 7) (tt := tYes) rfl scLay.nd (pi_tup (pv 8)) (blkOk_by (N := nLay) (sc := relS (lcScope cLay) (defScope sLayout)) (by decide +kernel))
              (fun _ _ _ _ _ => pg_name (i := 7) scLay.nd rfl (Or.inl rfl)) (fun _ _ _ _ _ => pts_nil) (fun _ _ _ _ _ => pe_ix (r := rIxL K) ix_list (pv 9) (pv 7) (fun _ _ => rfl))) pa_nil)) pa_nil)))) pss_nil)
      (pss_one (ps_ret (pe_tup (pa_cons (pv 4) (pa_cons (pe_callTy call_tuple_of (by rfl) T.tuple boot_tuple (pa_cons (pv 5) pa_nil)) pa_nil)))))))))))))), ?_⟩
    -- the numbers
    refine rd_put ⟨_, rfl, _, rfl, a, ns, k, rfl, ha, by omega, fun x H1 s1 => ⟨x, 18, rfl, by decide, fun lx H2 xs s2 hx0 hx xl xb => ?_⟩⟩
    have s12 := s1.trans s2
    refine rd_put ⟨_, rfl, _, rfl, _, _, rfl, rfl, a, ns, k + 1, rfl, s12.seq ha, by omega, fun y H3 s3 => ⟨y, 14, rfl, by decide, fun ly H4 ys s4 hy0 hy yl yb => ?_⟩⟩
    have s24 := s3.trans s4
    have s14 := s12.trans s24
    have hx := s24 _ _ hx
    refine rd_put ⟨_, rfl, lx, _, _, _, rfl, rfl, SqL.of hx, x_at (i := 1) (by omega), _, _, rfl, rfl, (show (0:Int) < 9 by decide), _, _, rfl, rfl, ?_⟩
    obtain ⟨m, hm, m1, m9⟩ : ∃ m : Nat, 1 + xs.getD 1 0 % 9 = (m : Int) ∧ 1 ≤ m ∧ m ≤ 9 := by
      have b0 : 0 ≤ xs.getD 1 0 % 9 := Int.emod_nonneg _ (by decide)
      have b1 : xs.getD 1 0 % 9 < 9 := Int.emod_lt_of_pos _ (by decide)
      exact ⟨(1 + xs.getD 1 0 % 9).toNat, by omega, by omega, by omega⟩
    dsimp only
    rw [hm]
    have hp : (0 : Int) < 1 * 2 ^ ((m : Int)).toNat := by
      rw [Int.one_mul, Int.toNat_natCast]
      exact Int.pow_pos (by decide)
    -- the blocks, by masks
    refine rd_set (rd_blksS (N := 32) (G := Good m) (by decide) (fun {R} hR => ?_) (fun x H5 R s5 h => ?_) fun lb H5 qs s5 hD h1 h2 h3 h4 => ?_)
    · refine ⟨_, rfl, _, rfl, lx, _, _, _, rfl, rfl, SqL.of hx, x_at (i := 2) (by omega), _, _, rfl, rfl, (show (0:Int) < 15 by decide), _, rfl, ly, _, rfl, SqL.of hy, fun l hl => ?_⟩
      rw [cut_ints]
      exact hR l _ _ (same_new hl) upd_same (Nat.le_trans (cut_len _ _ _) (by omega))
    · exact ⟨_, rfl, _, rfl, _, _, rfl, rfl, ⟨by omega, by omega, by decide⟩, _, _, rfl, rfl, hp, _, rfl, _, m, rfl, by omega, fun t H6 b s6 h0 ht hg => h t b H6 s6 ht hg⟩
    have L4 : Lay0 H lx ly xs ys 32 H5 m lb qs := ⟨s14.trans s5, s5 _ _ hx, s5 _ _ hy, s14.free hD, h1, h2, fun b mb => by
      obtain ⟨p, mp, rfl⟩ := List.mem_map.mp mb
      exact h4 p mp, m1, m9, h3⟩
    -- or of one size
    refine joint2 (Jn H a lx ly k xs ys 32 none) (fun j => ?_) ?_
    · refine ⟨_, rfl, lx, _, _, _, rfl, rfl, SqL.of L4.hx, x_at (i := 0) (by omega), _, _, rfl, rfl, (show (0:Int) < 4 by decide), rfl, _, rfl, ite2 (fun c => ?_) fun c => j _ _ ⟨m, lb, qs, none, none, none, rfl, L4⟩⟩
      refine rd_asg (rd_blksS (N := 32) (G := Good m) (by decide) (fun {R} hR => ?_) (fun x H6 R s6 h => ?_) fun lb' H6 rs s6 hD' g1 g2 g3 g4 => ?_)
      · refine ⟨_, rfl, _, rfl, lx, _, _, _, rfl, rfl, SqL.of L4.hx, x_at (i := 2) (by omega), _, _, rfl, rfl, (show (0:Int) < 15 by decide), _, rfl, ly, _, rfl, SqL.of L4.hy, fun l hl => ?_⟩
        rw [cut_ints]
        exact hR l _ _ (same_new hl) upd_same (Nat.le_trans (cut_len _ _ _) (by omega))
      · have mp : (0 : Int) < (m : Int) + 1 := by omega
        exact ⟨_, rfl, _, rfl, _, rfl, lx, _, _, _, rfl, rfl, SqL.of (s6 _ _ L4.hx), x_at (i := 3) (by omega), _, rfl, _, _, rfl, rfl, _, _, rfl, rfl, mp, _, m, _, rfl, by omega, Int.emod_nonneg _ (by omega), fun t H7 b s7 h0 ht hg => h t b H7 s7 ht hg⟩
      · exact j _ _ ⟨m, lb', rs, none, none, none, rfl, L4.same.trans s6, s6 _ _ L4.hx, s6 _ _ L4.hy, L4.same.free hD', g1, g2, fun b mb => (by
          obtain ⟨p, mp, rfl⟩ := List.mem_map.mp mb
          exact g4 p mp), m1, m9, g3⟩
    clear L4 h1 h2 h3 h4 hD s5 hp hm m1 m9 hx hy
    rintro σ H6 ⟨m, lb, ps, v6, v7, v8, rfl, L⟩
    -- or even ones
    refine joint2 (Jn H a lx ly k xs ys 32 none) (fun j => ?_) ?_
    · refine ⟨_, rfl, lx, _, _, _, rfl, rfl, SqL.of L.hx, x_at (i := 0) (by omega), _, _, rfl, rfl, (show (0:Int) < 4 by decide), _, _, rfl, rfl, _, rfl, ite2 (fun c => ?_) fun c => j _ _ ⟨m, lb, ps, v6, v7, v8, rfl, L⟩⟩
      refine ⟨_, rfl, lx, _, _, _, rfl, rfl, SqL.of L.hx, x_at (i := 4) (by omega), _, rfl, lx, _, _, _, rfl, rfl, SqL.of L.hx, x_at (i := 5) (by omega), _, _, rfl, fun r H7 l m' qs s7 hr' hl' hf ha' p0 p9 hg hl2 => ?_⟩
      exact ⟨r, _, rfl, SqT.of hr', rfl, _, _, rfl, _, _, rfl, rfl, j _ _ ⟨m', l, qs, v6, v7, v8, rfl, L.same.trans s7, s7 _ _ L.hx, s7 _ _ L.hy, L.same.free hf, hl', ha', hg, p0, p9, hl2⟩⟩
    clear L
    rintro σ H7 ⟨m, lb, ps, v6, v7, v8, rfl, L⟩
    -- twice
    refine joint2 (Jn H a lx ly k xs ys 64 none) (fun j => ?_) ?_
    · refine ⟨_, rfl, lx, _, _, _, rfl, rfl, SqL.of L.hx, x_at (i := 6) (by omega), _, _, rfl, rfl, (show (0:Int) < 4 by decide), rfl, _, rfl, ite2 (fun c => ?_) fun c => j _ _ ⟨m, lb, ps, v6, v7, v8, rfl, L.mono (by decide)⟩⟩
      have few := L.few
      refine ⟨_, rfl, _, rfl, lb, lb, _, _, rfl, rfl, L.at_, L.at_, ?_, fun p hp => ⟨_, rfl, p, _, rfl, SqL.of upd_same, fun l hl => ?_⟩⟩
      · rw [List.length_map]
        exact small_line (by omega)
      have er : refs ps ++ refs ps = refs (ps ++ ps) := by
        show _ = (ps ++ ps).map fun p => V.ref p.1
        rw [List.map_append]
      rw [er] at hl ⊢
      rw [cut_refs]
      have s8 := sNew (same_new (o := .lst (refs (ps ++ ps))) hp) (o := .lst (refs (((ps ++ ps).drop (HT.sIx (ps ++ ps).length 0 none)).take (HT.sIx (ps ++ ps).length (ps ++ ps).length (some 14) - HT.sIx (ps ++ ps).length 0 none)))) hl
      have sub : ∀ p ∈ ((ps ++ ps).drop (HT.sIx (ps ++ ps).length 0 none)).take (HT.sIx (ps ++ ps).length (ps ++ ps).length (some 14) - HT.sIx (ps ++ ps).length 0 none), p ∈ ps := fun p mp => (List.mem_append.mp (cut_mem mp)).elim id id
      refine j _ _ ⟨m, l, _, v6, v7, v8, rfl, L.same.trans s8, s8 _ _ L.hx, s8 _ _ L.hy, L.same.free ((same_new hp).free hl), upd_same, fun p mp => s8 _ _ (L.all p (sub p mp)), fun b mb => ?_, L.pos, L.le, ?_⟩
      · obtain ⟨p, mp, rfl⟩ := List.mem_map.mp mb
        exact L.good _ (List.mem_map.mpr ⟨p, sub p mp, rfl⟩)
      · refine Nat.le_trans (cut_len _ _ _) ?_
        rw [List.length_append]
        omega
    clear L
    rintro σ H8 ⟨m, lb, ps, v6, v7, v8, rfl, L⟩
    -- one point of one block
    refine joint2 (Jn H a lx ly k xs ys 64 none) (fun j => ?_) ?_
    · have few := L.few
      have le9 := L.le
      have mpos : (0 : Int) < (m : Int) := by have := L.pos; omega
      refine ⟨_, rfl, lx, _, _, _, rfl, rfl, SqL.of L.hx, x_at (i := 6) (by omega), _, _, rfl, rfl, (show (0:Int) < 4 by decide), rfl, _, rfl, ite2 (fun c => ?_) fun c => j _ _ ⟨m, lb, ps, v6, v7, v8, rfl, L⟩⟩
      refine ⟨_, rfl, small_line (Nat.zero_le _), fun e he => ?_⟩
      have L1 := L.step (same_new (o := .lst []) he)
      refine ⟨_, _, .lst (SqL.of L1.at_) (dp_refs ps L1.all), .lst (SqL.of upd_same) .nil, shaped_blks _, shaped_blks [], _, rfl, ite2 (fun c2 => ?_) fun c2 => j _ _ ⟨m, lb, ps, v6, v7, v8, rfl, L1⟩⟩
      have hne : 0 < ps.length := by
        cases hps : ps with
        | nil =>
          rw [hps] at c2
          exact absurd c2 (by decide)
        | cons z zs => exact Nat.succ_pos _
      generalize upd H8 e (.lst []) = H8b at L1 ⊢
      -- k, point
      have kpos : (0 : Int) < ((refs ps).length : Int) := by
        rw [List.length_map]
        omega
      refine rd_put ⟨_, rfl, lx, _, _, _, rfl, rfl, SqL.of L1.hx, x_at (i := 7) (by omega), _, rfl, lb, _, rfl, .inl (SqL.of L1.at_), _, _, rfl, rfl, kpos, ?_⟩
      obtain ⟨i, hi, hil⟩ : ∃ i : Nat, xs.getD 7 0 % ((refs ps).length : Int) = (i : Int) ∧ i < ps.length := by
        have b0 : 0 ≤ xs.getD 7 0 % ((refs ps).length : Int) := Int.emod_nonneg _ (by omega)
        have b1 : xs.getD 7 0 % ((refs ps).length : Int) < ((refs ps).length : Int) := Int.emod_lt_of_pos _ kpos
        rw [List.length_map] at b0 b1 ⊢
        exact ⟨(xs.getD 7 0 % (ps.length : Int)).toNat, by omega, by omega⟩
      dsimp only
      rw [hi]
      refine rd_put ⟨_, rfl, lx, _, _, _, rfl, rfl, SqL.of L1.hx, x_at (i := 8) (by omega), _, rfl, _, _, rfl, rfl, mpos, ?_⟩
      have p0 : 0 ≤ xs.getD 8 0 % (m : Int) := Int.emod_nonneg _ (by omega)
      have p1 : xs.getD 8 0 % (m : Int) < (m : Int) := Int.emod_lt_of_pos _ mpos
      dsimp only
      generalize xs.getD 8 0 % (m : Int) = pt at p0 p1 ⊢
      obtain ⟨z, hz⟩ : ∃ z, ps[i]? = some z := ⟨_, List.getElem?_eq_getElem hil⟩
      have mz := List.mem_of_getElem? hz
      have gz : Good m z.2 := L1.good z.2 (List.mem_map.mpr ⟨z, mz, rfl⟩)
      have zl := gz.len
      have hat : atI (refs ps) (i : Int) = some (V.ref z.1) := at_of rfl (by rw [List.getElem?_map, hz]; rfl)
      -- the block
      refine rd_put (rd_op (rd_filtT (j := 11) (a := z.1) (b := z.2) (p := fun y => !decide (V.int y = V.int pt)) (by show 11 < 12; decide) (fun {R'} h => ⟨_, rfl, _, rfl, lb, _, _, _, rfl, rfl, SqL.of L1.at_, hat, h⟩) (SqT.of (L1.all z mz)) (by omega) (fun x mx H3 R3 s3 h3 => ⟨_, rfl, _, rfl, rfl, _, rfl, h3⟩) fun D H9 s9 h0 hD => ?_))
      refine ⟨_, rfl, by show 1 ≤ sizeLine; decide, fun e1 he1 => ?_⟩
      have s10 := sNew s9 (o := .lst [.int pt]) he1
      have L2 := L1.step s10
      refine ⟨_, rfl, _, rfl, _, rfl, lb, _, _, _, rfl, rfl, SqL.of L2.at_, hat, z.1, _, rfl, .inr (SqT.of (L2.all z mz)), rfl, flat_ints _, .inr ⟨_, rfl, ?_⟩⟩
      rw [inV_ints, if_pos (rfl : true = true)]
      refine ⟨e1, _, _, rfl, rfl, upd_same, by split <;> decide, by split <;> decide, (by split; exact (by decide : 1 * 1 ≤ sizeLine); exact (by decide : 1 * 0 ≤ sizeLine)), fun e2 he2 => ?_⟩
      rw [rep_one]
      have hD1 := (sNew (same_new (o := .lst [.int pt]) he1) (o := .lst ((if pt ∈ z.2 then [] else [pt]).map V.int)) he2) _ _ hD
      have s11 := sNew s10 (o := .lst ((if pt ∈ z.2 then [] else [pt]).map V.int)) he2
      have hfl : (z.2.filter fun y => !decide (V.int y = V.int pt)).length ≤ z.2.length := List.length_filter_le _ _
      have hxl : (if pt ∈ z.2 then [] else [pt]).length ≤ 1 := by
        split
        · exact Nat.zero_le _
        · exact Nat.le_refl 1
      refine ⟨D, e2, _, _, rfl, rfl, hD1, upd_same, ?_, fun nb hnb => ?_⟩
      · rw [List.length_map, List.length_map]
        exact small_line (by omega)
      rw [← List.map_append]
      have s12 := sNew s11 (o := .lst (((z.2.filter fun y => !decide (V.int y = V.int pt)) ++ if pt ∈ z.2 then [] else [pt]).map V.int)) hnb
      refine ⟨_, rfl, nb, _, rfl, SqL.of upd_same, ?_, fun ns' p pm so hp => ?_⟩
      · rw [List.length_append]
        omega
      have e : ns' = srt _ := srt_of pm so
      subst e
      have gn := flip_good gz p0 p1
      generalize srt ((z.2.filter fun y => !decide (V.int y = V.int pt)) ++ if pt ∈ z.2 then [] else [pt]) = nbk at gn hp ⊢
      refine ⟨p, _, rfl, .inl ⟨SqL.of upd_same, fun t ht => ?_⟩⟩
      have s14 := sNew (sNew s12 (o := .lst (nbk.map V.int)) hp) (o := .tup (nbk.map V.int)) ht
      have L3 := L1.step s14
      refine ⟨_, rfl, _, rfl, lb, _, (i : Int), i, rfl, rfl, L3.at_, ixN_of (by rw [List.length_map]; exact hil), j _ _ ⟨m, lb, ps.set i (t, nbk), _, _, _, rfl, sOwn L3.same L.fresh, ?_, ?_, L.fresh, ?_, ?_, ?_, L.pos, L.le, by rw [List.length_set]; exact few⟩⟩
      · show upd _ lb _ lx = _
        rw [upd_ne (lst_ne L3.hx L3.at_ hne)]
        exact L3.hx
      · show upd _ lb _ ly = _
        rw [upd_ne (lst_ne L3.hy L3.at_ hne)]
        exact L3.hy
      · rw [upd_same]
        show _ = some (HO.lst ((ps.set i (t, nbk)).map fun p => V.ref p.1))
        rw [List.map_set]
      · refine allT_upd (fun q mq => ?_) L3.at_
        rcases List.mem_or_eq_of_mem_set mq with mq | eq
        · exact L3.all q mq
        · rw [eq]
          exact upd_same
      · intro b mb
        obtain ⟨q, mq, rfl⟩ := List.mem_map.mp mb
        rcases List.mem_or_eq_of_mem_set mq with mq | eq
        · exact L.good _ (List.mem_map.mpr ⟨q, mq, rfl⟩)
        · rw [eq]
          exact gn
    clear L
    rintro σ H9 ⟨m, lb, ps, v6, v7, v8, rfl, L⟩
    -- the row
    refine rd_put ⟨_, rfl, _, rfl, lx, _, rfl, SqL.of L.hx, fun l hl => ?_⟩
    rw [cut_ints]
    have le9 := L.le
    refine ⟨_, rfl, l, _, m, rfl, SqL.of upd_same, ?_, by omega, fun lr H10 rs s10 h0 hlr pm => ?_⟩
    · have e1 : HT.sIx 18 0 (some 9) = 9 := by decide
      have e2 : HT.sIx 18 18 none = 18 := rfl
      rw [List.length_take, List.length_drop, xl, e1, e2]
      omega
    have L10 := L.step ((same_new hl).trans s10)
    -- renamed
    refine joint2 (Jn H a lx ly k xs ys 64 (some (.ref lr))) (fun j => ?_) ?_
    · refine ⟨_, rfl, lx, _, _, _, rfl, rfl, SqL.of L10.hx, x_at (i := 6) (by omega), _, _, rfl, rfl, ⟨by decide, by decide⟩, _, _, rfl, rfl, (show (0:Int) < 2 by decide), rfl, _, rfl, ite2 (fun c => ?_) fun c => j _ _ ⟨m, lb, ps, v6, v7, v8, rfl, L10⟩⟩
      have few := L10.few
      refine rd_asg (rd_blksL (a := lb) (xs := refs ps) (Rl := fun _ c => Good m c) (fun {R} h => ⟨_, rfl, h⟩) (SqL.of L10.at_) (by rw [List.length_map]; omega) (fun i x hi H11 R s11 h => ?_) fun D H11 qs s11 hD g1 g2 g3 g4 => ?_)
      · obtain ⟨z, hz, rfl⟩ := ref_at hi
        have mz := List.mem_of_getElem? hz
        have gz : Good m z.2 := L10.good z.2 (List.mem_map.mpr ⟨z, mz, rfl⟩)
        have hlen := gz.len
        refine rd_srtT (b := z.2.map fun x => rs.getD x.toNat 0) (by rw [List.length_map]; omega) (fun {R2} hR2 => ?_) fun t H12 s12 h0 ht => h t _ H12 s12 ht (row_good pm gz)
        refine rd_intsT (a := z.1) (b := z.2) (g := fun x => rs.getD x.toNat 0) (fun {R'} h => ⟨_, rfl, h⟩) (SqT.of (s11 _ _ (L10.all z mz))) (by omega) (fun x mx H12 R3 s12 h3 => ?_) fun D2 H12 s12 h0 hD2 => hR2 D2 H12 s12 hD2
        have bx := gz.bd x mx
        exact ⟨_, rfl, _, rfl, lr, _, _, _, rfl, rfl, SqL.of (s12 _ _ (s11 _ _ hlr)), x_atI bx.1 (by rw [pm.length_eq, pts_length]; omega), h3⟩
      · exact j _ _ ⟨m, D, qs, v6, v7, v8, rfl, L10.same.trans s11, s11 _ _ L10.hx, s11 _ _ L10.hy, L10.same.free hD, g1, g2, fun b mb => (by
          obtain ⟨p, mp, rfl⟩ := List.mem_map.mp mb
          obtain ⟨i, hi⟩ := List.mem_iff_getElem?.mp mp
          exact g4 i p hi), L10.pos, L10.le, (by rw [g3, List.length_map]; exact few)⟩
    clear L L10
    rintro σ H11 ⟨m, lb, ps, v6, v7, v8, rfl, L⟩
    refine ⟨_, rfl, _, rfl, lb, _, rfl, .inl ⟨SqL.of L.at_, fun t ht => ⟨by show 2 ≤ sizeLine; decide, fun r hr0 => ?_⟩⟩⟩
    have few := L.few
    exact q r _ m _ (sNew (sNew L.same ht) hr0) (lay_new upd_same (L.all.same (same_new ht)) hr0) L.pos L.le L.good (by rw [List.length_map]; exact few)
end
end K95

set_option Elab.async false
set_option linter.all false
set_option maxRecDepth 100000
set_option maxHeartbeats 1000000
namespace K95
open PySem PySem.Spec PyProof.Rows L2
/-- list(xs) -/
abbrev rListOf (K : PySem.W.Frag) : List V → Hp → VK → Prop := fun xs H Q => ∃ p ys, xs = [V.ref p] ∧ (SqL K H p ys ∨ SqT K H p ys) ∧ ∀ l, H l = none → Q (.ref l) (upd H l (.lst ys))
section
variable {K : PySem.W.Frag} {σ : L2.St} {H : Hp} {te : TE} {j : Nat}
/-- lists of ints at these places, none of them at D -/
def AllD (H : Hp) (D : Addr) (G : List Int → Prop) (ps : List (Addr × List Int)) : Prop := ∀ p ∈ ps, Lb H p.1 p.2 ∧ p.1 ≠ D ∧ G p.2
/-- [a new list of ints for x in a new list of ints] -/
theorem rd_lstsS {tl : TE} {N : Nat} {G : List Int → Prop} {Q : VK} (hN : N ≤ 1000)
    (hl : ∀ {R : VK}, (∀ (a : Addr) (H1 : Hp) (zs : List Int), Same H H1 → Lb H1 a zs → zs.length ≤ N → R (.ref a) H1) → tl σ H R)
    (he : ∀ (x : Int) (H' : Hp) (R : VK), Same H H' → (∀ (t : Addr) (b : List Int) (H'' : Hp), Same H' H'' → H' t = none → Lb H'' t b → G b → R (.ref t) H'') → te ((wipe σ [j]).set j (some (.int x))) H' R)
    (q : ∀ (D : Addr) (H' : Hp) (qs : List (Addr × List Int)), Same H H' → H D = none → H' D = some (.lst (refs qs)) → AllD H' D G qs → qs.length ≤ N → Q (.ref D) H') : tLc (iList K tl) (gName j) tYes te [j] σ H Q := by
  refine hl fun a H1 zs s1 ha hz => ⟨a, rfl, ⟨_, SqL.of ha⟩, fun D hD => lc_list (K := K) (a := a) (xs := zs.map V.int) (fun i H' => Same H1 H' ∧ ∃ qs : List (Addr × List Int), H' D = some (.lst (refs qs)) ∧ AllD H' D G qs ∧ qs.length = i) ⟨same_new hD, [], upd_same, fun _ h => (nomatch h), rfl⟩ (fun i H' _ p => SqL.of (p.1 _ _ ha)) ?_ ?_⟩
  · rintro i y H2 hi ⟨s2, qs, h1, h2, h3⟩
    obtain ⟨z, hz', rfl⟩ := int_at hi
    have hlt := (List.getElem?_eq_some_iff.mp hz').1
    refine ⟨wipe_one σ j _, he z H2 _ (s1.trans s2) fun t b H3 s3 h0 hb hG => ?_⟩
    have hD3 := s3 _ _ h1
    have htD : t ≠ D := fun e => by
      rw [e, h1] at h0
      cases h0
    refine ⟨_, hD3, ?_, sOwn (s2.trans s3) hD, qs ++ [(t, b)], ?_, fun p m => ?_, ?_⟩
    · rw [List.length_map, h3]
      exact small1000 (by omega)
    · rw [upd_same]
      show _ = some (HO.lst ((qs ++ [(t, b)]).map fun p => V.ref p.1))
      rw [List.map_append]
      rfl
    · rcases List.mem_append.mp m with m | m
      · obtain ⟨g1, g2, g3⟩ := h2 p m
        refine ⟨?_, g2, g3⟩
        show upd H3 D _ p.1 = _
        rw [upd_ne g2]
        exact s3 _ _ g1
      · rw [List.mem_singleton.mp m]
        refine ⟨?_, htD, hG⟩
        show upd H3 D _ t = _
        rw [upd_ne htD]
        exact hb
    · rw [List.length_append, h3]
      rfl
  · rintro H2 ⟨s2, qs, h1, h2, h3⟩
    exact q D H2 qs (s1.trans s2) (s1.free hD) h1 h2 (by rw [h3, List.length_map]; exact hz)
end
section
variable {P : Program} {w : World} {K : PySem.W.Frag} {mg : Str → Option Value} {base : Heap} {f : Addr} {fd : FuncData}
/-! ### law -/
abbrev nLaw : List Str := ["_law_script", "_law_xs", "_law_many", "_law_bases", "_law_made", "_law_x"]
theorem scLaw : FnScope nLaw ["_law_script"] (defScope sLaw) := ⟨rfl, rfl, rfl, by decide +kernel, rfl, by decide +kernel, by decide +kernel⟩
def spLaw (K : PySem.W.Frag) : Sp := fun vs H Q _ => ∃ (a : Addr) (ns : List Int), vs = [.ref a] ∧ SqL K H a (ns.map V.int) ∧ ns.length ≤ 63 ∧ ∀ H', Q (.bl true) H'
theorem ok_law (F : FnP K "law" sLaw f fd) (T : Txt mg) (CC : Cal P w K mg base 1 "_law_cell" ["_law_script", "_law_k"] (spCell K)) (CN : Cal P w K mg base 1 "_law_numbers" ["_law_cell_here", "_law_many"] spNum)
    (CM : Cal P w K mg base 1 "_law_mask" ["_law_x", "_law_many"] spMask) (CD : Cal P w K mg base 5 "developed" ["n", "bases"] (spDev K)) (CT : Cal P w K mg base 2 "turns_told" ["layout"] spTold)
    (CU : Cal P w K mg base 6 "_law_turning" ["_law_layout_here"] spTrn) (CL : Cal P w K mg base 4 "_law_layout" ["_law_script", "_law_at"] (spLay K)) : FnOk P w K mg base CX0 7 f fd ["_law_script"] (spLaw K) := by
  refine okN F scLaw (fun vs H Q E h => ?_) (fun cdv A outer s H vs Q E hr h => ?_)
  · obtain ⟨a, ns, rfl, _⟩ := h
    rfl
  · obtain ⟨a, ns, rfl, ha, _, q⟩ := h
    have r1 := hr.mono (show 1 ≤ 6 by decide)
    have r2 := hr.mono (show 2 ≤ 6 by decide)
    have r4 := hr.mono (show 4 ≤ 6 by decide)
    have r5 := hr.mono (show 5 ≤ 6 by decide)
    refine ⟨_, pss_cons (ps_set (i := 1) scLaw.nd rfl (Or.inl rfl) (pe_cal CN r1 (by rfl) (pa_cons (pe_cal CC r1 (by rfl) (pa_cons (pv 0) (pa_cons pe_int pa_nil))) (pa_cons pe_int pa_nil))))
      (pss_cons (ps_set (i := 2) scLaw.nd rfl (Or.inr rfl) (pe_op op_add pe_int (pe_op op_mod (pe_ix ix_list (pv 1) pe_int (fun _ _ => rfl)) pe_int)))
      (pss_cons (ps_setLc (i := 3) (own := [("_law_x", 5)]) (g := gName 5) (tt := tYes) rfl scLaw.nd rfl rfl (sw_true rfl rfl rfl (by decide +kernel))
          (pi_list (pe_slice sl_list (pv 1) (po_some pe_int) (po_some (pe_op op_add pe_int (pe_op op_mod (pe_ix ix_list (pv 1) pe_int (fun _ _ => rfl)) pe_int))))) (blkOk_by (N := nLaw) (sc := defScope sLaw) (by decide +kernel))
          (fun _ _ _ _ _ => pg_name (i := 5) scLaw.nd rfl (Or.inl rfl)) (fun _ _ _ _ _ => pts_nil) (fun _ _ _ _ _ => pe_callTy (r := rListOf K) call_list_of (by rfl) T.list boot_list (pa_cons (pe_cal CM r1 (by rfl) (pa_cons (pe_op op_mod (pv 5) (pe_op op_shl pe_int (pv 2))) (pa_cons (pv 2) pa_nil))) pa_nil)))
      (pss_cons (ps_if (PW.pt (pw_and (pt_cmpR op_gt (pe_callB call_len_seq (by rfl) T.len PySem.boot_len (pa_cons (pv 3) pa_nil)) pe_int (nomark _)) (pw_and1 (pt_cmpR op_eq (pe_op op_mod (pe_ix ix_list (pv 1) pe_int (fun _ _ => rfl)) pe_int) pe_int (nomark _)))))
        (pss_one (ps_asg (pe_callTy call_list_of (by rfl) T.list boot_list (pa_cons (pe_ix ix_list (pv 3) pe_int (fun _ _ => rfl)) pa_nil)) (pg_sub (pv 3) pe_int set_list))) pss_nil)
      (pss_cons (ps_set (i := 4) scLaw.nd rfl (Or.inl rfl) (pe_cal CD r5 (by rfl) (pa_cons (pv 2) (pa_cons (pv 3) pa_nil))))
      (pss_one (ps_ret (pe_and (pe_cmpR op_eq (pe_ix ix_tup (pe_cal CT r2 (by rfl) (pa_cons (pv 4) pa_nil)) pe_int (fun _ _ => rfl)) pe_str (nomark _))
        (pe_and (pe_cal CU hr (by rfl) (pa_cons (pv 4) pa_nil)) (pe_one (pe_cal CU hr (by rfl) (pa_cons (pe_cal CL r4 (by rfl) (pa_cons (pv 0) (pa_cons pe_int pa_nil))) pa_nil))))))))))), ?_⟩
    -- the numbers
    refine rd_put ⟨_, rfl, a, ns, 2, rfl, ha, by decide, fun x H1 s1 => ⟨x, 7, rfl, by decide, fun lx H2 xs s2 hx0 hx xl xb => ?_⟩⟩
    have s12 := s1.trans s2
    refine rd_put ⟨_, rfl, lx, _, _, _, rfl, rfl, SqL.of hx, x_at (i := 0) (by omega), _, _, rfl, rfl, (show (0:Int) < 9 by decide), _, _, rfl, rfl, ?_⟩
    obtain ⟨m, hm, m1, m9⟩ : ∃ m : Nat, 1 + xs.getD 0 0 % 9 = (m : Int) ∧ 1 ≤ m ∧ m ≤ 9 := by
      have b0 : 0 ≤ xs.getD 0 0 % 9 := Int.emod_nonneg _ (by decide)
      have b1 : xs.getD 0 0 % 9 < 9 := Int.emod_lt_of_pos _ (by decide)
      exact ⟨(1 + xs.getD 0 0 % 9).toNat, by omega, by omega, by omega⟩
    dsimp only
    rw [hm]
    have hp : (0 : Int) < 1 * 2 ^ ((m : Int)).toNat := by
      rw [Int.one_mul, Int.toNat_natCast]
      exact Int.pow_pos (by decide)
    -- the bases
    refine rd_set (rd_lstsS (N := 7) (G := Good m) (by decide) (fun {R} hR => ?_) (fun x H5 R s5 h => ?_) fun D H3 qs s3 hD h1 h2 h3 => ?_)
    · refine ⟨_, rfl, _, rfl, _, rfl, lx, _, _, _, rfl, rfl, SqL.of hx, x_at (i := 1) (by omega), _, _, rfl, rfl, (show (0:Int) < 5 by decide), _, _, rfl, rfl, _, rfl, lx, _, rfl, SqL.of hx, fun l hl => ?_⟩
      rw [cut_ints]
      exact hR l _ _ (same_new hl) upd_same (Nat.le_trans (cut_len _ _ _) (by omega))
    · refine ⟨_, rfl, _, rfl, _, _, rfl, rfl, ⟨by omega, by omega, by decide⟩, _, _, rfl, rfl, hp, _, rfl, _, m, rfl, by omega, fun t H6 b s6 h0 ht hg => ⟨t, _, rfl, .inr (SqT.of ht), fun l hl => ?_⟩⟩
      exact h l b _ (sNew s6 hl) (s6.free hl) upd_same hg
    have s13 := s12.trans s3
    have hx := s3 _ _ hx
    -- the second one as the first
    refine joint2 (fun σ' H' => ∃ qs' : List (Addr × List Int), σ' = [some (.ref a), some (.ref lx), some (.int (m : Int)), some (.ref D), none, none] ∧ Same H H' ∧ H' D = some (.lst (refs qs')) ∧ AllD H' D (Good m) qs' ∧ qs'.length ≤ 7) (fun j => ?_) ?_
    · refine ⟨_, rfl, D, _, rfl, .inl (SqL.of h1), _, _, rfl, rfl, _, rfl, ite2 (fun c => ?_) fun c => j _ _ ⟨qs, rfl, s13, h1, h2, h3⟩⟩
      have c' : (1 : Int) < ((refs qs).length : Int) := of_decide_eq_true c
      rw [List.length_map] at c'
      refine ⟨_, rfl, lx, _, _, _, rfl, rfl, SqL.of hx, x_at (i := 6) (by omega), _, _, rfl, rfl, (show (0:Int) < 3 by decide), rfl, _, rfl, ite2 (fun c2 => ?_) fun c2 => j _ _ ⟨qs, rfl, s13, h1, h2, h3⟩⟩
      obtain ⟨z, hz⟩ : ∃ z, qs[0]? = some z := ⟨_, List.getElem?_eq_getElem (by omega)⟩
      obtain ⟨g1, g2, g3⟩ := h2 z (List.mem_of_getElem? hz)
      refine ⟨_, rfl, D, _, _, _, rfl, rfl, SqL.of h1, at_of (j := 0) rfl (by rw [List.getElem?_map, hz]; rfl), z.1, _, rfl, .inl (SqL.of g1), fun l hl => ?_⟩
      have hlD : l ≠ D := (ne_of_none h1 hl).symm
      have h1' : (upd H3 l (.lst (z.2.map V.int))) D = some (.lst (refs qs)) := same_new hl _ _ h1
      refine ⟨_, rfl, D, _, 1, 1, rfl, rfl, h1', ixN_of (j := 1) (by rw [List.length_map]; omega), j _ _ ⟨qs.set 1 (l, z.2), rfl, sOwn (sNew s13 hl) (s12.free hD), ?_, fun p mp => ?_, by rw [List.length_set]; exact h3⟩⟩
      · rw [upd_same]
        show _ = some (HO.lst ((qs.set 1 (l, z.2)).map fun p => V.ref p.1))
        rw [List.map_set]
      · rcases List.mem_or_eq_of_mem_set mp with mp | ep
        · obtain ⟨k1, k2, k3⟩ := h2 p mp
          refine ⟨?_, k2, k3⟩
          show upd _ D _ p.1 = _
          rw [upd_ne k2]
          exact same_new hl _ _ k1
        · rw [ep]
          refine ⟨?_, hlD, g3⟩
          show upd _ D _ l = _
          rw [upd_ne hlD]
          exact upd_same
    rintro σ H4 ⟨ps, rfl, s4, k1, k2, k3⟩
    have hgood : AllGood m (ps.map (·.2)) := fun b mb => by
      obtain ⟨p, mp, rfl⟩ := List.mem_map.mp mb
      exact (k2 p mp).2.2
    have hmany : m * ps.length ≤ 9 * 7 := Nat.mul_le_mul m9 k3
    have B : Bases K H4 m D ps := ⟨m1, by omega, SqL.of k1, fun p mp => (k2 p mp).1, hgood, by omega⟩
    -- made
    refine ⟨_, rfl, _, rfl, m, D, ps, rfl, B, fun r H5 s5 hf L => ?_⟩
    have hlen : (dev m (ps.map (·.2))).length ≤ 63 := by
      rw [dev_length, List.length_map]
      exact hmany
    have hgd := dev_good m1 hgood
    have tr := dev_trn m1 hgood
    refine ⟨_, rfl, r, m, _, rfl, L, m1, by omega, hgd, by omega, fun r2 H6 s6 hT => ?_⟩
    rcases hT with ⟨nt, _⟩ | ⟨_, TT, hT, l, zs, g1, _⟩
    · exact absurd tr nt
    refine ⟨r2, _, _, _, rfl, rfl, SqT.of g1, at_of (j := 0) rfl rfl, rfl, _, rfl, ?_⟩
    rw [decide_eq_true rfl]
    have s46 := s5.trans s6
    refine iteT ⟨_, rfl, r, m, _, rfl, L.same s6, m1, by omega, hgd, by omega, fun H7 s7 => ⟨true, rfl, iteT ?_⟩⟩
    have s07 := s4.trans (s46.trans s7)
    exact ⟨_, rfl, a, ns, 0, rfl, s07.seq ha, by decide, fun r3 H8 n bs s8 L8 hn hn9 hg8 hl8 => ⟨r3, n, bs, rfl, L8, hn, by omega, hg8, by omega, fun H9 s9 => q H9⟩⟩
end
end K95

set_option Elab.async false
set_option linter.all false
set_option maxRecDepth 100000
set_option maxHeartbeats 0
namespace K95
open PySem PySem.Spec PyProof.Rows L2
theorem Cal.of {P : Program} {w : World} {K : PySem.W.Frag} {mg : Str → Option Value} {base : Heap} {k : Nat} {x : Str} {ps : List Str} {sp : Sp} {f : Addr} {fd : FuncData} (ok : FnOk P w K mg base CX0 k f fd ps sp) (g : mg x = some (.ref f)) (kp : PySem.W.keepIn K (.ref f) = true) (b : Binds K fd ps []) : Cal P w K mg base k x ps sp := ⟨⟨f, fd, ok, g, kp, b⟩⟩
theorem facts {P : Program} {w : World} {K : PySem.W.Frag} {h : Heap} {mg : Str → Option Value} {f : Addr} (X : K.In h) (G : h.Ns mainGlobals mg) (hfa : mg ("law" : Str) = some (.ref f)) (c : He.SaysD fa fn K) :
    ∃ fd : FuncData, (∀ (s : Shared) (v : Value), BindsTo s fd ⟨[v], []⟩ [("_law_script", v)]) ∧ ∀ base : Heap, K.In base → base.Ns mainGlobals mg → FnOk P w K mg base CX0 7 f fd ["_law_script"] (spLaw K) := by
  obtain ⟨fdWL, FWL⟩ := c.def_ 0 (d := dd "is_whole_layouts" "is_whole" sWholeL) rfl
  obtain ⟨fdPT, FPT⟩ := c.def_ 1 (d := dd "is_point" "is_point" sPoint) rfl
  obtain ⟨fdBK, FBK⟩ := c.def_ 2 (d := dd "is_block" "is_block" sBlock) rfl
  obtain ⟨fdSL, FSL⟩ := c.def_ 3 (d := dd "sorted_layout" "sorted_layout" sSorted) rfl
  obtain ⟨fdRO, FRO⟩ := c.def_ 4 (d := dd "is_row" "is_row" sIsRow) rfl
  obtain ⟨fdRN, FRN⟩ := c.def_ 5 (d := dd "renamed" "renamed" sRenamed) rfl
  obtain ⟨fdWN, FWN⟩ := c.def_ 6 (d := dd "is_whole_numbers" "is_whole" sWholeN) rfl
  obtain ⟨fdCK, FCK⟩ := c.def_ 7 (d := dd "check_bases" "check_bases" sCheck) rfl
  obtain ⟨fdTU, FTU⟩ := c.def_ 8 (d := dd "turned" "turned" sTurned) rfl
  obtain ⟨fdDV, FDV⟩ := c.def_ 9 (d := dd "developed" "developed" sDev) rfl
  obtain ⟨fdCO, FCO⟩ := c.def_ 10 (d := dd "counted" "counted" sCounted) rfl
  obtain ⟨fdTO, FTO⟩ := c.def_ 11 (d := dd "turns_told" "turns_told" sTold) rfl
  obtain ⟨fdCP, FCP⟩ := c.def_ 12 (d := dd "complement" "complement" sCompl) rfl
  obtain ⟨fdLC, FLC⟩ := c.def_ 13 (d := dd "_law_cell" "_law_cell" sCell) rfl
  obtain ⟨fdLN, FLN⟩ := c.def_ 14 (d := dd "_law_numbers" "_law_numbers" sNumbers) rfl
  obtain ⟨fdLR, FLR⟩ := c.def_ 15 (d := dd "_law_row" "_law_row" sRow) rfl
  obtain ⟨fdLM, FLM⟩ := c.def_ 16 (d := dd "_law_mask" "_law_mask" sMask) rfl
  obtain ⟨fdLZ, FLZ⟩ := c.def_ 17 (d := dd "_law_of_size" "_law_of_size" sOfSize) rfl
  obtain ⟨fdLS, FLS⟩ := c.def_ 18 (d := dd "_law_all_sets" "_law_all_sets" sAllSets) rfl
  obtain ⟨fdLB, FLB⟩ := c.def_ 19 (d := dd "_law_turned_base" "_law_turned_base" sTurnedBase) rfl
  obtain ⟨fdLE, FLE⟩ := c.def_ 20 (d := dd "_law_even_blocks" "_law_even_blocks" sEven) rfl
  obtain ⟨fdLL, FLL⟩ := c.def_ 21 (d := dd "_law_layout" "_law_layout" sLayout) rfl
  obtain ⟨fdLQ, FLQ⟩ := c.def_ 22 (d := dd "_law_rebuilt" "_law_rebuilt" sRebuilt) rfl
  obtain ⟨fdLT, FLT⟩ := c.def_ 23 (d := dd "_law_turning" "_law_turning" sTurning) rfl
  obtain ⟨fd, F⟩ := c.def_ 24 (d := dd "law" "law" sLaw) rfl
  have e := hfa.symm.trans (He.glo_ok X G (c.fact 38 (f := .glo "law") rfl))
  cases e
  have b := FunD.bindsA (ps := ["_law_script"]) F fun _ _ _ _ _ _ us hl => match us, hl with | [_], _ => rfl
  have T : Txt mg := ⟨He.free_ok X G (c.fact 2 (f := .free "isinstance") rfl), He.free_ok X G (c.fact 3 (f := .free "int") rfl), He.free_ok X G (c.fact 4 (f := .free "bool") rfl), He.free_ok X G (c.fact 5 (f := .free "list") rfl), He.free_ok X G (c.fact 6 (f := .free "tuple") rfl), He.free_ok X G (c.fact 7 (f := .free "len") rfl), He.free_ok X G (c.fact 8 (f := .free "all") rfl), He.free_ok X G (c.fact 9 (f := .free "set") rfl), He.free_ok X G (c.fact 10 (f := .free "sorted") rfl), He.free_ok X G (c.fact 11 (f := .free "range") rfl), He.free_ok X G (c.fact 12 (f := .free "min") rfl), He.free_ok X G (c.fact 13 (f := .free "abs") rfl), He.int_ok X G (c.fact 0 (f := .int "MOST_POINTS" 60) rfl), He.int_ok X G (c.fact 1 (f := .int "MOST_BLOCKS" 200) rfl)⟩
  refine ⟨fd, fun s v => b s [v] rfl, fun base _ _ => ?_⟩
  have bWL : Binds K fdWL ["thing"] [] := FWL.bindsN fun _ _ _ _ _ _ us hl => match us, hl with | [_], _ => rfl
  have gWL := He.glo_ok X G (c.fact 14 (f := .glo "is_whole_layouts") rfl)
  have cWL : Cal P w K mg base 1 "is_whole_layouts" ["thing"] spWhole := Cal.of (ok_wholeL FWL T) gWL FWL.kp bWL
  have bPT : Binds K fdPT ["thing", "points"] [] := FPT.bindsN fun _ _ _ _ _ _ us hl => match us, hl with | [_, _], _ => rfl
  have gPT := He.glo_ok X G (c.fact 15 (f := .glo "is_point") rfl)
  have cPT : Cal P w K mg base 2 "is_point" ["thing", "points"] spPoint := Cal.of (ok_point FPT T cWL) gPT FPT.kp bPT
  have bBK : Binds K fdBK ["things", "points"] [] := FBK.bindsN fun _ _ _ _ _ _ us hl => match us, hl with | [_, _], _ => rfl
  have gBK := He.glo_ok X G (c.fact 16 (f := .glo "is_block") rfl)
  have cBK : Cal P w K mg base 3 "is_block" ["things", "points"] (spBlock K) := Cal.of (ok_block FBK T cPT) gBK FBK.kp bBK
  have bSL : Binds K fdSL ["layout"] [] := FSL.bindsN fun _ _ _ _ _ _ us hl => match us, hl with | [_], _ => rfl
  have gSL := He.glo_ok X G (c.fact 17 (f := .glo "sorted_layout") rfl)
  have cSL : Cal P w K mg base 1 "sorted_layout" ["layout"] spSorted := Cal.of (ok_sorted FSL T) gSL FSL.kp bSL
  have bRO : Binds K fdRO ["row", "points"] [] := FRO.bindsN fun _ _ _ _ _ _ us hl => match us, hl with | [_, _], _ => rfl
  have gRO := He.glo_ok X G (c.fact 18 (f := .glo "is_row") rfl)
  have cRO : Cal P w K mg base 4 "is_row" ["row", "points"] spIsRow := Cal.of (ok_isRow FRO T cBK) gRO FRO.kp bRO
  have bRN : Binds K fdRN ["layout", "row"] [] := FRN.bindsN fun _ _ _ _ _ _ us hl => match us, hl with | [_, _], _ => rfl
  have gRN := He.glo_ok X G (c.fact 19 (f := .glo "renamed") rfl)
  have cRN : Cal P w K mg base 5 "renamed" ["layout", "row"] spRenamed := Cal.of (ok_renamed FRN T cRO) gRN FRN.kp bRN
  have bWN : Binds K fdWN ["thing"] [] := FWN.bindsN fun _ _ _ _ _ _ us hl => match us, hl with | [_], _ => rfl
  have gWN := He.glo_ok X G (c.fact 20 (f := .glo "is_whole_numbers") rfl)
  have cWN : Cal P w K mg base 1 "is_whole_numbers" ["thing"] spWhole := Cal.of (ok_wholeN FWN T) gWN FWN.kp bWN
  have bCK : Binds K fdCK ["n", "bases"] [] := FCK.bindsN fun _ _ _ _ _ _ us hl => match us, hl with | [_, _], _ => rfl
  have gCK := He.glo_ok X G (c.fact 21 (f := .glo "check_bases") rfl)
  have cCK : Cal P w K mg base 4 "check_bases" ["n", "bases"] (spCheck K) := Cal.of (ok_check FCK T cWN cBK) gCK FCK.kp bCK
  have bTU : Binds K fdTU ["block", "by", "n"] [] := FTU.bindsN fun _ _ _ _ _ _ us hl => match us, hl with | [_, _, _], _ => rfl
  have gTU := He.glo_ok X G (c.fact 22 (f := .glo "turned") rfl)
  have cTL : Cal P w K mg base 1 "turned" ["block", "by", "n"] (spTurnedL K) := Cal.of (ok_turnedL FTU T) gTU FTU.kp bTU
  have cTT : Cal P w K mg base 1 "turned" ["block", "by", "n"] (spTurnedT K) := Cal.of (ok_turnedT FTU T) gTU FTU.kp bTU
  have bDV : Binds K fdDV ["n", "bases"] [] := FDV.bindsN fun _ _ _ _ _ _ us hl => match us, hl with | [_, _], _ => rfl
  have gDV := He.glo_ok X G (c.fact 23 (f := .glo "developed") rfl)
  have cDV : Cal P w K mg base 5 "developed" ["n", "bases"] (spDev K) := Cal.of (ok_dev FDV T cCK cTL) gDV FDV.kp bDV
  have bCO : Binds K fdCO ["blocks"] [] := FCO.bindsN fun _ _ _ _ _ _ us hl => match us, hl with | [_], _ => rfl
  have gCO := He.glo_ok X G (c.fact 24 (f := .glo "counted") rfl)
  have cCO : Cal P w K mg base 1 "counted" ["blocks"] (spCounted K) := Cal.of (ok_counted FCO) gCO FCO.kp bCO
  have bTO : Binds K fdTO ["layout"] [] := FTO.bindsN fun _ _ _ _ _ _ us hl => match us, hl with | [_], _ => rfl
  have gTO := He.glo_ok X G (c.fact 25 (f := .glo "turns_told") rfl)
  have cTO : Cal P w K mg base 2 "turns_told" ["layout"] spTold := Cal.of (ok_told FTO T cCO cTT) gTO FTO.kp bTO
  have bCP : Binds K fdCP ["layout"] [] := FCP.bindsN fun _ _ _ _ _ _ us hl => match us, hl with | [_], _ => rfl
  have gCP := He.glo_ok X G (c.fact 26 (f := .glo "complement") rfl)
  have cCP : Cal P w K mg base 1 "complement" ["layout"] spCompl := Cal.of (ok_compl FCP T) gCP FCP.kp bCP
  have bLC : Binds K fdLC ["_law_script", "_law_k"] [] := FLC.bindsN fun _ _ _ _ _ _ us hl => match us, hl with | [_, _], _ => rfl
  have gLC := He.glo_ok X G (c.fact 27 (f := .glo "_law_cell") rfl)
  have cLC : Cal P w K mg base 1 "_law_cell" ["_law_script", "_law_k"] (spCell K) := Cal.of (ok_cell FLC T) gLC FLC.kp bLC
  have bLN : Binds K fdLN ["_law_cell_here", "_law_many"] [] := FLN.bindsN fun _ _ _ _ _ _ us hl => match us, hl with | [_, _], _ => rfl
  have gLN := He.glo_ok X G (c.fact 28 (f := .glo "_law_numbers") rfl)
  have cLN : Cal P w K mg base 1 "_law_numbers" ["_law_cell_here", "_law_many"] spNum := Cal.of (ok_num FLN T) gLN FLN.kp bLN
  have bLR : Binds K fdLR ["_law_xs", "_law_many"] [] := FLR.bindsN fun _ _ _ _ _ _ us hl => match us, hl with | [_, _], _ => rfl
  have gLR := He.glo_ok X G (c.fact 29 (f := .glo "_law_row") rfl)
  have cLR : Cal P w K mg base 1 "_law_row" ["_law_xs", "_law_many"] (spRow K) := Cal.of (ok_row FLR T) gLR FLR.kp bLR
  have bLM : Binds K fdLM ["_law_x", "_law_many"] [] := FLM.bindsN fun _ _ _ _ _ _ us hl => match us, hl with | [_, _], _ => rfl
  have gLM := He.glo_ok X G (c.fact 30 (f := .glo "_law_mask") rfl)
  have cLM : Cal P w K mg base 1 "_law_mask" ["_law_x", "_law_many"] spMask := Cal.of (ok_mask FLM T) gLM FLM.kp bLM
  have bLZ : Binds K fdLZ ["_law_x", "_law_many", "_law_size"] [] := FLZ.bindsN fun _ _ _ _ _ _ us hl => match us, hl with | [_, _, _], _ => rfl
  have gLZ := He.glo_ok X G (c.fact 31 (f := .glo "_law_of_size") rfl)
  have cLZ : Cal P w K mg base 1 "_law_of_size" ["_law_x", "_law_many", "_law_size"] spSize := Cal.of (ok_size FLZ T) gLZ FLZ.kp bLZ
  have bLS : Binds K fdLS ["_law_many", "_law_size"] [] := FLS.bindsN fun _ _ _ _ _ _ us hl => match us, hl with | [_, _], _ => rfl
  have gLS := He.glo_ok X G (c.fact 32 (f := .glo "_law_all_sets") rfl)
  have cLS : Cal P w K mg base 2 "_law_all_sets" ["_law_many", "_law_size"] spSets := Cal.of (ok_sets FLS T cLM) gLS FLS.kp bLS
  have bLB : Binds K fdLB ["_law_base", "_law_many"] [] := FLB.bindsN fun _ _ _ _ _ _ us hl => match us, hl with | [_, _], _ => rfl
  have gLB := He.glo_ok X G (c.fact 33 (f := .glo "_law_turned_base") rfl)
  have cBL : Cal P w K mg base 1 "_law_turned_base" ["_law_base", "_law_many"] (spTBL K) := Cal.of (ok_TBL FLB T) gLB FLB.kp bLB
  have cBT : Cal P w K mg base 1 "_law_turned_base" ["_law_base", "_law_many"] (spTBT K) := Cal.of (ok_TBT FLB T) gLB FLB.kp bLB
  have bLE : Binds K fdLE ["_law_x", "_law_y"] [] := FLE.bindsN fun _ _ _ _ _ _ us hl => match us, hl with | [_, _], _ => rfl
  have gLE := He.glo_ok X G (c.fact 34 (f := .glo "_law_even_blocks") rfl)
  have cLE : Cal P w K mg base 3 "_law_even_blocks" ["_law_x", "_law_y"] spEven := Cal.of (ok_even FLE T cLM cLS cBL cBT) gLE FLE.kp bLE
  have bLL : Binds K fdLL ["_law_script", "_law_at"] [] := FLL.bindsN fun _ _ _ _ _ _ us hl => match us, hl with | [_, _], _ => rfl
  have gLL := He.glo_ok X G (c.fact 35 (f := .glo "_law_layout") rfl)
  have cLL : Cal P w K mg base 4 "_law_layout" ["_law_script", "_law_at"] (spLay K) := Cal.of (ok_lay FLL T cLC cLN cLM cLZ cLE cLR) gLL FLL.kp bLL
  have bLQ : Binds K fdLQ ["_law_many", "_law_bases"] [] := FLQ.bindsN fun _ _ _ _ _ _ us hl => match us, hl with | [_, _], _ => rfl
  have gLQ := He.glo_ok X G (c.fact 36 (f := .glo "_law_rebuilt") rfl)
  have cLQ : Cal P w K mg base 2 "_law_rebuilt" ["_law_many", "_law_bases"] spReb := Cal.of (ok_reb FLQ T cBT) gLQ FLQ.kp bLQ
  have bLT : Binds K fdLT ["_law_layout_here"] [] := FLT.bindsN fun _ _ _ _ _ _ us hl => match us, hl with | [_], _ => rfl
  have gLT := He.glo_ok X G (c.fact 37 (f := .glo "_law_turning") rfl)
  have cLT : Cal P w K mg base 6 "_law_turning" ["_law_layout_here"] spTrn := Cal.of (ok_trn FLT T cSL cRN cTO cCP cLQ cDV cBT) gLT FLT.kp bLT
  exact ok_law F T cLC cLN cLM cDV cTO cLT cLL
end K95
open PySem PySem.W PySem.Calls PyProof.Rows
theorem PySem.Challenge.cw_evenmeet_k95_whole_turned_from_bases_holds : PySem.Challenge.rw_evenmeet_k95_whole_turned_from_bases.Holds := by
  w_on; o_law
  refine HandSHeadRun.head_any (r := OpenLaw.row PySem.Challenge.rw_evenmeet_k95_whole_turned_from_bases) (q := view (OpenLaw.row PySem.Challenge.rw_evenmeet_k95_whole_turned_from_bases).prog [37]) (H := K95.hk) (ob := K95.ob) (M := 3000) (loose := K95.names) (d := HandSHeadRun.topDef (OpenLaw.row PySem.Challenge.rw_evenmeet_k95_whole_turned_from_bases).prog 37) (kwd := []) K95.ob_eq
    (by kernel_rfl) (fun s => by kernel_rfl) K95.run (by kernel_rfl) (by kernel_rfl) (by kernel_rfl) (by rfl) (by first | assumption | decide +kernel) (by decide +kernel) ⟨rfl, rfl, rfl, rfl, rfl, by decide +kernel⟩ ?hw ?hc
  case hw => w_witness2
  case hc =>
    refine L2.walk_ofE (l := PySem.Challenge.rw_evenmeet_k95_whole_turned_from_bases) (n := 63) (k := 7) (x := "_law_script") (CX := L2.CX0) rfl (by decide) (by kernel_rfl) ⟨rfl, by decide, by decide⟩ ?F (fun _ _ _ _ z => z)
    intro w mg fa h Y G hmg0
    obtain ⟨K, KX, c⟩ := Y
    have hmg : mg ("law" : PySem.Str) = some (.ref fa) := by
      have e : (HandSHeadRun.topDef (OpenLaw.row PySem.Challenge.rw_evenmeet_k95_whole_turned_from_bases).prog 37).name = ("law" : PySem.Str) := by kernel_rfl
      rw [← e]
      exact hmg0
    obtain ⟨fd, hb, hF⟩ := K95.facts (P := (PySem.Challenge.rw_evenmeet_k95_whole_turned_from_bases).prog) (w := w) KX G hmg c
    exact ⟨K, fd, K95.spLaw K, KX, hb, fun H a ns hl _ hS => ⟨a, ns, rfl, hS, hl, fun _ => rfl⟩, hF⟩

