import PyProof.Rows.All
import Wide.All
import OpenK.AllK
import Wide.FinOn
import HandS.ForMost
import HandS.ForExc
import HandS.Evl
import HandS.IsInst
import HandS.WideBits
import HandS.EndBits
import HandS.SortInts
import HandS.Style
import PySem.Challenge.RW_sortless_k03_whole_round_of
set_option Elab.async false
set_option linter.all false
set_option maxRecDepth 100000
set_option maxHeartbeats 4000000
namespace Sl
/-! ### the mathematics: powers, figures, sorting, a step -/
/-- a power -/
def pw (b : Int) : Nat → Int
  | 0 => 1
  | k + 1 => pw b k * b
/-- the figures, the last one first -/
def figs (b : Int) (L : Nat) (n : Int) : List Int := (List.range L).map fun i => (n / pw b i) % b
/-- the number that figures write -/
def wr (b : Int) (ds : List Int) : Int := ds.foldl (fun a d => a * b + d) 0
/-- sorted -/
def srt (l : List Int) : List Int := l.mergeSort (fun a b => decide (a ≤ b))
def stepM (b : Int) (L : Nat) (n : Int) : Int := wr b (srt (figs b L n)).reverse - wr b (srt (figs b L n))
/-- all are figures of the base -/
def Digs (b : Int) (l : List Int) : Prop := ∀ d ∈ l, 0 ≤ d ∧ d < b

/-- a number of a base and a length -/
def Dom (b l n : Int) : Prop := (2 ≤ b ∧ b ≤ 12 ∧ 1 ≤ l ∧ l ≤ 8) ∧ 0 ≤ n ∧ n < pw b l.toNat
theorem pw_succ' (b : Int) : ∀ k, pw b (k + 1) = b * pw b k
  | 0 => by show 1 * b = b * 1; omega
  | k + 1 => by
    show pw b (k + 1) * b = b * (pw b k * b)
    rw [pw_succ' b k, Int.mul_assoc]
theorem pw_pos {b : Int} (hb : 0 < b) : ∀ k, 0 < pw b k
  | 0 => by show (0 : Int) < 1; decide
  | k + 1 => Int.mul_pos (pw_pos hb k) hb
theorem pw_mono {b c : Int} (h0 : 0 ≤ b) (h : b ≤ c) : ∀ k, pw b k ≤ pw c k
  | 0 => Int.le_refl _
  | k + 1 => Int.mul_le_mul (pw_mono h0 h k) h h0 (by
    have : ∀ j, 0 ≤ pw c j := fun j => by
      induction j with
      | zero => show (0 : Int) ≤ 1; decide
      | succ j ih => exact Int.mul_nonneg ih (Int.le_trans h0 h)
    exact this k)
theorem pw_up {b : Int} (hb : 1 ≤ b) {j k : Nat} (h : j ≤ k) : pw b j ≤ pw b k := by
  induction k with
  | zero =>
    have : j = 0 := by omega
    subst this
    exact Int.le_refl _
  | succ k ih =>
    by_cases e : j = k + 1
    · subst e
      exact Int.le_refl _
    · have h1 := ih (by omega)
      have h2 : pw b k * 1 ≤ pw b k * b := Int.mul_le_mul_of_nonneg_left hb (Int.le_of_lt (pw_pos (by omega) k))
      rw [Int.mul_one] at h2
      exact Int.le_trans h1 h2
theorem pw_le {b : Int} (h0 : 2 ≤ b) (h : b ≤ 12) {k : Nat} (hk : k ≤ 8) : pw b k ≤ 429981696 := by
  have h1 := pw_up (b := b) (by omega) hk
  have h2 := pw_mono (b := b) (c := 12) (by omega) h 8
  have h3 : pw 12 8 = 429981696 := by decide
  omega
theorem pw_add (b : Int) (j : Nat) : ∀ k, pw b (j + k) = pw b j * pw b k
  | 0 => by show pw b j = pw b j * 1; omega
  | k + 1 => by
    show pw b (j + k) * b = pw b j * (pw b k * b)
    rw [pw_add b j k, Int.mul_assoc]
theorem div_pw {b : Int} (hb : 0 < b) (n : Int) (i : Nat) : n / pw b (i + 1) = n / pw b i / b := by
  show n / (pw b i * b) = n / pw b i / b
  rw [Int.ediv_ediv_of_nonneg (Int.le_of_lt (pw_pos hb i))]
theorem figs_length (b : Int) (L : Nat) (n : Int) : (figs b L n).length = L := by simp [figs]
theorem figs_succ (b : Int) (L : Nat) (n : Int) : figs b (L + 1) n = figs b L n ++ [(n / pw b L) % b] := by
  simp [figs, List.range_succ]
theorem figs_cons {b : Int} (hb : 0 < b) (L : Nat) (n : Int) : figs b (L + 1) n = (n % b) :: figs b L (n / b) := by
  induction L with
  | zero =>
    show [(n / 1) % b] = [n % b]
    rw [Int.ediv_one]
  | succ L ih =>
    rw [figs_succ, ih, figs_succ b L (n / b)]
    have e : n / b / pw b L = n / pw b (L + 1) := by
      rw [pw_succ', Int.ediv_ediv_of_nonneg (Int.le_of_lt hb)]
    rw [e]
    rfl
theorem figs_digs {b : Int} (hb : 0 < b) (L : Nat) (n : Int) : Digs b (figs b L n) := by
  intro d hd
  simp only [figs, List.mem_map] at hd
  obtain ⟨i, _, rfl⟩ := hd
  exact ⟨Int.emod_nonneg _ (by omega), Int.emod_lt_of_pos _ hb⟩
theorem wr_append (b : Int) (l : List Int) (d : Int) : wr b (l ++ [d]) = wr b l * b + d := by
  simp [wr, List.foldl_append]
theorem wr_cons (b : Int) (d : Int) (l : List Int) : wr b (d :: l) = d * pw b l.length + wr b l := by
  have key : ∀ (l : List Int) (a : Int), l.foldl (fun a d => a * b + d) a = a * pw b l.length + wr b l := by
    intro l
    induction l with
    | nil => intro a; show a = a * 1 + 0; omega
    | cons x l ih =>
      intro a
      show l.foldl (fun a d => a * b + d) (a * b + x) = a * pw b (l.length + 1) + l.foldl (fun a d => a * b + d) (0 * b + x)
      rw [ih, ih (0 * b + x), pw_succ', Int.add_mul, Int.zero_mul, Int.zero_add, Int.mul_assoc]
      omega
  show l.foldl (fun a d => a * b + d) (0 * b + d) = _
  rw [key, Int.zero_mul, Int.zero_add]
theorem Digs.cons {b d : Int} {l : List Int} (h : Digs b (d :: l)) : (0 ≤ d ∧ d < b) ∧ Digs b l := ⟨h d (by simp), fun x hx => h x (by simp [hx])⟩
theorem Digs.perm {b : Int} {l k : List Int} (h : Digs b l) (p : k.Perm l) : Digs b k := fun d hd => h d (p.mem_iff.mp hd)
theorem wr_bound {b : Int} (hb : 0 < b) : ∀ {l : List Int}, Digs b l → 0 ≤ wr b l ∧ wr b l < pw b l.length
  | [], _ => ⟨Int.le_refl _, by show (0 : Int) < 1; decide⟩
  | d :: l, h => by
    obtain ⟨⟨h1, h2⟩, h3⟩ := h.cons
    obtain ⟨h4, h5⟩ := wr_bound hb h3
    have hp := pw_pos hb l.length
    rw [wr_cons]
    have h6 : 0 ≤ d * pw b l.length := Int.mul_nonneg h1 (Int.le_of_lt hp)
    have h7 : d * pw b l.length ≤ (b - 1) * pw b l.length := Int.mul_le_mul_of_nonneg_right (by omega) (Int.le_of_lt hp)
    rw [Int.sub_mul, Int.one_mul] at h7
    refine ⟨by omega, ?_⟩
    show _ < pw b l.length * b
    rw [Int.mul_comm (pw b l.length) b]
    omega
/-- a number by its figures -/
theorem wr_figs {b : Int} (hb : 0 < b) : ∀ (L : Nat) (n : Int), 0 ≤ n → n < pw b L → wr b (figs b L n).reverse = n
  | 0, n, h0, h1 => by
    have h1' : n < 1 := h1
    show (0 : Int) = n
    omega
  | L + 1, n, h0, h1 => by
    rw [figs_cons hb, List.reverse_cons, wr_append]
    have hq : n / b < pw b L := by
      refine Int.ediv_lt_of_lt_mul hb ?_
      exact h1
    rw [wr_figs hb L (n / b) (Int.ediv_nonneg h0 (Int.le_of_lt hb)) hq]
    have e := Int.mul_ediv_add_emod n b
    rw [Int.mul_comm] at e
    exact e
theorem figs_wr {b : Int} (hb : 0 < b) : ∀ {l : List Int}, Digs b l → figs b l.length (wr b l.reverse) = l
  | [], _ => rfl
  | d :: l, h => by
    obtain ⟨⟨h1, h2⟩, h3⟩ := h.cons
    rw [List.reverse_cons, wr_append]
    show figs b (l.length + 1) _ = _
    rw [figs_cons hb]
    have e1 : (wr b l.reverse * b + d) % b = d := by
      rw [Int.add_comm, Int.add_mul_emod_self_right, Int.emod_eq_of_lt h1 h2]
    have e2 : (wr b l.reverse * b + d) / b = wr b l.reverse := by
      rw [Int.add_comm, Int.add_mul_ediv_right _ _ (by omega), Int.ediv_eq_zero_of_lt h1 h2]
      omega
    rw [e1, e2, figs_wr hb h3]
/-! sorting -/
theorem srt_perm (l : List Int) : (srt l).Perm l := List.mergeSort_perm l _
theorem srt_sorted (l : List Int) : (srt l).Pairwise (· ≤ ·) := by
  have h := List.pairwise_mergeSort (le := fun a b : Int => decide (a ≤ b)) (fun a b c h1 h2 => by
    have h1 := of_decide_eq_true h1
    have h2 := of_decide_eq_true h2
    exact decide_eq_true (Int.le_trans h1 h2)) (fun a b => by
    rcases Int.le_total a b with h | h
    · simp [h]
    · simp [h]) l
  exact h.imp fun h => of_decide_eq_true h
theorem sort_one {l k : List Int} (h1 : l.Pairwise (· ≤ ·)) (h2 : k.Pairwise (· ≤ ·)) (p : l.Perm k) : l = k :=
  List.Perm.eq_of_pairwise (fun _ _ _ _ a b => Int.le_antisymm a b) h1 h2 p
theorem srt_of {l k : List Int} (p : k.Perm l) (h : k.Pairwise (· ≤ ·)) : k = srt l := sort_one h (srt_sorted l) (p.trans (srt_perm l).symm)
theorem srt_congr {l k : List Int} (p : k.Perm l) : srt k = srt l := srt_of ((srt_perm k).trans p) (srt_sorted k)
theorem srt_length (l : List Int) : (srt l).length = l.length := (srt_perm l).length_eq
/-! how much a list written from its end exceeds it -/
theorem ends_ind {P : List Int → Prop} (h0 : P []) (h1 : ∀ x, P [x]) (h2 : ∀ x m y, P m → P (x :: (m ++ [y]))) (l : List Int) : P l := by
  have key : ∀ n (l : List Int), l.length ≤ n → P l := by
    intro n
    induction n with
    | zero =>
      intro l h
      have : l = [] := List.length_eq_zero_iff.mp (by omega)
      subst this
      exact h0
    | succ n ih =>
      intro l h
      cases l with
      | nil => exact h0
      | cons x r =>
        rcases List.eq_nil_or_concat r with e | ⟨m, y, e⟩
        · subst e
          exact h1 x
        · subst e
          rw [List.concat_eq_append] at *
          refine h2 x m y (ih m ?_)
          simp at h
          omega
  exact key l.length l (Nat.le_refl _)
theorem wr_peel (b x y : Int) (m : List Int) : wr b (x :: (m ++ [y])) = x * pw b (m.length + 1) + wr b m * b + y := by
  rw [wr_cons, wr_append, List.length_append]
  show x * pw b (m.length + 1) + (wr b m * b + y) = _
  omega
theorem rev_peel (x y : Int) (m : List Int) : (x :: (m ++ [y])).reverse = y :: (m.reverse ++ [x]) := by simp
theorem diff_peel (b x y : Int) (m : List Int) : wr b (x :: (m ++ [y])).reverse - wr b (x :: (m ++ [y])) = (y - x) * (pw b (m.length + 1) - 1) + b * (wr b m.reverse - wr b m) := by
  rw [rev_peel, wr_peel, wr_peel, List.length_reverse, Int.sub_mul, Int.mul_sub, Int.mul_sub, Int.mul_sub, Int.mul_one, Int.mul_one, Int.mul_comm b, Int.mul_comm b]
  omega
theorem down_ge {b : Int} (hb : 1 ≤ b) (l : List Int) : l.Pairwise (· ≤ ·) → 0 ≤ wr b l.reverse - wr b l := by
  induction l using ends_ind with
  | h0 => intro _; show (0 : Int) ≤ wr b [] - wr b []; omega
  | h1 x => intro _; show (0 : Int) ≤ wr b [x] - wr b [x]; omega
  | h2 x m y ih =>
    intro h
    obtain ⟨h1, h2⟩ := List.pairwise_cons.mp h
    have h3 := (List.pairwise_append.mp h2).1
    have hxy : x ≤ y := h1 y (by simp)
    rw [diff_peel]
    have a1 : 0 ≤ (y - x) * (pw b (m.length + 1) - 1) := Int.mul_nonneg (by omega) (by
      have := pw_pos (b := b) (by omega) (m.length + 1)
      omega)
    have a2 : 0 ≤ b * (wr b m.reverse - wr b m) := Int.mul_nonneg (by omega) (ih h3)
    omega
theorem step_bound {b : Int} (hb : 2 ≤ b) (L : Nat) (n : Int) : 0 ≤ stepM b L n ∧ stepM b L n < pw b L := by
  have h1 := down_ge (b := b) (by omega) (srt (figs b L n)) (srt_sorted _)
  have d0 : Digs b (srt (figs b L n)) := (figs_digs (by omega) L n).perm (srt_perm _)
  have d1 : Digs b (srt (figs b L n)).reverse := d0.perm (List.reverse_perm _)
  have w0 := wr_bound (b := b) (by omega) d0
  have w1 := wr_bound (b := b) (by omega) d1
  rw [List.length_reverse, srt_length, figs_length] at w1
  unfold stepM
  omega
/-! by how often each figure is there -/
/-- the figures from the least on, by how often each is there -/
def lup (b : Nat) (l : List Int) : List Int := (List.range b).flatMap fun (f : Nat) => List.replicate (l.count (f : Int)) (f : Int)
/-- from the greatest on -/
def ldn (b : Nat) (l : List Int) : List Int := (List.range b).flatMap fun (f : Nat) => List.replicate (l.count ((b : Int) - 1 - (f : Int))) ((b : Int) - 1 - (f : Int))
theorem sum_ite (d : Nat) (g : Nat → Nat) : ∀ n, ((List.range n).map fun f => if f = d then g f else 0).sum = if d < n then g d else 0
  | 0 => rfl
  | n + 1 => by
    rw [List.range_succ, List.map_append, List.sum_append, sum_ite d g n]
    simp only [List.map_cons, List.map_nil, List.sum_cons, List.sum_nil]
    split <;> split <;> split <;> first | omega | (subst_vars; omega)
theorem lup_count {b : Nat} {l : List Int} (h : Digs b l) (d : Int) : (lup b l).count d = l.count d := by
  unfold lup
  rw [List.count_flatMap]
  by_cases hd : 0 ≤ d ∧ d < (b : Int)
  · obtain ⟨k, rfl⟩ := Int.eq_ofNat_of_zero_le hd.1
    have e : (List.map (List.count (k : Int) ∘ fun f : Nat => List.replicate (List.count (f : Int) l) (f : Int)) (List.range b)) = (List.range b).map fun f => if f = k then l.count (f : Int) else 0 := by
      refine List.map_congr_left fun f _ => ?_
      show List.count (k : Int) (List.replicate (List.count (f : Int) l) (f : Int)) = _
      rw [List.count_replicate]
      by_cases e : f = k
      · subst e; simp
      · have : ¬ ((f : Int) == (k : Int)) = true := by
          simp only [beq_iff_eq]
          omega
        rw [if_neg this, if_neg e]
    rw [e, sum_ite, if_pos (by omega)]
  · have e1 : l.count d = 0 := List.count_eq_zero.mpr fun hm => hd (h d hm)
    rw [e1]
    have e : (List.map (List.count d ∘ fun f : Nat => List.replicate (List.count (f : Int) l) (f : Int)) (List.range b)) = (List.range b).map fun _ => 0 := by
      refine List.map_congr_left fun f hf => ?_
      show List.count d (List.replicate (List.count (f : Int) l) (f : Int)) = 0
      rw [List.count_replicate]
      have hfb := List.mem_range.mp hf
      have : ¬ ((f : Int) == d) = true := by
        simp only [beq_iff_eq]
        omega
      rw [if_neg this]
    rw [e]
    clear e h
    have z : ∀ n, ((List.range n).map fun _ => 0).sum = 0 := fun n => by
      induction n with
      | zero => rfl
      | succ n ih => rw [List.range_succ, List.map_append, List.sum_append, ih] <;> rfl
    exact z b
theorem lup_srt {b : Nat} {l : List Int} (h : Digs b l) : lup b l = srt l := by
  refine srt_of (List.perm_iff_count.mpr fun d => lup_count h d) ?_
  unfold lup
  rw [List.pairwise_flatMap]
  refine ⟨fun f _ => List.pairwise_replicate.mpr (.inr (Int.le_refl _)), ?_⟩
  refine List.Pairwise.imp (R := (· < ·)) ?_ List.pairwise_lt_range
  intro f g hfg x hx y hy
  rw [(List.mem_replicate.mp hx).2, (List.mem_replicate.mp hy).2]
  omega
theorem flat_congr {α β : Type} {f g : α → List β} : ∀ {l : List α}, (∀ x ∈ l, f x = g x) → l.flatMap f = l.flatMap g
  | [], _ => rfl
  | a :: l, h => by
    rw [List.flatMap_cons, List.flatMap_cons, h a (by simp), flat_congr fun x hx => h x (by simp [hx])]
theorem flat_rev {α : Type} (g : Nat → List α) (hg : ∀ f, (g f).reverse = g f) : ∀ n, ((List.range n).flatMap g).reverse = (List.range n).flatMap fun f => g (n - 1 - f)
  | 0 => rfl
  | n + 1 => by
    rw [List.range_succ, List.flatMap_append, List.reverse_append]
    have e : (List.range n ++ [n]).flatMap (fun f => g (n + 1 - 1 - f)) = g n ++ (List.range n).flatMap fun f => g (n - 1 - f) := by
      rw [← List.range_succ, List.range_succ_eq_map, List.flatMap_cons, List.flatMap_map]
      show g (n + 1 - 1 - 0) ++ _ = _
      rw [show n + 1 - 1 - 0 = n by omega]
      congr 1
      refine flat_congr fun f _ => ?_
      rw [show n + 1 - 1 - Nat.succ f = n - 1 - f by omega]
    rw [e, flat_rev g hg n]
    simp [hg]
theorem ldn_rev {b : Nat} (l : List Int) : ldn b l = (lup b l).reverse := by
  unfold lup
  rw [flat_rev _ (fun f => by simp)]
  unfold ldn
  refine flat_congr fun f hf => ?_
  have := List.mem_range.mp hf
  rw [show (((b - 1 - f : Nat)) : Int) = (b : Int) - 1 - (f : Int) by omega]
theorem step_counts {b : Nat} (hb : 0 < b) (L : Nat) (n : Int) : wr b (ldn b (figs b L n)) - wr b (lup b (figs b L n)) = stepM b L n := by
  have h : Digs b (figs b L n) := figs_digs (by omega) L n
  rw [ldn_rev, lup_srt h]
  rfl
/-! figures in another turn; one of like figures -/
theorem step_perm {b : Int} {L : Nat} {n m : Int} (h : (figs b L n).Perm (figs b L m)) : stepM b L n = stepM b L m := by
  unfold stepM
  rw [srt_congr h]
theorem step_turned {b : Int} (hb : 2 ≤ b) (L : Nat) {n : Int} (h0 : 0 ≤ n) (h1 : n < pw b (L + 1)) :
    (0 ≤ n / b + n % b * pw b L ∧ n / b + n % b * pw b L < pw b (L + 1)) ∧ stepM b (L + 1) (n / b + n % b * pw b L) = stepM b (L + 1) n := by
  have hb0 : 0 < b := by omega
  have hd := figs_digs hb0 (L + 1) n
  have hq0 : 0 ≤ n / b := Int.ediv_nonneg h0 (Int.le_of_lt hb0)
  have hq1 : n / b < pw b L := Int.ediv_lt_of_lt_mul hb0 h1
  have hr0 := Int.emod_nonneg n (show b ≠ 0 by omega)
  have hr1 := Int.emod_lt_of_pos n hb0
  have hf : Digs b (figs b L (n / b) ++ [n % b]) := by
    intro d hd
    rcases List.mem_append.mp hd with h | h
    · exact figs_digs hb0 L _ d h
    · have : d = n % b := by simpa using h
      subst this
      exact ⟨hr0, hr1⟩
  have e : wr b (figs b L (n / b) ++ [n % b]).reverse = n / b + n % b * pw b L := by
    rw [List.reverse_append]
    show wr b (n % b :: (figs b L (n / b)).reverse) = _
    rw [wr_cons, List.length_reverse, figs_length, wr_figs hb0 L _ hq0 hq1]
    omega
  have e2 := figs_wr hb0 hf
  rw [e, List.length_append, figs_length] at e2
  have w := wr_bound hb0 (hf.perm (List.reverse_perm _))
  rw [e, List.length_reverse, List.length_append, figs_length] at w
  refine ⟨w, step_perm ?_⟩
  show (figs b (L + 1) _).Perm _
  rw [show figs b (L + 1) (n / b + n % b * pw b L) = figs b L (n / b) ++ [n % b] from e2, figs_cons hb0]
  exact List.perm_append_comm
/-- a number of like figures 1 -/
def rep (b : Int) (L : Nat) : Int := wr b (List.replicate L 1)
theorem rep_eq {b : Int} : ∀ L, rep b L * (b - 1) = pw b L - 1
  | 0 => by show (0 : Int) * (b - 1) = 1 - 1; omega
  | L + 1 => by
    show wr b (List.replicate (L + 1) 1) * (b - 1) = pw b L * b - 1
    rw [List.replicate_succ', wr_append, Int.add_mul, Int.mul_assoc, Int.mul_comm b, ← Int.mul_assoc]
    have ih := rep_eq (b := b) L
    unfold rep at ih
    rw [ih, Int.sub_mul]
    omega
theorem wr_like (b d : Int) : ∀ L, wr b (List.replicate L d) = rep b L * d
  | 0 => by show (0 : Int) = 0 * d; omega
  | L + 1 => by
    unfold rep
    rw [List.replicate_succ', wr_append, wr_like b d L, List.replicate_succ', wr_append, Int.add_mul, Int.mul_assoc, Int.mul_comm d b, ← Int.mul_assoc]
    unfold rep
    omega
theorem step_alike {b : Int} (hb : 2 ≤ b) (L : Nat) {d : Int} (h0 : 0 ≤ d) (h1 : d < b) :
    (0 ≤ (pw b L - 1) / (b - 1) * d ∧ (pw b L - 1) / (b - 1) * d < pw b L) ∧ stepM b L ((pw b L - 1) / (b - 1) * d) = 0 := by
  have hb0 : 0 < b := by omega
  have e : (pw b L - 1) / (b - 1) = rep b L := by
    rw [← rep_eq L, Int.mul_ediv_cancel _ (by omega)]
  rw [e, ← wr_like]
  have hd : Digs b (List.replicate L d) := fun x hx => by
    rw [(List.mem_replicate.mp hx).2]
    exact ⟨h0, h1⟩
  have w := wr_bound hb0 hd
  rw [List.length_replicate] at w
  have f := figs_wr hb0 hd
  rw [List.length_replicate, List.reverse_replicate] at f
  refine ⟨w, ?_⟩
  unfold stepM
  rw [f]
  have s : srt (List.replicate L d) = List.replicate L d := (srt_of (List.Perm.refl _) (List.pairwise_replicate.mpr (.inr (Int.le_refl _)))).symm
  rw [s, List.reverse_replicate]
  omega
/-! the same of lengths as ints -/
theorem Dom.step {b l n : Int} (h : Dom b l n) : Dom b l (stepM b l.toNat n) := ⟨h.1, step_bound h.1.1 _ _⟩
theorem Dom.turned {b l n : Int} (h : Dom b l n) : Dom b l (n / b + n % b * pw b (l - 1).toNat) ∧ stepM b l.toNat (n / b + n % b * pw b (l - 1).toNat) = stepM b l.toNat n := by
  obtain ⟨⟨h1, h2, h3, h4⟩, h5, h6⟩ := h
  have e : l.toNat = (l - 1).toNat + 1 := by omega
  have t := step_turned h1 (l - 1).toNat h5 (by rw [← e]; exact h6)
  rw [← e] at t
  exact ⟨⟨⟨h1, h2, h3, h4⟩, t.1⟩, t.2⟩
theorem Dom.alike {b l n : Int} (h : Dom b l n) : Dom b l ((pw b l.toNat - 1) / (b - 1) * (n % b)) ∧ stepM b l.toNat ((pw b l.toNat - 1) / (b - 1) * (n % b)) = 0 := by
  have hb := h.1.1
  have t := step_alike hb l.toNat (Int.emod_nonneg n (show b ≠ 0 by omega)) (Int.emod_lt_of_pos n (by omega))
  exact ⟨⟨h.1, t.1⟩, t.2⟩
theorem Dom.top {b l n : Int} (h : Dom b l n) : Dom b l (pw b l.toNat - 1) := ⟨h.1, by have := pw_pos (b := b) (by have := h.1.1; omega) l.toNat; omega, by omega⟩
theorem Dom.one {b l n : Int} (h : Dom b l n) : Dom b l (pw b (l - 1).toNat) := by
  obtain ⟨⟨h1, h2, h3, h4⟩, h5, h6⟩ := h
  have e : l.toNat = (l - 1).toNat + 1 := by omega
  have p := pw_pos (b := b) (by omega) (l - 1).toNat
  refine ⟨⟨h1, h2, h3, h4⟩, by omega, ?_⟩
  rw [e]
  show _ < pw b (l - 1).toNat * b
  have := Int.mul_le_mul_of_nonneg_left h1 (Int.le_of_lt p)
  omega
end Sl
namespace Sl
/-! ### steps again and again: courses -/
def it (f : Int → Int) : Nat → Int → Int
  | 0, n => n
  | k + 1, n => f (it f k n)
theorem it_add (f : Int → Int) (j : Nat) (n : Int) : ∀ k, it f (j + k) n = it f k (it f j n)
  | 0 => rfl
  | k + 1 => by
    show f (it f (j + k) n) = f (it f k (it f j n))
    rw [it_add f j n k]
theorem it_congr {f g : Int → Int} {P : Int → Prop} (hP : ∀ x, P x → f x = g x ∧ P (f x)) {n : Int} (hn : P n) : ∀ k, it f k n = it g k n ∧ P (it f k n)
  | 0 => ⟨rfl, hn⟩
  | k + 1 => by
    obtain ⟨h1, h2⟩ := it_congr hP hn k
    obtain ⟨h3, h4⟩ := hP _ h2
    exact ⟨by show f (it f k n) = g (it g k n); rw [h3, h1], h4⟩
/-- the first m numbers -/
def orb (f : Int → Int) (n : Int) (m : Nat) : List Int := (List.range m).map fun i => it f i n
theorem orb_len (f : Int → Int) (n : Int) (m : Nat) : (orb f n m).length = m := by simp [orb]
theorem orb_succ (f : Int → Int) (n : Int) (m : Nat) : orb f n (m + 1) = orb f n m ++ [it f m n] := by simp [orb, List.range_succ]
theorem orb_get {f : Int → Int} {n : Int} {m i : Nat} (h : i < m) : (orb f n m)[i]? = some (it f i n) := by simp [orb, h]
/-- the first m numbers differ -/
def Apart (f : Int → Int) (n : Int) (m : Nat) : Prop := ∀ i j, i < m → j < m → it f i n = it f j n → i = j
/-- .. and the next one is the c-th again -/
structure Course (f : Int → Int) (n : Int) (m c : Nat) : Prop where
  lt : c < m
  back : it f m n = it f c n
  apart : Apart f n m
theorem Apart.zero (f : Int → Int) (n : Int) : Apart f n 0 := fun _ _ h => absurd h (Nat.not_lt_zero _)
theorem Apart.succ {f : Int → Int} {n : Int} {m : Nat} (h : Apart f n m) (h2 : ∀ c, c < m → it f m n ≠ it f c n) : Apart f n (m + 1) := fun i j hi hj e => by
  by_cases ei : i = m
  · by_cases ej : j = m
    · omega
    · rw [ei] at e
      exact absurd e (h2 j (by omega))
  · by_cases ej : j = m
    · rw [ej] at e
      exact absurd e.symm (h2 i (by omega))
    · exact h i j (by omega) (by omega) e
theorem Course.one {f : Int → Int} {n : Int} {m c m' c' : Nat} (h : Course f n m c) (h' : Course f n m' c') : m = m' ∧ c = c' := by
  have key : ∀ {m c m' c' : Nat}, Course f n m c → Course f n m' c' → m ≤ m' := fun {m c m' c'} h h' => by
    by_cases e : m' < m
    · have := h.apart m' c' e (by have := h'.lt; omega) h'.back
      have := h'.lt
      omega
    · omega
  have e : m = m' := Nat.le_antisymm (key h h') (key h' h)
  subst e
  refine ⟨rfl, ?_⟩
  exact h.apart c c' h.lt h'.lt (h.back.symm.trans h'.back)
theorem Apart.nodup {f : Int → Int} {n : Int} {m : Nat} (h : Apart f n m) : (orb f n m).Nodup := by
  unfold orb
  rw [List.nodup_iff_pairwise_ne, List.pairwise_map]
  refine List.Pairwise.imp_of_mem ?_ List.nodup_range
  intro i j hi hj ne e
  exact ne (h i j (List.mem_range.mp hi) (List.mem_range.mp hj) e)
/-- so many numbers at most, where all steps make numbers of a list -/
theorem Apart.le {f : Int → Int} {n : Int} {m : Nat} (h : Apart f n m) {S : List Int} (hS : ∀ x, f x ∈ S) : m ≤ S.length + 1 := by
  have h1 := h.nodup.length_le_of_subset (l₂ := n :: S) (fun x hx => by
    simp only [orb, List.mem_map, List.mem_range] at hx
    obtain ⟨i, _, rfl⟩ := hx
    cases i with
    | zero => exact List.mem_cons_self
    | succ i => exact List.mem_cons_of_mem _ (hS _))
  rw [orb_len] at h1
  exact h1
/-- behind the beginning the numbers come again -/
theorem Course.per {f : Int → Int} {n : Int} {m c : Nat} (h : Course f n m c) (k : Nat) : it f (c + k) n = it f (c + k % (m - c)) n := by
  have hlt := h.lt
  induction k using Nat.strongRecOn with
  | ind k ih =>
    by_cases hk : k < m - c
    · rw [Nat.mod_eq_of_lt hk]
    · have e1 : it f (c + k) n = it f (c + (k - (m - c))) n := by
        rw [show c + k = m + (k - (m - c)) by omega, it_add, h.back, ← it_add]
      rw [e1, ih (k - (m - c)) (by omega)]
      have e2 : (k - (m - c)) % (m - c) = k % (m - c) := by
        rw [← Nat.mod_eq_sub_mod (by omega)]
      rw [e2]
/-- the place of what comes of s steps -/
def place (m c : Nat) (s : Int) : Int := if s < m then s else c + (s - c) % ((m : Int) - c)
theorem Course.place {f : Int → Int} {n : Int} {m c : Nat} (h : Course f n m c) {s : Int} (hs : 0 ≤ s) : 0 ≤ place m c s ∧ place m c s < m ∧ it f (place m c s).toNat n = it f s.toNat n := by
  have hlt := h.lt
  unfold Sl.place
  by_cases hm : s < m
  · rw [if_pos hm]
    exact ⟨hs, hm, rfl⟩
  · rw [if_neg hm]
    have h0 := Int.emod_nonneg (s - c) (show (m : Int) - c ≠ 0 by omega)
    have h1 := Int.emod_lt_of_pos (s - c) (show 0 < (m : Int) - c by omega)
    refine ⟨by omega, by omega, ?_⟩
    have e1 : s.toNat = c + (s.toNat - c) := by omega
    have e2 : ((c : Int) + (s - c) % ((m : Int) - c)).toNat = c + (s.toNat - c) % (m - c) := by
      have e3 : (((s.toNat - c) % (m - c) : Nat) : Int) = (s - c) % ((m : Int) - c) := by
        rw [Int.natCast_emod]
        congr 1 <;> omega
      omega
    rw [e2, ← h.per, ← e1]
/-! the differences of the greatest and the least figure, and so on -/
def difs (l : List Int) : List Int := ((l.reverse.zip l).take (l.length / 2)).map fun p => p.1 - p.2
/-- what a step makes of such differences -/
def mk (b : Int) : Nat → List Int → Int
  | _, [] => 0
  | L, d :: ds => d * (pw b (L - 1) - 1) + b * mk b (L - 2) ds
theorem difs_peel (x y : Int) (m : List Int) : difs (x :: (m ++ [y])) = (y - x) :: difs m := by
  unfold difs
  rw [rev_peel, List.zip_cons_cons, List.length_cons, List.length_append, List.length_singleton, show (m.length + 1 + 1) / 2 = m.length / 2 + 1 by omega, List.take_succ_cons, List.map_cons]
  rw [List.zip_append (by simp), List.take_append_of_le_length (by simp; omega)]
theorem step_mk (b : Int) (l : List Int) : wr b l.reverse - wr b l = mk b l.length (difs l) := by
  induction l using ends_ind with
  | h0 => rfl
  | h1 x =>
    have e : difs [x] = [] := by simp [difs]
    rw [e]
    show wr b [x] - wr b [x] = 0
    omega
  | h2 x m y ih =>
    rw [diff_peel, difs_peel, ih]
    show _ = (y - x) * (pw b ((x :: (m ++ [y])).length - 1) - 1) + b * mk b ((x :: (m ++ [y])).length - 2) (difs m)
    have e : (x :: (m ++ [y])).length = m.length + 2 := by simp
    rw [e]
    rfl
theorem difs_len (l : List Int) : (difs l).length = l.length / 2 := by
  simp [difs]
  omega
theorem difs_mem {l : List Int} {d : Int} (h : d ∈ difs l) : ∃ x ∈ l, ∃ y ∈ l, d = y - x := by
  simp only [difs, List.mem_map] at h
  obtain ⟨⟨y, x⟩, hp, rfl⟩ := h
  have hz := List.mem_of_mem_take hp
  exact ⟨x, (List.of_mem_zip hz).2, y, List.mem_reverse.mp (List.of_mem_zip hz).1, rfl⟩
theorem difs_falls {b : Int} (l : List Int) : l.Pairwise (· ≤ ·) → Digs b l → (difs l).Pairwise (· ≥ ·) ∧ Digs b (difs l) := by
  induction l using ends_ind with
  | h0 => intro _ _; exact ⟨List.Pairwise.nil, fun _ h => nomatch h⟩
  | h1 x =>
    intro _ _
    have e : difs [x] = [] := by simp [difs]
    rw [e]
    exact ⟨List.Pairwise.nil, fun _ h => nomatch h⟩
  | h2 x m y ih =>
    intro h hd
    obtain ⟨h1, h2⟩ := List.pairwise_cons.mp h
    obtain ⟨h3, _, h4⟩ := List.pairwise_append.mp h2
    have hx := hd x (by simp)
    have hy := hd y (by simp)
    have hxy : x ≤ y := h1 y (by simp)
    obtain ⟨i1, i2⟩ := ih h3 (fun d hm => hd d (by simp [hm]))
    rw [difs_peel]
    refine ⟨List.pairwise_cons.mpr ⟨fun d hm => ?_, i1⟩, fun d hm => ?_⟩
    · obtain ⟨u, hu, v, hv, rfl⟩ := difs_mem hm
      have a1 := h1 u (by simp [hu])
      have a2 := h4 v hv y (by simp)
      show y - x ≥ v - u
      omega
    · rcases List.mem_cons.mp hm with rfl | hm
      · omega
      · exact i2 d hm
/-- all rows of so many figures -/
def ddl (b : Nat) : Nat → List (List Int)
  | 0 => [[]]
  | h + 1 => (List.range b).flatMap fun (d : Nat) => (ddl b h).map fun r => (d : Int) :: r
theorem ddl_len (b : Nat) : ∀ h, (ddl b h).length = b ^ h
  | 0 => rfl
  | h + 1 => by
    have key : ∀ n, ((List.range n).flatMap fun (d : Nat) => (ddl b h).map fun r => (d : Int) :: r).length = n * b ^ h := fun n => by
      induction n with
      | zero => simp
      | succ n ih =>
        rw [List.range_succ, List.flatMap_append, List.length_append, ih, Nat.succ_mul]
        simp [ddl_len b h]
    show ((List.range b).flatMap fun (d : Nat) => (ddl b h).map fun r => (d : Int) :: r).length = _
    rw [key b, Nat.pow_succ, Nat.mul_comm]
theorem ddl_mem {b : Nat} : ∀ {r : List Int}, Digs b r → r ∈ ddl b r.length
  | [], _ => List.mem_singleton.mpr rfl
  | d :: r, h => by
    obtain ⟨⟨h1, h2⟩, h3⟩ := h.cons
    show d :: r ∈ (List.range b).flatMap fun (d : Nat) => (ddl b r.length).map fun r => (d : Int) :: r
    rw [List.mem_flatMap]
    refine ⟨d.toNat, List.mem_range.mpr (by omega), ?_⟩
    rw [List.mem_map]
    exact ⟨r, ddl_mem h3, by rw [Int.toNat_of_nonneg h1]⟩
/-- what a step can make -/
def imgs (b : Int) (L : Nat) : List Int := (ddl b.toNat (L / 2)).map fun r => mk b L r
theorem step_difs (b : Int) (L : Nat) (n : Int) : stepM b L n = mk b L (difs (srt (figs b L n))) := by
  unfold stepM
  rw [step_mk, srt_length, figs_length]
theorem step_imgs {b : Int} (hb : 0 < b) (L : Nat) (n : Int) : stepM b L n ∈ imgs b L := by
  rw [step_difs]
  refine List.mem_map.mpr ⟨_, ?_, rfl⟩
  have d0 : Digs b (srt (figs b L n)) := (figs_digs hb L n).perm (srt_perm _)
  have h := ddl_mem (b := b.toNat) (r := difs (srt (figs b L n))) (by rw [Int.toNat_of_nonneg (Int.le_of_lt hb)]; exact (difs_falls _ (srt_sorted _) d0).2)
  rw [difs_len, srt_length, figs_length] at h
  exact h
theorem imgs_len {b : Int} (h0 : 0 ≤ b) (hb : b ≤ 12) {L : Nat} (hL : L ≤ 8) : (imgs b L).length ≤ 20736 := by
  unfold imgs
  rw [List.length_map, ddl_len]
  have h1 : b.toNat ^ (L / 2) ≤ 12 ^ (L / 2) := Nat.pow_le_pow_left (by omega) _
  have h2 : 12 ^ (L / 2) ≤ 12 ^ 4 := Nat.pow_le_pow_right (by decide) (by omega)
  have h3 : (12 : Nat) ^ 4 = 20736 := by decide
  omega
theorem apart_le {b l n : Int} (h : 2 ≤ b ∧ b ≤ 12 ∧ 1 ≤ l ∧ l ≤ 8) {m : Nat} (ha : Apart (stepM b l.toNat) n m) : m ≤ 20737 := by
  have h1 := ha.le (S := imgs b l.toNat) (fun x => step_imgs (by omega) _ x)
  have h2 := imgs_len (b := b) (by omega) h.2.1 (L := l.toNat) (by omega)
  omega
theorem Dom.it {b l n : Int} (h : Dom b l n) : ∀ k, Dom b l (it (stepM b l.toNat) k n)
  | 0 => h
  | k + 1 => (Dom.it h k).step
/-- a step as the kernel reckons it -/
def cstep (b L : Nat) (n : Int) : Int := wr b (ldn b (figs b L n)) - wr b (lup b (figs b L n))
theorem cstep_eq {b : Nat} (hb : 0 < b) (L : Nat) : cstep b L = stepM b L := funext fun n => step_counts hb L n
theorem it_fix {f : Int → Int} {x : Int} (h : f x = x) : ∀ k, it f k x = x
  | 0 => rfl
  | k + 1 => by
    show f (it f k x) = x
    rw [it_fix h k, h]
end Sl
namespace Sl
/-! ### the round that comes: its least number -/
theorem it_one (f : Int → Int) (k : Nat) (n : Int) : it f (k + 1) n = it f k (f n) := by
  rw [show k + 1 = 1 + k by omega, it_add]
  rfl
theorem it_comm (f : Int → Int) (j k : Nat) (n : Int) : it f j (it f k n) = it f k (it f j n) := by
  rw [← it_add, ← it_add, Nat.add_comm]
theorem it_mul {f : Int → Int} {n : Int} {p : Nat} (h : it f p n = n) : ∀ k, it f (p * k) n = n
  | 0 => rfl
  | k + 1 => by rw [Nat.mul_succ, it_add, it_mul h k, h]
/-- r is the least number of the round that n comes to -/
structure IsLst (f : Int → Int) (n r : Int) : Prop where
  come : ∃ k, it f k n = r
  back : ∃ p, 0 < p ∧ it f p r = r
  least : ∀ j, r ≤ it f j r
/-- on a round each number is reached from each later one -/
theorem back_of {f : Int → Int} {r : Int} {p : Nat} (hp : 0 < p) (h : it f p r = r) (j : Nat) : ∃ k, it f k (it f j r) = r := by
  refine ⟨p * (j + 1) - j, ?_⟩
  have hle : j ≤ p * (j + 1) := Nat.le_trans (Nat.le_succ j) (Nat.le_mul_of_pos_left (j + 1) hp)
  rw [← it_add, show j + (p * (j + 1) - j) = p * (j + 1) by omega, it_mul h]
theorem IsLst.one {f : Int → Int} {n r s : Int} (h : IsLst f n r) (g : IsLst f n s) : r = s := by
  have key : ∀ {r s : Int}, IsLst f n r → IsLst f n s → r ≤ s := fun {r s} h g => by
    obtain ⟨k, hk⟩ := h.come
    obtain ⟨j, hj⟩ := g.come
    obtain ⟨p, hp, hb⟩ := h.back
    obtain ⟨q, hq, gb⟩ := g.back
    -- s comes of r by steps
    by_cases hjk : k ≤ j
    · have e : it f (j - k) r = s := by rw [← hk, ← it_add, show k + (j - k) = j by omega, hj]
      rw [← e]
      exact h.least _
    · have e : it f (k - j) s = r := by rw [← hj, ← it_add, show j + (k - j) = k by omega, hk]
      obtain ⟨i, hi⟩ := back_of hq gb (k - j)
      rw [e] at hi
      rw [← hi]
      exact h.least _
  exact Int.le_antisymm (key h g) (key g h)
theorem IsLst.up {f : Int → Int} {n r : Int} (h : IsLst f (f n) r) : IsLst f n r := by
  obtain ⟨k, hk⟩ := h.come
  exact ⟨⟨k + 1, by rw [it_one, hk]⟩, h.back, h.least⟩
theorem IsLst.down {f : Int → Int} {n r : Int} (h : IsLst f n r) : IsLst f (f n) r := by
  obtain ⟨k, hk⟩ := h.come
  refine ⟨?_, h.back, h.least⟩
  cases k with
  | zero =>
    obtain ⟨p, hp, hb⟩ := h.back
    have e : n = r := hk
    subst e
    exact ⟨p - 1, by rw [← it_one, show p - 1 + 1 = p by omega, hb]⟩
  | succ k => exact ⟨k, by rw [← it_one, hk]⟩
theorem IsLst.ups {f : Int → Int} {n r : Int} : ∀ {k : Nat}, IsLst f (it f k n) r → IsLst f n r
  | 0, h => h
  | k + 1, h => IsLst.ups (k := k) (IsLst.up (n := it f k n) h)
theorem IsLst.downs {f : Int → Int} {n r : Int} (h : IsLst f n r) : ∀ k : Nat, IsLst f (it f k n) r
  | 0 => h
  | k + 1 => IsLst.down (IsLst.downs h k)
theorem IsLst.self {f : Int → Int} {n r : Int} (h : IsLst f n r) : IsLst f r r := ⟨⟨0, rfl⟩, h.back, h.least⟩
/-- the least one of a list -/
def lmin : List Int → Int
  | [] => 0
  | [x] => x
  | x :: y :: l => min x (lmin (y :: l))
theorem lmin_mem : ∀ {l : List Int}, l ≠ [] → lmin l ∈ l
  | [], h => absurd rfl h
  | [x], _ => by simp [lmin]
  | x :: y :: l, _ => by
    have ih := lmin_mem (l := y :: l) (by simp)
    show min x (lmin (y :: l)) ∈ x :: y :: l
    rcases Int.le_total x (lmin (y :: l)) with h | h
    · rw [Int.min_eq_left h]
      exact List.mem_cons_self
    · rw [Int.min_eq_right h]
      exact List.mem_cons_of_mem _ ih
theorem lmin_le : ∀ {l : List Int} {x : Int}, x ∈ l → lmin l ≤ x
  | [], x, h => nomatch h
  | [a], x, h => by
    have : x = a := by simpa using h
    rw [this]
    exact Int.le_refl _
  | a :: b :: l, x, h => by
    show min a (lmin (b :: l)) ≤ x
    rcases List.mem_cons.mp h with e | h
    · rw [e]
      exact Int.min_le_left _ _
    · exact Int.le_trans (Int.min_le_right _ _) (lmin_le h)
theorem lmin_eq {l : List Int} {m : Int} (h : m ∈ l) (h2 : ∀ y ∈ l, m ≤ y) : m = lmin l :=
  Int.le_antisymm (h2 _ (lmin_mem (List.ne_nil_of_mem h))) (lmin_le h)
/-- the round's part of a course -/
def ring (f : Int → Int) (n : Int) (m c : Nat) : List Int := (orb f n m).drop c
theorem ring_eq (f : Int → Int) (n : Int) (m c : Nat) : ring f n m c = orb f (it f c n) (m - c) := by
  unfold ring orb
  refine List.ext_getElem? fun i => ?_
  rw [List.getElem?_drop, List.getElem?_map, List.getElem?_map]
  by_cases h : c + i < m
  · rw [List.getElem?_range h, List.getElem?_range (by omega)]
    simp only [Option.map_some]
    rw [it_add]
  · rw [List.getElem?_eq_none (by simp; omega), List.getElem?_eq_none (by simp; omega)]
    rfl
theorem mem_orb {f : Int → Int} {n x : Int} {m : Nat} : x ∈ orb f n m ↔ ∃ i, i < m ∧ it f i n = x := by
  simp [orb]
theorem Course.lst {f : Int → Int} {n : Int} {m c : Nat} (h : Course f n m c) : IsLst f n (lmin (ring f n m c)) := by
  have hlt := h.lt
  have hne : ring f n m c ≠ [] := by
    rw [ring_eq]
    intro e
    have := congrArg List.length e
    rw [orb_len] at this
    simp at this
    omega
  have hm := lmin_mem hne
  have hb0 : it f (m - c) (it f c n) = it f c n := by
    rw [← it_add, show c + (m - c) = m by omega]
    exact h.back
  have hall : ∀ j, lmin (ring f n m c) ≤ it f j (it f c n) := fun j => by
    refine lmin_le ?_
    rw [ring_eq, mem_orb]
    refine ⟨j % (m - c), Nat.mod_lt _ (by omega), ?_⟩
    have e := h.per j
    rw [it_add, it_add] at e
    exact e.symm
  rw [ring_eq, mem_orb] at hm
  obtain ⟨i, hi, e⟩ := hm
  rw [← ring_eq] at e
  refine ⟨⟨c + i, by rw [it_add, e]⟩, ⟨m - c, by omega, ?_⟩, fun j => ?_⟩
  · rw [← e, it_comm, hb0]
  · have := hall (i + j)
    rw [it_add, e] at this
    exact this
theorem course_ex {f : Int → Int} {S : List Int} (hS : ∀ x, f x ∈ S) (n : Int) : ∃ m c, Course f n m c := by
  have key : ∀ k m, m + k = S.length + 2 → Apart f n m → ∃ m c, Course f n m c := by
    intro k
    induction k with
    | zero =>
      intro m hm ha
      have := ha.le hS
      omega
    | succ k ih =>
      intro m hm ha
      by_cases h : ∃ c, c < m ∧ it f m n = it f c n
      · obtain ⟨c, hc, e⟩ := h
        exact ⟨m, c, hc, e, ha⟩
      · exact ih (m + 1) (by omega) (ha.succ fun c hc e => h ⟨c, hc, e⟩)
  exact key (S.length + 2) 0 (by omega) (Apart.zero f n)
/-- what stands on a round has its course from the beginning on -/
theorem Course.round {f : Int → Int} {r : Int} {m c p : Nat} (h : Course f r m c) (hp : 0 < p) (hb : it f p r = r) : c = 0 := by
  have hlt := h.lt
  by_cases hc : c = 0
  · exact hc
  · have on : ∀ j, it f p (it f j r) = it f j r := fun j => by rw [it_comm, hb]
    have e : it f (c - 1) r = it f (m - 1) r := by
      rw [← on (c - 1), ← on (m - 1), show p = (p - 1) + 1 by omega, it_one, it_one]
      have e1 : f (it f (c - 1) r) = it f c r := by
        show it f (c - 1 + 1) r = _
        rw [show c - 1 + 1 = c by omega]
      have e2 : f (it f (m - 1) r) = it f m r := by
        show it f (m - 1 + 1) r = _
        rw [show m - 1 + 1 = m by omega]
      rw [e1, e2, h.back]
    have := h.apart (c - 1) (m - 1) (by omega) (by omega) e
    omega
theorem IsLst.course {f : Int → Int} {r : Int} {m c : Nat} (g : IsLst f r r) (h : Course f r m c) : c = 0 := by
  obtain ⟨p, hp, hb⟩ := g.back
  exact h.round hp hb
/-- the round of r: all its numbers, from r on -/
theorem IsLst.ring {f : Int → Int} {n r : Int} {m c k : Nat} (hr : IsLst f n r) (h : Course f n m c) (g : Course f r k 0) : k = m - c := by
  have hlt := h.lt
  obtain ⟨j, hj⟩ := hr.come
  obtain ⟨p, hp, hb⟩ := hr.back
  -- the period of r divides .. by both being the fewest
  have b0 : it f (m - c) r = r := by
    have e0 : it f (m - c) (it f c n) = it f c n := by
      rw [← it_add, show c + (m - c) = m by omega]
      exact h.back
    -- r comes of it f c n
    have : ∃ i, it f i (it f c n) = r := by
      obtain ⟨i, hi⟩ := back_of hp hb c
      refine ⟨j + i, ?_⟩
      rw [← it_add, show c + (j + i) = j + (c + i) by omega, it_add, hj, it_add, hi]
    obtain ⟨i, hi⟩ := this
    rw [← hi, it_comm, e0]
  have h1 : k ≤ m - c := by
    by_cases e : m - c < k
    · have := g.apart (m - c) 0 e (by have := g.lt; omega) b0
      omega
    · omega
  have h2 : m - c ≤ k := by
    by_cases e : k < m - c
    · have gb : it f k r = r := g.back
      have e0 : it f (m - c) (it f c n) = it f c n := by
        rw [← it_add, show c + (m - c) = m by omega]
        exact h.back
      -- it f c n comes of r
      have : ∃ i, it f i r = it f c n := by
        obtain ⟨i, hi⟩ := back_of (show 0 < m - c by omega) e0 j
        refine ⟨c + i, ?_⟩
        rw [← hj, ← it_add, show j + (c + i) = c + (j + i) by omega, it_add, it_add, hi]
      obtain ⟨i, hi⟩ := this
      have e1 : it f k (it f c n) = it f c n := by rw [← hi, it_comm, gb]
      rw [← it_add] at e1
      have := h.apart (c + k) c (by omega) hlt e1
      have := g.lt
      omega
    · omega
  omega
theorem orb_cons {f : Int → Int} {n : Int} {m : Nat} (h : 0 < m) : ∃ l, orb f n m = n :: l := by
  cases m with
  | zero => omega
  | succ m =>
    unfold orb
    rw [List.range_succ_eq_map]
    exact ⟨_, rfl⟩
theorem orb_lmin {f : Int → Int} {r : Int} {m : Nat} (h : IsLst f r r) (hm : 0 < m) : lmin (orb f r m) = r := by
  refine (lmin_eq ?_ ?_).symm
  · rw [mem_orb]
    exact ⟨0, hm, rfl⟩
  · intro y hy
    obtain ⟨i, _, rfl⟩ := mem_orb.mp hy
    exact h.least i
theorem step_lst {b l : Int} (h : 2 ≤ b ∧ b ≤ 12 ∧ 1 ≤ l ∧ l ≤ 8) (n : Int) : ∃ r, IsLst (stepM b l.toNat) n r := by
  obtain ⟨m, c, hC⟩ := course_ex (S := imgs b l.toNat) (fun x => step_imgs (by omega) _ x) n
  exact ⟨_, hC.lst⟩
end Sl
namespace Sl
open PySem PySem.Spec PyProof.Rows L2 Evl
/-! ### support: a def by its name, promises by shape, further evaluations -/
/-- the def named x stands in the module and keeps the promise sp -/
structure Fn (P : Program) (w : World) (K : PySem.W.Frag) (mg : Str → Option Value) (base : Heap) (k : Nat) (x : Str) (ps : List Str) (sp : Sp) : Prop where
  ex : ∃ (f : Addr) (fd : FuncData), mg x = some (.ref f) ∧ FnOk P w K mg base CX0 k f fd ps sp ∧ PySem.W.keepIn K (.ref f) = true ∧ Binds K fd ps []
theorem Fn.mono {P : Program} {w : World} {K : PySem.W.Frag} {mg : Str → Option Value} {base : Heap} {j k : Nat} {x : Str} {ps : List Str} {sp : Sp} (h : Fn P w K mg base j x ps sp) (hk : j ≤ k) : Fn P w K mg base k x ps sp := by
  obtain ⟨f, fd, a, b, c, d⟩ := h.ex
  exact ⟨f, fd, a, b.mono hk, c, d⟩
theorem pe_fn {X : Cx} {k : Nat} {x : Str} {ps : List Str} {sp : Sp} {e : Expr} {es : List Expr} {t : TA} {p pos : Pos} (h : Fn X.prog X.w X.K X.mg X.base k x ps sp) (hr : Room k X.A) (hg : Gl X x) (ha : PA X (e :: es) t)
    (hdb : (x == ("__debug__" : Str)) = false := by decide) (he : starEach (e :: es) X.env = (false, eval e X.env) :: starEach es X.env := by rfl) (hpl : (backTo pos (starEach es X.env)).any (·.1) = false := by rfl) :
    PE X (.Call (.Name x p) (e :: es) [] pos) (tCall sp [] E0 t) := by
  obtain ⟨f, fd, a, b, c, d⟩ := h.ex
  exact pe_call b hr hg a c d .nil pass0 ha hdb he hpl
/-! promises -/
def sp1 (pre : Int → Prop) (f : Int → V) : Sp := fun vs H Q _ => ∃ a, vs = [.int a] ∧ pre a ∧ RetV (f a) H Q
def sp2 (pre : Int → Int → Prop) (f : Int → Int → V) : Sp := fun vs H Q _ => ∃ a b, vs = [.int a, .int b] ∧ pre a b ∧ RetV (f a b) H Q
def sp3 (pre : Int → Int → Int → Prop) (f : Int → Int → Int → V) : Sp := fun vs H Q _ => ∃ a b c, vs = [.int a, .int b, .int c] ∧ pre a b c ∧ RetV (f a b c) H Q
def sp4 (pre : Int → Int → Int → Int → Prop) (f : Int → Int → Int → Int → V) : Sp := fun vs H Q _ => ∃ a b c d, vs = [.int a, .int b, .int c, .int d] ∧ pre a b c d ∧ RetV (f a b c d) H Q
def sp3L (pre : Int → Int → Int → Prop) (f : Int → Int → Int → List Int) : Sp := fun vs H Q _ => ∃ a b c, vs = [.int a, .int b, .int c] ∧ pre a b c ∧ RetL ((f a b c).map V.int) H Q
section
variable {K : PySem.W.Frag} {σ : L2.St} {H H' : Hp} {ta tb tc te tx : TE} {t u : TT} {x y z v : V} {r r' : R2}
theorem sp1_v {pre : Int → Prop} {f : Int → V} {a : Int} (h : pre a) : SpV (sp1 pre f) [.int a] H (f a) := fun _ _ _ q _ => ⟨a, rfl, h, q⟩
theorem sp2_v {pre : Int → Int → Prop} {f : Int → Int → V} {a b : Int} (h : pre a b) : SpV (sp2 pre f) [.int a, .int b] H (f a b) := fun _ _ _ q _ => ⟨a, b, rfl, h, q⟩
theorem sp3_v {pre : Int → Int → Int → Prop} {f : Int → Int → Int → V} {a b c : Int} (h : pre a b c) : SpV (sp3 pre f) [.int a, .int b, .int c] H (f a b c) := fun _ _ _ q _ => ⟨a, b, c, rfl, h, q⟩
theorem sp4_v {pre : Int → Int → Int → Int → Prop} {f : Int → Int → Int → Int → V} {a b c d : Int} (h : pre a b c d) : SpV (sp4 pre f) [.int a, .int b, .int c, .int d] H (f a b c d) := fun _ _ _ q _ => ⟨a, b, c, d, rfl, h, q⟩
theorem sp3L_l {pre : Int → Int → Int → Prop} {f : Int → Int → Int → List Int} {a b c : Int} (h : pre a b c) : SpL (sp3L pre f) [.int a, .int b, .int c] H ((f a b c).map V.int) := fun _ _ _ q _ => ⟨a, b, c, rfl, h, q⟩
/-! evaluations -/
/-- a two-sided comparison -/
theorem ev_chain {b1 : Bool} (ha : Ev ta σ H x) (hb : Ev tb σ H y) (h1 : RV r x y H (.bl b1)) (hc : Ev tc σ H z) {b2 : Bool} (h2 : RV r' y z H (.bl b2)) : Ev (tChain r r' ta tb tc) σ H (.bl (b1 && b2)) := fun H1 e Q q =>
  ha H1 e _ fun H2 e2 => hb H2 (e.trans e2) _ fun H3 e3 => h1 H3 ((e.trans e2).trans e3) _ fun H4 e4 => ⟨b1, rfl, by
    cases b1 with
    | true =>
      show tc σ H4 fun w' H5 => r' y w' H5 Q
      exact hc H4 (((e.trans e2).trans e3).trans e4) _ fun H5 e5 => h2 H5 ((((e.trans e2).trans e3).trans e4).trans e5) Q fun H6 e6 => q H6 ((((e2.trans e3).trans e4).trans e5).trans e6)
    | false =>
      show Q (.bl false) H4
      exact q H4 ((e2.trans e3).trans e4)⟩
/-- isinstance(an int, int), (an int, bool) -/
theorem rc_isi {c : V} {w0 u0 : Value} {b : Bool} {x : V} (k : ClsV c u0) (ty : ∀ H1, Ex H H1 → TyX K H1 x w0) (e : PySem.W.kitOne K w0 u0 = some b) : RC (rIsi K) [x, c] H (.bl b) := fun H1 e1 _ q => ⟨x, c, w0, u0, b, rfl, k, ty H1 e1, e, q H1 (Ex.refl H1)⟩
theorem rc_isi_int {i : Int} : RC (rIsi K) [.int i, .ty "int"] H (.bl true) := rc_isi (.ty "int") (fun _ _ => .base (.int i)) (kit_ty (by decide +kernel))
theorem rc_isi_bool {i : Int} : RC (rIsi K) [.int i, .ty "bool"] H (.bl false) := rc_isi (.ty "bool") (fun _ _ => .base (.int i)) (kit_ty (by decide +kernel))
end
end Sl
namespace Sl
open PySem PySem.Spec PyProof.Rows L2 Evl
/-- a module's int -/
def ConI (mg : Str → Option Value) (x : Str) (i : Int) : Prop := ∃ t, mg x = some (.int i t)
theorem pe_conI {X : Cx} {x : Str} {i : Int} {pos : Pos} (h : ConI X.mg x i) (hg : Gl X x) (hd : (x == ("__debug__" : Str)) = false := by decide) : PE X (.Name x pos) (tC (.int i)) := by
  obtain ⟨t, e⟩ := h
  exact pe_glob hg e ⟨t, rfl⟩ hd
section
variable {K : PySem.W.Frag} {σ : L2.St} {H H' : Hp} {ta tb tc te tx : TE} {t u : TT} {x y z v : V} {r r' : R2}
/-- sorted(a new list), sorted(a list) -/
theorem el_sortedN {ns : List Int} (h : EvL ta σ H (ns.map V.int)) : EvL (tCB (rSortedI K) (tCons ta tNil)) σ H ((srt ns).map V.int) := fun H1 e Q q =>
  h H1 e _ fun p H2 np e2 hp => ⟨p, ns, rfl, sq_of hp, fun ns' p' perm rising np' => by
    have e3 := srt_of perm rising
    subst e3
    exact q p' _ (fresh_back e2 np') (e2.trans (Ex.new np')) upd_same⟩
theorem el_sorted {ns : List Int} {a : Addr} (h : Ev ta σ H (.ref a)) (hs : SqL K H a (ns.map V.int)) : EvL (tCB (rSortedI K) (tCons ta tNil)) σ H ((srt ns).map V.int) := fun H1 e Q q =>
  h H1 e _ fun H2 e2 => ⟨a, ns, rfl, ex_l (e.trans e2) hs, fun ns' p' perm rising np' => by
    have e3 := srt_of perm rising
    subst e3
    exact q p' _ (fresh_back e2 np') (e2.trans (Ex.new np')) upd_same⟩
/-- xs[::-1] -/
theorem el_rev {a : Addr} {xs : List V} (h : Ev te σ H (.ref a)) (hs : SqL K H a xs) : EvL (tRevL K te) σ H xs.reverse := fun H1 e Q q =>
  h H1 e _ fun H2 e2 => ⟨a, xs, rfl, ex_l (e.trans e2) hs, fun p hp => q p _ (fresh_back e2 hp) (e2.trans (Ex.new hp)) upd_same⟩
/-- f(x, a new list) -/
theorem ev_call2L {sp : Sp} {E : XK} {xs : List V} (ha : Ev ta σ H x) (hb : EvL tb σ H xs) (hs : ∀ p H1, Ex H H1 → H1 p = some (.lst xs) → SpV sp [x, .ref p] H1 z) : Ev (tCall sp [] E (tCons ta (tCons tb tNil))) σ H z := fun H1 e Q q =>
  ha H1 e _ fun H2 e2 => hb H2 (e.trans e2) _ fun p H3 _ e3 hp => hs p H3 ((e.trans e2).trans e3) hp H3 (Ex.refl H3) Q (fun H4 e4 => q H4 ((e2.trans e3).trans e4)) E
theorem ex_set {H H1 H2 : Hp} {p : Addr} {o : HO} (e : Ex H H1) (e2 : Ex H1 H2) (np : H p = none) : Ex H (upd H2 p o) := Ex.mut (e.trans e2) np
theorem rv_isB {a b : Bool} : RV rIsB (.bl a) (.bl b) H (.bl (decide (a = b))) := fun H1 _ _ q => ⟨a, b, rfl, rfl, q H1 (Ex.refl H1)⟩
theorem rv_notB {a b : Bool} : RV rNotB (.bl a) (.bl b) H (.bl (!decide (a = b))) := fun H1 _ _ q => ⟨a, b, rfl, rfl, q H1 (Ex.refl H1)⟩
theorem rv_isN : RV (fun x y H Q => y = .non ∧ Q (.bl (decide (x = .non))) H) x .non H (.bl (decide (x = .non))) := fun H1 _ _ q => ⟨rfl, q H1 (Ex.refl H1)⟩
theorem rv_notN : RV (fun x y H Q => y = .non ∧ Q (.bl (!decide (x = .non))) H) x .non H (.bl (!decide (x = .non))) := fun H1 _ _ q => ⟨rfl, q H1 (Ex.refl H1)⟩
end
end Sl
namespace Sl
open PySem PySem.Spec PyProof.Rows L2 Evl
/-- an expression that comes to some value of which P holds -/
def EvP (te : TE) (σ : L2.St) (H : Hp) (P : V → Hp → Prop) : Prop := ∀ H1, Ex H H1 → ∀ Q : VK, (∀ v H2, Ex H1 H2 → P v H2 → Q v H2) → te σ H1 Q
/-- ranges with a step -/
theorem rgc {j c : Int} (hj : 0 ≤ j ∧ j ≤ 1000) (hc : 1 ≤ c ∧ c ≤ 1000) : ∃ n : Nat, RgC 0 j c n := by
  have hq : 0 ≤ (j - 0 - 1) / c + 1 ∨ ¬ 0 < j := by
    by_cases h : 0 < j
    · left
      have := Int.ediv_nonneg (a := j - 0 - 1) (b := c) (by omega) (by omega)
      omega
    · right
      exact h
  have hq2 : 0 < j → (j - 0 - 1) / c ≤ j := fun h => by
    have := Int.ediv_le_self (a := j - 0 - 1) c (by omega)
    omega
  refine ⟨(Builtin.Range.rangeSize 0 j c).toNat, by omega, by omega, ?_, ?_⟩
  · unfold Builtin.Range.small Builtin.Range.rangeSize
    rw [if_pos (show c > 0 by omega)]
    generalize (j - 0 - 1) / c = q at hq hq2
    simp only [Builtin.Range.rangeFitsLong, Bool.and_eq_true, Bool.or_eq_true, decide_eq_true_eq, beq_iff_eq, show c > 0 by omega, if_true]
    split <;> omega
  · unfold Builtin.Range.rangeSize
    rw [if_pos (show c > 0 by omega)]
    generalize (j - 0 - 1) / c = q at hq hq2
    split <;> omega
section
variable {K : PySem.W.Frag} {σ : L2.St} {H H' : Hp} {ta tb tc te tx tl : TE} {t u : TT} {x y z v : V} {r r' : R2} {D : Ends} {tu tw tz : TS} {g : TG}
theorem q_par {ta : TA} {i j : Nat} (h : EvA ta σ H [x, y]) (k : ∀ H1, Ex H H1 → tz D ((σ.set i (some x)).set j (some y)) H1) : tSeq (tPar i j ta) tz D σ H := h H (Ex.refl H) _ fun H1 e => ⟨x, y, rfl, k H1 e⟩
theorem s_par {ta : TA} {i j : Nat} (h : EvA ta σ H [x, y]) (k : ∀ H1, Ex H H1 → D.nx ((σ.set i (some x)).set j (some y)) H1) : tPar i j ta D σ H := h H (Ex.refl H) _ fun H1 e => ⟨x, y, rfl, k H1 e⟩
/-- a, b, c = what comes as a tuple of three -/
theorem q_asg3 {i j l : Nat} {R : V → V → V → Hp → Prop} (h : EvP te σ H fun v H2 => ∃ p a b c, v = .ref p ∧ H2 p = some (.tup [a, b, c]) ∧ R a b c H2)
    (k : ∀ a b c H1, Ex H H1 → R a b c H1 → tz D (((σ.set i (some a)).set j (some b)).set l (some c)) H1) : tSeq (tAsg te (gTup K 3 (gCons (gName i) (gCons (gName j) (gCons (gName l) gNil))))) tz D σ H :=
  h H (Ex.refl H) _ fun v H1 e ⟨p, a, b, c, ev, hp, hR⟩ => ⟨p, [a, b, c], ev, st_of hp, rfl, a, _, rfl, b, _, rfl, c, _, rfl, rfl, k a b c H1 e hR⟩
theorem q_asg2 {i j : Nat} {R : V → V → Hp → Prop} (h : EvP te σ H fun v H2 => ∃ p a b, v = .ref p ∧ H2 p = some (.tup [a, b]) ∧ R a b H2)
    (k : ∀ a b H1, Ex H H1 → R a b H1 → tz D ((σ.set i (some a)).set j (some b)) H1) : tSeq (tAsg te (gTup K 2 (gCons (gName i) (gCons (gName j) gNil)))) tz D σ H :=
  h H (Ex.refl H) _ fun v H1 e ⟨p, a, b, ev, hp, hR⟩ => ⟨p, [a, b], ev, st_of hp, rfl, a, _, rfl, b, _, rfl, rfl, k a b H1 e hR⟩
theorem q_asgU2 {i j : Nat} (h : EvU te σ H [x, y]) (k : ∀ H1, Ex H H1 → tz D ((σ.set i (some x)).set j (some y)) H1) : tSeq (tAsg te (gTup K 2 (gCons (gName i) (gCons (gName j) gNil)))) tz D σ H :=
  h H (Ex.refl H) _ fun p H1 _ e hp => ⟨p, _, rfl, st_of hp, rfl, x, _, rfl, y, _, rfl, rfl, k H1 e⟩
/-- [..] * n -/
theorem el_rep {xs : List V} {n : Int} (ha : EvL ta σ H xs) (hb : Ev tb σ H (.int n)) (hn : 0 ≤ n ∧ n ≤ 1000) (hx : xs.length ≤ 10) : EvL (tOp rRep ta tb) σ H (List.replicate n.toNat xs).flatten := fun H1 e Q q =>
  ha H1 e _ fun p H2 np e2 hp => hb H2 (e.trans e2) _ fun H3 e3 => ⟨p, n, xs, rfl, rfl, e3 p _ hp, by omega, by omega, by
    have h1 : xs.length * n.toNat ≤ 10 * 1000 := Nat.mul_le_mul hx (by omega)
    exact Nat.le_trans h1 (by decide), fun p' hp' => q p' _ (fresh_back (e2.trans e3) hp') ((e2.trans e3).trans (Ex.new hp')) upd_same⟩
/-- for x in range(0, j, c) -/
theorem q_forR3 {ta : TA} {j : Nat} {m c : Int} (h : EvA ta σ H [.int 0, .int m, .int c]) (hm : 0 ≤ m ∧ m ≤ 1000) (hc : 1 ≤ c ∧ c ≤ 1000) (Pv : L2.St → Hp → Prop) (h0 : ∀ H1, Ex H H1 → Pv σ H1)
    (hs : ∀ (i : Int) σ' H', 0 ≤ i → Pv σ' H' → tu { D with nx := Pv, ct := Pv, bk := tz D } (σ'.set j (some (.int i))) H') (hd : ∀ σ' H', Pv σ' H' → tz D σ' H') : tSeq (tFor (iRng3 ta) (gName j) tu) tz D σ H := by
  obtain ⟨n, hn⟩ := rgc hm hc
  refine h H (Ex.refl H) _ fun H1 e => ⟨0, m, c, n, rfl, hn, for_rangeC (lo := 0) (c := c) (n := n) (fun _ => Pv) (h0 H1 e) (fun i σ' H' hi p => ?_) hd⟩
  refine hs _ σ' H' ?_ p
  have := Int.mul_nonneg (Int.natCast_nonneg i) (show 0 ≤ c by omega)
  omega
/-- for x in (a, b, ..): the word speaks of the slots alone, the heap grows -/
theorem q_forNT {xs : List V} {j : Nat} (h : EvU tl σ H xs) (Pv : Nat → L2.St → Prop) (h0 : Pv 0 σ)
    (hs : ∀ Hp, Ex H Hp → ∀ i x σ' H', xs[i]? = some x → Ex Hp H' → Pv i σ' → tu { D with nx := fun σ2 H2 => Ex Hp H2 ∧ Pv (i + 1) σ2, ct := fun σ2 H2 => Ex Hp H2 ∧ Pv (i + 1) σ2, bk := tz D } (σ'.set j (some x)) H')
    (hd : ∀ σ' H', Ex H H' → Pv xs.length σ' → tz D σ' H') : tSeq (tFor (iTup K tl) (gName j) tu) tz D σ H :=
  h H (Ex.refl H) _ fun p H1 _ e hp => ⟨p, rfl, ⟨xs, st_of hp⟩, for_tup (fun i σ' H' => Ex H1 H' ∧ Pv i σ') ⟨Ex.refl H1, h0⟩ (fun i σ' H' _ q => st_of (q.1 p _ hp)) (fun i x σ' H' hi q => hs H1 e i x σ' H' hi q.1 q.2) (fun σ' H' q => hd σ' H' (e.trans q.1) q.2)⟩
theorem s_forNT {xs : List V} {j : Nat} (h : EvU tl σ H xs) (Pv : Nat → L2.St → Prop) (h0 : Pv 0 σ)
    (hs : ∀ Hp, Ex H Hp → ∀ i x σ' H', xs[i]? = some x → Ex Hp H' → Pv i σ' → tu { D with nx := fun σ2 H2 => Ex Hp H2 ∧ Pv (i + 1) σ2, ct := fun σ2 H2 => Ex Hp H2 ∧ Pv (i + 1) σ2, bk := D.nx } (σ'.set j (some x)) H')
    (hd : ∀ σ' H', Ex H H' → Pv xs.length σ' → D.nx σ' H') : tFor (iTup K tl) (gName j) tu D σ H :=
  h H (Ex.refl H) _ fun p H1 _ e hp => ⟨p, rfl, ⟨xs, st_of hp⟩, for_tup (fun i σ' H' => Ex H1 H' ∧ Pv i σ') ⟨Ex.refl H1, h0⟩ (fun i σ' H' _ q => st_of (q.1 p _ hp)) (fun i x σ' H' hi q => hs H1 e i x σ' H' hi q.1 q.2) (fun σ' H' q => hd σ' H' (e.trans q.1) q.2)⟩
end
end Sl
namespace Sl
open PySem PySem.Spec PyProof.Rows L2 Evl
/-- at most so many bits -/
def Bt (z : Int) : Prop := ∃ n : Nat, n ≤ 1048577 ∧ z.natAbs < 2 ^ n
theorem Bt.of {z : Int} (h : Builtin.Int.intBits z ≤ 1048576) : Bt z := by
  refine ⟨Builtin.Int.intBits z, by omega, ?_⟩
  unfold Builtin.Int.intBits
  split
  · rename_i e
    have : z = 0 := by simpa using e
    subst this
    decide
  · exact Nat.lt_log2_self
theorem Bt.zero : Bt 0 := ⟨0, by decide, by decide⟩
theorem Bt.add {z k : Int} (h : Bt z) (hk : k.natAbs ≤ 1000000) : ∃ n : Nat, n ≤ 1048598 ∧ (z + k).natAbs < 2 ^ n := by
  obtain ⟨n, h1, h2⟩ := h
  refine ⟨n + 21, by omega, ?_⟩
  rw [Nat.pow_add]
  have hp : 0 < 2 ^ n := Nat.two_pow_pos n
  generalize 2 ^ n = P at h2 hp
  have : (2 : Nat) ^ 21 = 2097152 := by decide
  rw [this]
  omega
theorem mulx_of {x y : Int} (hx : ∃ n : Nat, n ≤ 1048598 ∧ x.natAbs < 2 ^ n) (hy : ∃ n : Nat, n ≤ 1048598 ∧ y.natAbs < 2 ^ n) : CMulX x y := by
  obtain ⟨n, h1, h2⟩ := hx
  obtain ⟨m, h3, h4⟩ := hy
  exact mulx_ok h2 h4 (by omega)
/-- the law's promise -/
def SpLaw (K : PySem.W.Frag) : Sp := fun vs H Q _ => ∃ (a : Addr) (ns : List Int), vs = [.ref a] ∧ SqL K H a (ns.map V.int) ∧ ns.length ≤ 63 ∧ (∀ z ∈ ns, Bt z) ∧ ∀ H', Q (.bl true) H'
theorem cut_script {xs : List V} (h : xs.length ≤ 63) : cutV xs none (some 63) = xs := by
  unfold cutV
  rw [HT.sIx_none, show HT.sIx xs.length xs.length (some 63) = min 63 xs.length from HT.sIx_nat xs.length xs.length 63]
  rw [show min 63 xs.length - 0 = xs.length by omega]
  exact List.take_length
end Sl
namespace Sl
open PySem PySem.Spec PyProof.Rows L2 Evl
/-! ### dicts with int keys -/
theorem valV_none {kvs : List (Key × V)} {k : Key} (h : ∀ kv ∈ kvs, kv.1 ≠ k) : valV kvs k = none := by
  unfold valV
  rw [List.find?_eq_none.mpr fun x hx => by simpa using h x hx]
  rfl
theorem valV_mem {kvs : List (Key × V)} {k : Key} {v : V} (h : (k, v) ∈ kvs) (u : ∀ v', (k, v') ∈ kvs → v' = v) : valV kvs k = some v := by
  unfold valV
  cases e : kvs.find? fun kv => decide (kv.1 = k) with
  | none =>
    have := List.find?_eq_none.mp e (k, v) h
    simp at this
  | some x =>
    have h1 := List.find?_some e
    have h2 := List.mem_of_find?_eq_some e
    have h3 : x.1 = k := by simpa using h1
    obtain ⟨a, c⟩ := x
    have h3' : a = k := h3
    subst h3'
    show some c = some v
    rw [u c h2]
theorem valV_inv {kvs : List (Key × V)} {k : Key} {v : V} (h : valV kvs k = some v) : (k, v) ∈ kvs := by
  unfold valV at h
  cases e : kvs.find? fun kv => decide (kv.1 = k) with
  | none =>
    rw [e] at h
    cases h
  | some x =>
    rw [e] at h
    have h1 := List.find?_some e
    have h2 := List.mem_of_find?_eq_some e
    have h3 : x.1 = k := by simpa using h1
    have h4 : x.2 = v := Option.some.inj h
    rw [← h3, ← h4]
    exact h2
section
variable {K : PySem.W.Frag} {σ : L2.St} {H H' : Hp} {ta tb tc te tx tl td ty tv : TE} {t u : TT} {x y z v : V} {r r' : R2} {D : Ends} {tu tw tz : TS} {g : TG} {d : Addr} {kvs : List (Key × V)} {k : Int}
theorem ev_din (hy : Ev ty σ H (.int k)) (hd : Ev td σ H (.ref d)) (h : H d = some (.dK kvs)) : Ev (tDIn ty td) σ H (.bl (valV kvs (.inl k)).isSome) := fun H1 e Q q =>
  hy H1 e _ fun H2 e2 => hd H2 (e.trans e2) _ fun H3 e3 => ⟨d, _, rfl, DGet.k (k := Sum.inl k) (((e.trans e2).trans e3) d _ h), q H3 (e2.trans e3)⟩
theorem ev_dnotin (hy : Ev ty σ H (.int k)) (hd : Ev td σ H (.ref d)) (h : H d = some (.dK kvs)) : Ev (tDNotIn ty td) σ H (.bl (!(valV kvs (.inl k)).isSome)) := fun H1 e Q q =>
  hy H1 e _ fun H2 e2 => hd H2 (e.trans e2) _ fun H3 e3 => ⟨d, _, rfl, DGet.k (k := Sum.inl k) (((e.trans e2).trans e3) d _ h), q H3 (e2.trans e3)⟩
theorem ev_dget (hd : Ev td σ H (.ref d)) (hy : Ev ty σ H (.int k)) (h : H d = some (.dK kvs)) (hv : valV kvs (.inl k) = some v) : Ev (tDGet td ty) σ H v := fun H1 e Q q =>
  hd H1 e _ fun H2 e2 => hy H2 (e.trans e2) _ fun H3 e3 => ⟨d, v, rfl, hv ▸ DGet.k (k := Sum.inl k) (((e.trans e2).trans e3) d _ h), q H3 (e2.trans e3)⟩
theorem ev_dget2 (hd : Ev td σ H (.ref d)) (hy : Ev ty σ H (.int k)) (hx : Ev tx σ H z) (h : H d = some (.dK kvs)) : Ev (tDGet2 td ty tx) σ H ((valV kvs (.inl k)).getD z) := fun H1 e Q q =>
  hd H1 e _ fun H2 e2 => ⟨d, rfl, .inl ⟨kvs, .inl ((e.trans e2) d _ h)⟩, hy H2 (e.trans e2) _ fun H3 e3 => hx H3 ((e.trans e2).trans e3) _ fun H4 e4 => ⟨_, DGet.k (k := Sum.inl k) ((((e.trans e2).trans e3).trans e4) d _ h), q H4 ((e2.trans e3).trans e4)⟩⟩
theorem s_dput (hv : Ev tv σ H v) (hd : Ev td σ H (.ref d)) (hy : Ev ty σ H (.int k)) (h : H d = some (.dK kvs)) (hl : kvs.length < 100000) (q : ∀ H1, Ex H H1 → D.nx σ (upd H1 d (.dK (putK kvs (.inl k) v)))) : sDPut td ty tv D σ H :=
  hv H (Ex.refl H) _ fun H1 e1 => hd H1 e1 _ fun H2 e2 => hy H2 (e1.trans e2) _ fun H3 e3 => ⟨d, _, rfl, DPut.k (k := Sum.inl k) (((e1.trans e2).trans e3) d _ h) (sz_lt hl), q H3 ((e1.trans e2).trans e3)⟩
theorem q_dput (hv : Ev tv σ H v) (hd : Ev td σ H (.ref d)) (hy : Ev ty σ H (.int k)) (h : H d = some (.dK kvs)) (hl : kvs.length < 100000) (q : ∀ H1, Ex H H1 → tz D σ (upd H1 d (.dK (putK kvs (.inl k) v)))) : tSeq (sDPut td ty tv) tz D σ H :=
  s_dput (D := { D with nx := tz D }) hv hd hy h hl q
/-- a, b = [], {} -/
theorem q_parLD {i j : Nat} (q : ∀ p d H1, H p = none → H d = none → p ≠ d → Ex H H1 → H1 p = some (.lst []) → H1 d = some (.dK []) → tz D ((σ.set i (some (.ref p))).set j (some (.ref d))) H1) : tSeq (tPar i j (tCons (tLst tNil) (tCons tDNewK tNil))) tz D σ H :=
  ⟨Nat.zero_le _, fun p hp d hd => ⟨_, _, rfl, by
    have npd : p ≠ d := fun e => by
      rw [← e, upd_same] at hd
      cases hd
    have hd0 : H d = none := by
      rw [upd_ne npd.symm] at hd
      exact hd
    exact q p d _ hp hd0 npd ((Ex.new hp).trans (Ex.new hd)) (by rw [upd_ne npd, upd_same]) upd_same⟩⟩
end
/-! ### courses in a heap -/
/-- the places so far -/
def plc (f : Int → Int) (n : Int) (m : Nat) : List (Key × V) := (List.range m).map fun (j : Nat) => (Sum.inl (it f j n), V.int (j : Int))
theorem plc_succ (f : Int → Int) (n : Int) (m : Nat) : plc f n (m + 1) = plc f n m ++ [(Sum.inl (it f m n), V.int (m : Int))] := by simp [plc, List.range_succ]
theorem plc_len (f : Int → Int) (n : Int) (m : Nat) : (plc f n m).length = m := by simp [plc]
theorem plc_out {f : Int → Int} {n : Int} {m : Nat} (h : valV (plc f n m) (.inl (it f m n)) = none) : ∀ c, c < m → it f m n ≠ it f c n := fun c hc e => by
  refine valV_not h ?_
  simp only [plc, List.map_map, List.mem_map, List.mem_range]
  exact ⟨c, hc, by show Sum.inl (it f c n) = _; rw [e]⟩
theorem plc_in {f : Int → Int} {n : Int} {m : Nat} {v : V} (h : valV (plc f n m) (.inl (it f m n)) = some v) : ∃ c, c < m ∧ it f m n = it f c n ∧ v = .int (c : Int) := by
  have h2 := valV_inv h
  simp only [plc, List.mem_map, List.mem_range, Prod.mk.injEq, Sum.inl.injEq] at h2
  obtain ⟨c, hc, e1, e2⟩ := h2
  exact ⟨c, hc, e1.symm, e2.symm⟩
/-- the promise of a course: a new tuple of a new list and a place -/
def SpCourse : Sp := fun vs H Q _ => ∃ (b l n : Int), vs = [.int b, .int l, .int n] ∧ (2 ≤ b ∧ b ≤ 12 ∧ 1 ≤ l ∧ l ≤ 8) ∧
  ∀ (t a : Addr) (H2 : Hp) (m c : Nat), Course (stepM b l.toNat) n m c → m ≤ 20737 → H a = none → Ex H H2 → H2 a = some (.lst ((orb (stepM b l.toNat) n m).map V.int)) → H2 t = some (.tup [.ref a, .int (c : Int)]) → Q (.ref t) H2
theorem sp_course_p {σ : L2.St} {E : XK} {ta : TA} {b l n : Int} {H : Hp} (h : 2 ≤ b ∧ b ≤ 12 ∧ 1 ≤ l ∧ l ≤ 8) (ha : EvA ta σ H [.int b, .int l, .int n]) :
    EvP (tCall SpCourse [] E ta) σ H fun v H2 => ∃ p x y, v = .ref p ∧ H2 p = some (.tup [x, y]) ∧ ∃ (a : Addr) (m c : Nat), x = .ref a ∧ y = .int (c : Int) ∧ H a = none ∧ Course (stepM b l.toNat) n m c ∧ m ≤ 20737 ∧ H2 a = some (.lst ((orb (stepM b l.toNat) n m).map V.int)) :=
  fun H1 e Q q => ha H1 e _ fun H2 e2 => ⟨b, l, n, rfl, h, fun t a H3 m c hC hm na e3 h1 h2 => q _ H3 (e2.trans e3) ⟨t, _, _, rfl, h2, a, m, c, rfl, rfl, fresh_back (e.trans e2) na, hC, hm, h1⟩⟩
end Sl
namespace Sl
open PySem PySem.Spec PyProof.Rows L2 Evl
/-! ### comprehensions without a test -/
section
variable {K : PySem.W.Frag} {σ : L2.St} {H H' : Hp} {te tl : TE} {j : Nat} {vs : List Nat} {xs : List V} {g : V → V}
theorem lc_word {H1 : Hp} {Dl : Addr} {i : Nat} {x : V} {σ2 : L2.St} (hx : xs[i]? = some x) (hz : xs.length ≤ 40000) (p : H1 Dl = none ∧ Ex H1 H' ∧ H' Dl = some (.lst ((xs.take i).map g))) (he : ∀ H2, Ex H1 H2 → Ev te σ2 H2 (g x)) :
    tYes σ2 H' fun b H3 => if b = true then te σ2 H3 fun y H4 => ∃ acc, H4 Dl = some (.lst acc) ∧ acc.length < sizeLine ∧ (H1 Dl = none ∧ Ex H1 (upd H4 Dl (.lst (acc ++ [y]))) ∧ (upd H4 Dl (.lst (acc ++ [y]))) Dl = some (.lst ((xs.take (i + 1)).map g))) else (H1 Dl = none ∧ Ex H1 H3 ∧ H3 Dl = some (.lst ((xs.take (i + 1)).map g))) := by
  obtain ⟨p1, p2, p3⟩ := p
  unfold tYes
  refine iteT ?_
  refine he H' p2 H' (Ex.refl H') _ fun H4 e4 => ⟨_, e4 Dl _ p3, sz_lt ?_, p1, Ex.mut (p2.trans e4) p1, ?_⟩
  · rw [List.length_map, List.length_take]
    omega
  · rw [upd_same, List.take_add_one, hx, List.map_append] <;> rfl
/-- over a new tuple -/
theorem el_mapT (h : EvU tl σ H xs) (hz : xs.length ≤ 40000) (hw : ∀ x, wipe ((wipe σ vs).set j (some x)) vs = wipe σ vs) (he : ∀ x ∈ xs, ∀ H1, Ex H H1 → Ev te ((wipe σ vs).set j (some x)) H1 (g x)) :
    EvL (tLc (iTup K tl) (gName j) tYes te vs) σ H (xs.map g) := fun H0 e Q q => h H0 e _ fun a H1 ha e1 hx => ⟨a, rfl, ⟨xs, st_of hx⟩, fun Dl hD =>
  lc_tup (xs := xs) (fun i H' => H1 Dl = none ∧ Ex H1 H' ∧ H' Dl = some (.lst ((xs.take i).map g))) ⟨hD, Ex.new hD, upd_same⟩ (fun i H' _ p => st_of (p.2.1 a _ hx))
    (fun i x H' hi p => ⟨hw x, lc_word hi hz p fun H2 e2 => he x (List.mem_of_getElem? hi) H2 ((e.trans e1).trans e2)⟩)
    (fun H' p => q Dl H' (fresh_back e1 p.1) (e1.trans p.2.1) (by rw [p.2.2, List.take_length]))⟩
/-- over a tuple -/
theorem el_mapTt {a : Addr} (h : Ev tl σ H (.ref a)) (hx : SqT K H a xs) (hz : xs.length ≤ 40000) (hw : ∀ x, wipe ((wipe σ vs).set j (some x)) vs = wipe σ vs) (he : ∀ x ∈ xs, ∀ H1, Ex H H1 → Ev te ((wipe σ vs).set j (some x)) H1 (g x)) :
    EvL (tLc (iTup K tl) (gName j) tYes te vs) σ H (xs.map g) := fun H0 e Q q => h H0 e _ fun H1 e1 => ⟨a, rfl, ⟨xs, ex_t (e.trans e1) hx⟩, fun Dl hD =>
  lc_tup (xs := xs) (fun i H' => H1 Dl = none ∧ Ex H1 H' ∧ H' Dl = some (.lst ((xs.take i).map g))) ⟨hD, Ex.new hD, upd_same⟩ (fun i H' _ p => ex_t ((e.trans e1).trans p.2.1) hx)
    (fun i x H' hi p => ⟨hw x, lc_word hi hz p fun H2 e2 => he x (List.mem_of_getElem? hi) H2 ((e.trans e1).trans e2)⟩)
    (fun H' p => q Dl H' (fresh_back e1 p.1) (e1.trans p.2.1) (by rw [p.2.2, List.take_length]))⟩
/-- over a list -/
theorem el_mapL {a : Addr} (h : Ev tl σ H (.ref a)) (hx : SqL K H a xs) (hz : xs.length ≤ 40000) (hw : ∀ x, wipe ((wipe σ vs).set j (some x)) vs = wipe σ vs) (he : ∀ x ∈ xs, ∀ H1, Ex H H1 → Ev te ((wipe σ vs).set j (some x)) H1 (g x)) :
    EvL (tLc (iList K tl) (gName j) tYes te vs) σ H (xs.map g) := fun H0 e Q q => h H0 e _ fun H1 e1 => ⟨a, rfl, ⟨xs, ex_l (e.trans e1) hx⟩, fun Dl hD =>
  lc_list (xs := xs) (fun i H' => H1 Dl = none ∧ Ex H1 H' ∧ H' Dl = some (.lst ((xs.take i).map g))) ⟨hD, Ex.new hD, upd_same⟩ (fun i H' _ p => ex_l ((e.trans e1).trans p.2.1) hx)
    (fun i x H' hi p => ⟨hw x, lc_word hi hz p fun H2 e2 => he x (List.mem_of_getElem? hi) H2 ((e.trans e1).trans e2)⟩)
    (fun H' p => q Dl H' (fresh_back e1 p.1) (e1.trans p.2.1) (by rw [p.2.2, List.take_length]))⟩
/-- over a new list -/
theorem el_mapNL (h : EvL tl σ H xs) (hz : xs.length ≤ 40000) (hw : ∀ x, wipe ((wipe σ vs).set j (some x)) vs = wipe σ vs) (he : ∀ x ∈ xs, ∀ H1, Ex H H1 → Ev te ((wipe σ vs).set j (some x)) H1 (g x)) :
    EvL (tLc (iList K tl) (gName j) tYes te vs) σ H (xs.map g) := fun H0 e Q q => h H0 e _ fun a H1 ha e1 hx => ⟨a, rfl, ⟨xs, sq_of hx⟩, fun Dl hD =>
  lc_list (xs := xs) (fun i H' => H1 Dl = none ∧ Ex H1 H' ∧ H' Dl = some (.lst ((xs.take i).map g))) ⟨hD, Ex.new hD, upd_same⟩ (fun i H' _ p => sq_of (p.2.1 a _ hx))
    (fun i x H' hi p => ⟨hw x, lc_word hi hz p fun H2 e2 => he x (List.mem_of_getElem? hi) H2 ((e.trans e1).trans e2)⟩)
    (fun H' p => q Dl H' (fresh_back e1 p.1) (e1.trans p.2.1) (by rw [p.2.2, List.take_length]))⟩
end
end Sl
namespace Sl
open PySem PySem.Spec PyProof.Rows L2 Evl
/-! ### slices, least ones, data compared -/
theorem cut_drop {xs : List V} {c : Nat} (h : c ≤ xs.length) : cutV xs (some (c : Int)) none = xs.drop c := by
  unfold cutV
  rw [HT.sIx_none, HT.sIx_nat, Nat.min_eq_left h]
  exact List.take_of_length_le (by rw [List.length_drop]; omega)
theorem cut_take {xs : List V} {c : Nat} (h : c ≤ xs.length) : cutV xs none (some (c : Int)) = xs.take c := by
  unfold cutV
  rw [HT.sIx_none, HT.sIx_nat, Nat.min_eq_left h]
  rfl
theorem map_drop_int (ns : List Int) (c : Nat) : (ns.map V.int).drop c = (ns.drop c).map V.int := by rw [List.map_drop]
/-- data -/
def pI (ns : List Int) : List PyData := ns.map PyData.int
def pLL (xss : List (List Int)) : List PyData := xss.map fun ns => PyData.list (pI ns)
theorem eqv_ints : ∀ ns ms : List Int, PyData.eqvAll (pI ns) (pI ms) = decide (ns = ms)
  | [], [] => by simp [pI, PyData.eqvAll]
  | [], m :: ms => by simp [pI, PyData.eqvAll]
  | n :: ns, [] => by simp [pI, PyData.eqvAll]
  | n :: ns, m :: ms => by
    have ih := eqv_ints ns ms
    unfold pI at ih
    simp only [pI, List.map_cons, PyData.eqvAll, PyData.eqv, ih]
    by_cases h1 : n = m
    · by_cases h2 : ns = ms
      · simp [h1, h2]
      · simp [h1, h2]
    · simp [h1]
theorem eqv_lists : ∀ xs ys : List (List Int), PyData.eqvAll (pLL xs) (pLL ys) = decide (xs = ys)
  | [], [] => by simp [pLL, PyData.eqvAll]
  | [], m :: ms => by simp [pLL, PyData.eqvAll]
  | n :: ns, [] => by simp [pLL, PyData.eqvAll]
  | n :: ns, m :: ms => by
    have ih := eqv_lists ns ms
    unfold pLL at ih
    simp only [pLL, List.map_cons, PyData.eqvAll, PyData.eqv, ih, eqv_ints]
    by_cases h1 : n = m
    · by_cases h2 : ns = ms
      · simp [h1, h2]
      · simp [h1, h2]
    · simp [h1]
theorem can_ints : ∀ ns : List Int, PyData.canLayAll0 (pI ns) = true ∧ PyData.depthAll (pI ns) = 0
  | [] => by simp [pI, PyData.canLayAll0, PyData.depthAll]
  | n :: ns => by
    have ih := can_ints ns
    unfold pI at ih
    simp [pI, PyData.canLayAll0, PyData.canLay0, PyData.depthAll, PyData.depth, ih.1, ih.2]
theorem can_lists : ∀ xs : List (List Int), PyData.canLayAll0 (pLL xs) = true ∧ PyData.depthAll (pLL xs) ≤ 1
  | [] => by simp [pLL, PyData.canLayAll0, PyData.depthAll]
  | n :: ns => by
    have ih := can_lists ns
    have i1 := can_ints n
    unfold pLL at ih
    simp [pLL, PyData.canLayAll0, PyData.canLay0, PyData.depthAll, PyData.depth, ih.1, ih.2, i1.1, i1.2]
theorem shaped_lst (ns : List Int) : SeqAt.shaped (.list (pI ns)) = true := by
  have h := can_ints ns
  simp [SeqAt.shaped, PyData.canLay0, PyData.depth, h.1, h.2]
theorem shaped_tup (ns : List Int) : SeqAt.shaped (.tuple (pI ns)) = true := by
  have h := can_ints ns
  simp [SeqAt.shaped, PyData.canLay0, PyData.depth, h.1, h.2]
theorem shaped_ll (xs : List (List Int)) : SeqAt.shaped (.list (pLL xs)) = true := by
  have h := can_lists xs
  simp [SeqAt.shaped, PyData.canLay0, PyData.depth, h.1]
  omega
theorem dp_ints {K : PySem.W.Frag} {H : Hp} : ∀ ns : List Int, DpAll K H (ns.map V.int) (pI ns)
  | [] => .nil
  | n :: ns => .cons (.int n) (dp_ints ns)
/-- lists of ints at addresses -/
def Nest (K : PySem.W.Frag) (H : Hp) : List V → List (List Int) → Prop
  | [], [] => True
  | v :: vs, ns :: xss => (∃ a, v = .ref a ∧ SqL K H a (ns.map V.int)) ∧ Nest K H vs xss
  | _, _ => False
theorem Nest.ex {K : PySem.W.Frag} {H H' : Hp} (e : Ex H H') : ∀ {vs : List V} {xss : List (List Int)}, Nest K H vs xss → Nest K H' vs xss
  | [], [], _ => True.intro
  | v :: vs, ns :: xss, ⟨⟨a, h1, h2⟩, h3⟩ => ⟨⟨a, h1, ex_l e h2⟩, Nest.ex e h3⟩
  | [], _ :: _, h => nomatch h
  | _ :: _, [], h => nomatch h
theorem Nest.dp {K : PySem.W.Frag} {H : Hp} : ∀ {vs : List V} {xss : List (List Int)}, Nest K H vs xss → DpAll K H vs (pLL xss)
  | [], [], _ => .nil
  | v :: vs, ns :: xss, ⟨⟨a, h1, h2⟩, h3⟩ => by
    subst h1
    exact .cons (.lst h2 (dp_ints ns)) (Nest.dp h3)
  | [], _ :: _, h => nomatch h
  | _ :: _, [], h => nomatch h
theorem Nest.len {K : PySem.W.Frag} {H : Hp} : ∀ {vs : List V} {xss : List (List Int)}, Nest K H vs xss → vs.length = xss.length
  | [], [], _ => rfl
  | v :: vs, ns :: xss, ⟨_, h3⟩ => by rw [List.length_cons, List.length_cons, Nest.len h3]
  | [], _ :: _, h => nomatch h
  | _ :: _, [], h => nomatch h
theorem Nest.get {K : PySem.W.Frag} {H : Hp} : ∀ {vs : List V} {xss : List (List Int)} {i : Nat} {v : V}, Nest K H vs xss → vs[i]? = some v → ∃ a ns, v = .ref a ∧ xss[i]? = some ns ∧ SqL K H a (ns.map V.int)
  | [], _, _, _, _, e => nomatch e
  | _ :: _, [], _, _, h, _ => nomatch h
  | w :: vs, ns :: xss, 0, v, ⟨⟨a, h1, h2⟩, _⟩, e => by
    have : w = v := Option.some.inj e
    subst this
    exact ⟨a, ns, h1, rfl, h2⟩
  | w :: vs, ns :: xss, i + 1, v, ⟨_, h3⟩, e => Nest.get (i := i) h3 e
theorem Nest.append {K : PySem.W.Frag} {H : Hp} : ∀ {vs ws : List V} {xss yss : List (List Int)}, Nest K H vs xss → Nest K H ws yss → Nest K H (vs ++ ws) (xss ++ yss)
  | [], _, [], _, _, h => h
  | v :: vs, _, ns :: xss, _, ⟨h1, h3⟩, h => ⟨h1, Nest.append h3 h⟩
  | [], _, _ :: _, _, h, _ => nomatch h
  | _ :: _, _, [], _, h, _ => nomatch h
section
variable {K : PySem.W.Frag} {σ : L2.St} {H H' : Hp} {ta tb tc te tx tl : TE} {t u : TT} {x y z v : V} {r r' : R2} {D : Ends} {tu tw tz : TS}
theorem rv_eqD {d e : PyData} (hx : ∀ H1, Ex H H1 → Dp K H1 x d) (hy : ∀ H1, Ex H H1 → Dp K H1 y e) (sd : SeqAt.shaped d = true) (se : SeqAt.shaped e = true) {b : Bool} (hb : PyData.eqv d e = b) : RV (rEqD K) x y H (.bl b) := fun H1 e1 _ q =>
  ⟨d, e, hx H1 e1, hy H1 e1, sd, se, by rw [hb]; exact q H1 (Ex.refl H1)⟩
theorem rv_neD {d e : PyData} (hx : ∀ H1, Ex H H1 → Dp K H1 x d) (hy : ∀ H1, Ex H H1 → Dp K H1 y e) (sd : SeqAt.shaped d = true) (se : SeqAt.shaped e = true) {b : Bool} (hb : PyData.eqv d e = b) : RV (rNeD K) x y H (.bl (!b)) := fun H1 e1 _ q =>
  ⟨d, e, hx H1 e1, hy H1 e1, sd, se, by rw [hb]; exact q H1 (Ex.refl H1)⟩
theorem rv_eqL {p q : Addr} {ns ms : List Int} (h1 : SqL K H p (ns.map V.int)) (h2 : SqL K H q (ms.map V.int)) : RV (rEqD K) (.ref p) (.ref q) H (.bl (decide (ns = ms))) :=
  rv_eqD (fun _ e => .lst (ex_l e h1) (dp_ints ns)) (fun _ e => .lst (ex_l e h2) (dp_ints ms)) (shaped_lst ns) (shaped_lst ms) (by rw [← eqv_ints]; rfl)
theorem rv_neL {p q : Addr} {ns ms : List Int} (h1 : SqL K H p (ns.map V.int)) (h2 : SqL K H q (ms.map V.int)) : RV (rNeD K) (.ref p) (.ref q) H (.bl (!decide (ns = ms))) :=
  rv_neD (fun _ e => .lst (ex_l e h1) (dp_ints ns)) (fun _ e => .lst (ex_l e h2) (dp_ints ms)) (shaped_lst ns) (shaped_lst ms) (by rw [← eqv_ints]; rfl)
theorem rv_eqT {p q : Addr} {ns ms : List Int} (h1 : SqT K H p (ns.map V.int)) (h2 : SqT K H q (ms.map V.int)) : RV (rEqD K) (.ref p) (.ref q) H (.bl (decide (ns = ms))) :=
  rv_eqD (fun _ e => .tup (ex_t e h1) (dp_ints ns)) (fun _ e => .tup (ex_t e h2) (dp_ints ms)) (shaped_tup ns) (shaped_tup ms) (by rw [← eqv_ints]; rfl)
theorem rv_neT {p q : Addr} {ns ms : List Int} (h1 : SqT K H p (ns.map V.int)) (h2 : SqT K H q (ms.map V.int)) : RV (rNeD K) (.ref p) (.ref q) H (.bl (!decide (ns = ms))) :=
  rv_neD (fun _ e => .tup (ex_t e h1) (dp_ints ns)) (fun _ e => .tup (ex_t e h2) (dp_ints ms)) (shaped_tup ns) (shaped_tup ms) (by rw [← eqv_ints]; rfl)
theorem rv_eqLL {p q : Addr} {vs ws : List V} {xs ys : List (List Int)} (h1 : SqL K H p vs) (n1 : Nest K H vs xs) (h2 : SqL K H q ws) (n2 : Nest K H ws ys) : RV (rEqD K) (.ref p) (.ref q) H (.bl (decide (xs = ys))) :=
  rv_eqD (fun _ e => .lst (ex_l e h1) (n1.ex e).dp) (fun _ e => .lst (ex_l e h2) (n2.ex e).dp) (shaped_ll xs) (shaped_ll ys) (by rw [← eqv_lists]; rfl)
theorem rv_neLL {p q : Addr} {vs ws : List V} {xs ys : List (List Int)} (h1 : SqL K H p vs) (n1 : Nest K H vs xs) (h2 : SqL K H q ws) (n2 : Nest K H ws ys) : RV (rNeD K) (.ref p) (.ref q) H (.bl (!decide (xs = ys))) :=
  rv_neD (fun _ e => .lst (ex_l e h1) (n1.ex e).dp) (fun _ e => .lst (ex_l e h2) (n2.ex e).dp) (shaped_ll xs) (shaped_ll ys) (by rw [← eqv_lists]; rfl)
/-- xs == [], xs != [] -/
theorem ev_neNil {p : Addr} {ns : List Int} (ha : Ev ta σ H (.ref p)) (h : SqL K H p (ns.map V.int)) : Ev (tOp (rNeD K) ta (tLst tNil)) σ H (.bl (!decide (ns = []))) :=
  ev_opL ha (el_lst ea_nil (Nat.zero_le _)) fun _ _ hq e => rv_neL (ms := []) (ex_l e h) (sq_of hq)
/-- min(xs) -/
theorem ev_minN {ns : List Int} (ha : EvL ta σ H (ns.map V.int)) (hn : 0 < ns.length) : Ev (tCB (rMin K) (tCons ta tNil)) σ H (.int (lmin ns)) := fun H1 e Q q =>
  ha H1 e _ fun p H2 _ e2 h2 => ⟨p, ns, rfl, sq_of h2, hn, fun m hm hl => by rw [lmin_eq hm hl]; exact q H2 e2⟩
theorem ev_min {p : Addr} {ns : List Int} (ha : Ev ta σ H (.ref p)) (h : SqL K H p (ns.map V.int)) (hn : 0 < ns.length) : Ev (tCB (rMin K) (tCons ta tNil)) σ H (.int (lmin ns)) := fun H1 e Q q =>
  ha H1 e _ fun H2 e2 => ⟨p, ns, rfl, ex_l (e.trans e2) h, hn, fun m hm hl => by rw [lmin_eq hm hl]; exact q H2 e2⟩
theorem ev_sumN {ns : List Int} (ha : EvL ta σ H (ns.map V.int)) : Ev (tCB (rSum K) (tCons ta tNil)) σ H (.int ns.sum) := fun H1 e Q q =>
  ha H1 e _ fun p H2 _ e2 h2 => ⟨p, ns, rfl, sq_of h2, q H2 e2⟩
theorem ev_sum {p : Addr} {ns : List Int} (ha : Ev ta σ H (.ref p)) (h : SqL K H p (ns.map V.int)) : Ev (tCB (rSum K) (tCons ta tNil)) σ H (.int ns.sum) := fun H1 e Q q =>
  ha H1 e _ fun H2 e2 => ⟨p, ns, rfl, ex_l (e.trans e2) h, q H2 e2⟩
/-- all([..]), any([..]) -/
theorem ev_allN {bs : List Bool} (ha : EvL ta σ H (bs.map V.bl)) : Ev (tCB (rAll K) (tCons ta tNil)) σ H (.bl (bs.all id)) := fun H1 e Q q =>
  ha H1 e _ fun p H2 _ e2 h2 => ⟨p, bs, rfl, sq_of h2, q H2 e2⟩
theorem ev_anyN {bs : List Bool} (ha : EvL ta σ H (bs.map V.bl)) : Ev (tCB (rAny K) (tCons ta tNil)) σ H (.bl (bs.any id)) := fun H1 e Q q =>
  ha H1 e _ fun p H2 _ e2 h2 => ⟨p, bs, rfl, sq_of h2, q H2 e2⟩
theorem el_is {xs ys : List V} (h : EvL te σ H xs) (e : xs = ys) : EvL te σ H ys := by
  rw [← e]
  exact h
/-- isinstance of a list, a tuple -/
theorem rc_isi_tup {p : Addr} {xs : List V} (h : H p = some (.tup xs)) : RC (rIsi K) [.ref p, .ty "tuple"] H (.bl true) := rc_isi (.ty "tuple") (fun _ e => .base (.tup (e p _ h))) (kit_ty (by decide +kernel))
theorem rc_isi_lst {p : Addr} {xs : List V} (h : H p = some (.lst xs)) : RC (rIsi K) [.ref p, .ty "list"] H (.bl true) := rc_isi (.ty "list") (fun _ e => .base (.lst (e p _ h))) (kit_ty (by decide +kernel))
/-- what comes as some value, then the rest -/
theorem q_asgP {i : Nat} {R : V → Hp → Prop} (h : EvP te σ H R) (k : ∀ v H1, Ex H H1 → R v H1 → tz D (σ.set i (some v)) H1) : tSeq (tAsg te (gName i)) tz D σ H :=
  h H (Ex.refl H) _ fun v H1 e hR => k v H1 e hR
/-- the first operand some value -/
theorem ev_opP {R : V → Hp → Prop} (ha : EvP ta σ H R) (hb : ∀ v H1, Ex H H1 → R v H1 → ∀ H2, Ex H1 H2 → ∀ Q : VK, (∀ H3, Ex H2 H3 → Q z H3) → tb σ H2 fun y H3 => r v y H3 Q) : Ev (tOp r ta tb) σ H z := fun H1 e Q q =>
  ha H1 e _ fun v H2 e2 hR => hb v H2 (e.trans e2) hR H2 (Ex.refl H2) Q fun H3 e3 => q H3 (e2.trans e3)
end
end Sl
namespace Sl
open PySem PySem.Spec PyProof.Rows L2 Evl
section
variable {K : PySem.W.Frag} {σ : L2.St} {H H' : Hp} {ta tb tc te tx tl : TE} {x y z v : V}
theorem ev_lenI {p : Addr} {ns : List Int} (ha : Ev ta σ H (.ref p)) (h : SqL K H p (ns.map V.int)) : Ev (tCB (rLenS K) (tCons ta tNil)) σ H (.int (ns.length : Int)) := ev_is (ev_len ha h) (by rw [List.length_map])
theorem ev_lenO {p : Addr} {f : Int → Int} {n : Int} {m : Nat} (ha : Ev ta σ H (.ref p)) (h : SqL K H p ((orb f n m).map V.int)) : Ev (tCB (rLenS K) (tCons ta tNil)) σ H (.int (m : Int)) := ev_is (ev_len ha h) (by rw [List.length_map, orb_len])
theorem at_orb2 {f : Int → Int} {n : Int} {m : Nat} {k : Int} (h0 : 0 ≤ k) (h1 : k < m) : atI ((orb f n m).map V.int) k = some (.int (it f k.toNat n)) := by
  refine at_of (j := k.toNat) (by omega) ?_
  rw [List.getElem?_map, orb_get (by omega)] <;> rfl
theorem at_orb_last {f : Int → Int} {n : Int} {m : Nat} (h : 0 < m) : atI ((orb f n m).map V.int) (-1) = some (.int (it f (m - 1) n)) := by
  obtain ⟨k, rfl⟩ : ∃ k, m = k + 1 := ⟨m - 1, by omega⟩
  rw [orb_succ, List.map_append]
  exact atI_last _ _
end
theorem Course.of_check {f : Int → Int} {n : Int} {m c : Nat} (h : c < m) (hb : it f m n = it f c n) (hn : (orb f n m).Nodup) : Course f n m c := by
  refine ⟨h, hb, fun i j hi hj e => ?_⟩
  rw [List.nodup_iff_pairwise_ne] at hn
  have key : ∀ i j, i < j → j < m → it f i n ≠ it f j n := fun i j hij hj => by
    have g := List.pairwise_iff_getElem.mp hn i j (by rw [orb_len]; omega) (by rw [orb_len]; omega) hij
    have e1 := (List.getElem?_eq_some_iff.mp (orb_get (f := f) (n := n) (m := m) (i := i) (by omega))).2
    have e2 := (List.getElem?_eq_some_iff.mp (orb_get (f := f) (n := n) (m := m) (i := j) (by omega))).2
    rw [e1, e2] at g
    exact g
  rcases Nat.lt_trichotomy i j with h1 | h1 | h1
  · exact absurd e (key i j h1 hj)
  · exact h1
  · exact absurd e.symm (key j i h1 hi)
end Sl
namespace Sl
open PySem PySem.Spec PyProof.Rows L2 Evl
def topS (i : Nat) : Stmt := PySem.Challenge.pw_sortless_k03_whole_round_of.main.body.getD i (.Pass ⟨0, 0, 0, 0⟩)
/-- what the top has left of names: the built-in ones are free, the constants stand -/
structure Bf (K : PySem.W.Frag) (mg : Str → Option Value) : Prop where
  b_all : mg "all" = none
  b_bool : mg "bool" = none
  b_int : mg "int" = none
  b_isinstance : mg "isinstance" = none
  b_len : mg "len" = none
  b_max : mg "max" = none
  b_min : mg "min" = none
  b_range : mg "range" = none
  b_sorted : mg "sorted" = none
  b_tuple : mg "tuple" = none
  g_GREATEST : ConI mg "GREATEST" 12
  g_LONGEST : ConI mg "LONGEST" 8
end Sl
namespace Sl
open PySem PySem.Spec PyProof.Rows L2 Evl
section
variable {P : Program} {w : World} {K : PySem.W.Frag} {mg : Str → Option Value} {base : Heap}
def sp_is_whole (K : PySem.W.Frag) (mg : Str → Option Value) : Sp := sp1 (fun _ => True) (fun _ => .bl true)
abbrev s_is_whole : Stmt := topS 8
abbrev N_is_whole : List Str := ["thing"]
theorem sc_is_whole : FnScope N_is_whole ["thing"] (defScope s_is_whole) := ⟨rfl, rfl, rfl, by decide +kernel, rfl, by decide +kernel, by decide +kernel⟩
theorem ok_is_whole {f : Addr} {fd : FuncData} (F : Fun K "is_whole" "is_whole" s_is_whole f fd) (B : Bf K mg) : FnOk P w K mg base CX0 1 f fd ["thing"] (sp_is_whole K mg) := by
  refine F.ok (k := 0) sc_is_whole (fun vs H Q E h => ?_) (fun cdv A outer s H vs Q E hr h => ?_)
  · obtain ⟨a, rfl, _⟩ := h
    rfl
  · obtain ⟨a, rfl, _, q⟩ := h
    refine ⟨_, (pss_one (ps_ret (pe_and (pe_callB call_isi (by rfl) B.b_isinstance (by decide +kernel) (pa_cons (pv 0) (pa_cons (pe_bltn (v := .ty "int") (by rfl) B.b_int (by decide +kernel) rfl) pa_nil))) (pe_one (pe_not (pe_callB call_isi (by rfl) B.b_isinstance (by decide +kernel) (pa_cons (pv 0) (pa_cons (pe_bltn (v := .ty "bool") (by rfl) B.b_bool (by decide +kernel) rfl) pa_nil)))))))), ?_⟩
    refine s_ret (ev_andV (ev_cb (ea_cons (ev_var rfl) (ea_cons ev_c ea_nil)) rc_isi_int) (fun _ => (ev_notV (ev_cb (ea_cons (ev_var rfl) (ea_cons ev_c ea_nil)) rc_isi_bool)))) q
def sp_power_of (K : PySem.W.Frag) (mg : Str → Option Value) : Sp := sp2 (fun b n => 2 ≤ b ∧ b ≤ 12 ∧ 0 ≤ n ∧ n ≤ 8) (fun b n => .int (pw b n.toNat))
abbrev s_power_of : Stmt := topS 9
abbrev N_power_of : List Str := ["base", "many", "found", "turn"]
theorem sc_power_of : FnScope N_power_of ["base", "many"] (defScope s_power_of) := ⟨rfl, rfl, rfl, by decide +kernel, rfl, by decide +kernel, by decide +kernel⟩
theorem ok_power_of {f : Addr} {fd : FuncData} (F : Fun K "power_of" "power_of" s_power_of f fd) (B : Bf K mg) : FnOk P w K mg base CX0 1 f fd ["base", "many"] (sp_power_of K mg) := by
  refine F.ok (k := 0) sc_power_of (fun vs H Q E h => ?_) (fun cdv A outer s H vs Q E hr h => ?_)
  · obtain ⟨a, b, rfl, _⟩ := h
    rfl
  · obtain ⟨b, n, rfl, ⟨h1, h2, h3, h4⟩, q⟩ := h
    refine ⟨_, (pss_cons (ps_set (i := 2) sc_power_of.nd rfl (Or.inl rfl) pe_int)
          (pss_cons (ps_for PassesOwn.never rfl (pi_range1 (by rfl) B.b_range (pa_cons (pv 1) pa_nil)) (pg_name (i := 3) sc_power_of.nd rfl (Or.inl rfl)) (pss_one (ps_set (i := 2) sc_power_of.nd rfl (Or.inl rfl) (pe_op op_mul (pv 2) (pv 0)))))
          (pss_one (ps_ret (pv 2))))), ?_⟩
    refine q_asg ev_c fun H1 e1 => ?_
    refine q_forR1 (ea_cons (ev_var rfl) ea_nil) (by omega) (fun i σ' H' => ∃ y, σ' = [some (.int b), some (.int n), some (.int (pw b i)), y] ∧ Ex H H') (fun H2 e2 => ⟨none, rfl, e1.trans e2⟩) ?_ ?_
    · rintro i σ' H' hi ⟨y, rfl, e⟩
      exact s_asg (ev_op (ev_var rfl) (ev_var rfl) (rv_I (by first | exact Or.inr ⟨by omega, by omega⟩ | exact Or.inl ⟨by omega, by omega⟩))) fun H2 e2 => ⟨_, rfl, e.trans e2⟩
    · rintro σ' H' ⟨y, rfl, e⟩
      exact s_ret (ev_var rfl) fun H2 e2 => q H2 (e.trans e2)
def sp_check_both (K : PySem.W.Frag) (mg : Str → Option Value) : Sp := sp2 (fun b l => 2 ≤ b ∧ b ≤ 12 ∧ 1 ≤ l ∧ l ≤ 8) (fun _ _ => .non)
abbrev s_check_both : Stmt := topS 10
abbrev N_check_both : List Str := ["base", "length"]
theorem sc_check_both : FnScope N_check_both ["base", "length"] (defScope s_check_both) := ⟨rfl, rfl, rfl, by decide +kernel, rfl, by decide +kernel, by decide +kernel⟩
theorem ok_check_both {f : Addr} {fd : FuncData} (F : Fun K "check_both" "check_both" s_check_both f fd) (B : Bf K mg) (c_is_whole : Fn P w K mg base 1 "is_whole" ["thing"] (sp_is_whole K mg)) : FnOk P w K mg base CX0 2 f fd ["base", "length"] (sp_check_both K mg) := by
  refine F.ok (k := 1) sc_check_both (fun vs H Q E h => ?_) (fun cdv A outer s H vs Q E hr h => ?_)
  · obtain ⟨a, b, rfl, _⟩ := h
    rfl
  · obtain ⟨b, l, rfl, ⟨h1, h2, h3, h4⟩, q⟩ := h
    refine ⟨_, (pss_cons (ps_if (PW.pt (pw_or (pt_not (pt_val (pe_fn c_is_whole (hr.mono (by decide)) (by rfl) (pa_cons (pv 0) pa_nil)))) (pw_or1 (pt_not (pt_chain op_le op_le pe_int (pv 0) (pe_conI B.g_GREATEST (by rfl))))))) (pss_one ps_never) pss_nil)
          (pss_one (ps_if (PW.pt (pw_or (pt_not (pt_val (pe_fn c_is_whole (hr.mono (by decide)) (by rfl) (pa_cons (pv 1) pa_nil)))) (pw_or1 (pt_not (pt_chain op_le op_le pe_int (pv 1) (pe_conI B.g_LONGEST (by rfl))))))) (pss_one ps_never) pss_nil))), ?_⟩
    refine q_when (et_is (b := false) (et_or (et_not (et_B (ev_call (ea_cons (ev_var rfl) ea_nil) (sp1_v trivial)))) (fun _ => (et_not (et_test (ev_chain ev_c (ev_var rfl) rv_I0 ev_c rv_I0))))) (by simp [h1, h2])) (fun z => nomatch z) fun _ H1 e1 => ?_
    refine s_when (et_is (b := false) (et_or (et_not (et_B (ev_call (ea_cons (ev_var rfl) ea_nil) (sp1_v trivial)))) (fun _ => (et_not (et_test (ev_chain ev_c (ev_var rfl) rv_I0 ev_c rv_I0))))) (by simp [h3, h4])) (fun z => nomatch z) fun _ H2 e2 => ?_
    exact q H2 (e1.trans e2)
def sp_check_number (K : PySem.W.Frag) (mg : Str → Option Value) : Sp := sp3 Dom (fun _ _ _ => .non)
abbrev s_check_number : Stmt := topS 11
abbrev N_check_number : List Str := ["base", "length", "number"]
theorem sc_check_number : FnScope N_check_number ["base", "length", "number"] (defScope s_check_number) := ⟨rfl, rfl, rfl, by decide +kernel, rfl, by decide +kernel, by decide +kernel⟩
theorem ok_check_number {f : Addr} {fd : FuncData} (F : Fun K "check_number" "check_number" s_check_number f fd) (B : Bf K mg) (c_check_both : Fn P w K mg base 2 "check_both" ["base", "length"] (sp_check_both K mg)) (c_is_whole : Fn P w K mg base 1 "is_whole" ["thing"] (sp_is_whole K mg)) (c_power_of : Fn P w K mg base 1 "power_of" ["base", "many"] (sp_power_of K mg)) : FnOk P w K mg base CX0 3 f fd ["base", "length", "number"] (sp_check_number K mg) := by
  refine F.ok (k := 2) sc_check_number (fun vs H Q E h => ?_) (fun cdv A outer s H vs Q E hr h => ?_)
  · obtain ⟨a, b, c, rfl, _⟩ := h
    rfl
  · obtain ⟨b, l, n, rfl, ⟨⟨h1, h2, h3, h4⟩, h5, h6⟩, q⟩ := h
    refine ⟨_, (pss_cons (ps_expr (pe_fn c_check_both (hr.mono (by decide)) (by rfl) (pa_cons (pv 0) (pa_cons (pv 1) pa_nil))))
          (pss_one (ps_if (PW.pt (pw_or (pt_not (pt_val (pe_fn c_is_whole (hr.mono (by decide)) (by rfl) (pa_cons (pv 2) pa_nil)))) (pw_or1 (pt_not (pt_chain op_le op_lt pe_int (pv 2) (pe_fn c_power_of (hr.mono (by decide)) (by rfl) (pa_cons (pv 0) (pa_cons (pv 1) pa_nil)))))))) (pss_one ps_never) pss_nil))), ?_⟩
    refine q_drop (ev_call (ea_cons (ev_var rfl) (ea_cons (ev_var rfl) ea_nil)) (sp2_v (by first | assumption | omega))) fun H1 e1 => ?_
    refine s_when (et_is (b := false) (et_or (et_not (et_B (ev_call (ea_cons (ev_var rfl) ea_nil) (sp1_v trivial)))) (fun _ => (et_not (et_test (ev_chain ev_c (ev_var rfl) rv_I0 (ev_call (ea_cons (ev_var rfl) (ea_cons (ev_var rfl) ea_nil)) (sp2_v (by first | exact ⟨by omega, by omega, by omega, by omega⟩ | omega))) rv_I0))))) (by simp [h5, h6])) (fun z => nomatch z) fun _ H2 e2 => ?_
    exact q H2 (e1.trans e2)
def sp_figures_of (K : PySem.W.Frag) (mg : Str → Option Value) : Sp := sp3L (fun b l n => 2 ≤ b ∧ b ≤ 12 ∧ 1 ≤ l ∧ l ≤ 8) (fun b l n => figs b l.toNat n)
abbrev s_figures_of : Stmt := topS 12
abbrev N_figures_of : List Str := ["base", "length", "number", "found", "turn"]
theorem sc_figures_of : FnScope N_figures_of ["base", "length", "number"] (defScope s_figures_of) := ⟨rfl, rfl, rfl, by decide +kernel, rfl, by decide +kernel, by decide +kernel⟩
theorem ok_figures_of {f : Addr} {fd : FuncData} (F : Fun K "figures_of" "figures_of" s_figures_of f fd) (B : Bf K mg) : FnOk P w K mg base CX0 1 f fd ["base", "length", "number"] (sp_figures_of K mg) := by
  refine F.ok (k := 0) sc_figures_of (fun vs H Q E h => ?_) (fun cdv A outer s H vs Q E hr h => ?_)
  · obtain ⟨a, b, c, rfl, _⟩ := h
    rfl
  · obtain ⟨b, l, n, rfl, ⟨h1, h2, h3, h4⟩, q⟩ := h
    refine ⟨_, (pss_cons (ps_set (i := 3) sc_figures_of.nd rfl (Or.inl rfl) (pe_lst pa_nil))
          (pss_cons (ps_for PassesOwn.never rfl (pi_range1 (by rfl) B.b_range (pa_cons (pv 1) pa_nil)) (pg_name (i := 4) sc_figures_of.nd rfl (Or.inl rfl)) (pss_cons (ps_expr (pe_bm PySem.F.plainAttrs_list PySem.F.slot_list_append PySem.F.type_list_append mt_append (pv 3) (pa_cons (pe_op op_mod (pv 2) (pv 0)) pa_nil)))
          (pss_one (ps_set (i := 2) sc_figures_of.nd rfl (Or.inl rfl) (pe_op op_fdiv (pv 2) (pv 0))))))
          (pss_one (ps_ret (pv 3))))), ?_⟩
    refine q_asgL (el_lst ea_nil (by decide)) fun p H1 np e1 hp => ?_
    refine q_forR1 (ea_cons (ev_var rfl) ea_nil) (by omega) (fun i σ' H' => ∃ y, σ' = [some (.int b), some (.int l), some (.int (n / pw b i)), some (.ref p), y] ∧ Ex H H' ∧ H' p = some (.lst ((figs b i n).map V.int)))
      (fun H2 e2 => ⟨none, by rw [show n / pw b 0 = n from Int.ediv_one n] <;> rfl, e1.trans e2, e2 p _ hp⟩) ?_ ?_
    · rintro i σ' H' hi ⟨y, rfl, e, hp'⟩
      refine q_app hp' (ev_var rfl) (ev_op (ev_var rfl) (ev_var rfl) (rv_I (by first | decide | omega))) (by rw [List.length_map, figs_length]; omega) fun H2 e2 => ?_
      refine s_asg (ev_op (ev_var rfl) (ev_var rfl) (rv_I (by first | exact ⟨by decide, by decide⟩ | exact ⟨by omega, by omega⟩))) fun H3 e3 => ⟨_, by rw [div_pw (by omega)] <;> rfl, (ex_set e e2 np).trans e3, ?_⟩
      refine e3 p _ (upd_same.trans ?_)
      rw [figs_succ, List.map_append] <;> rfl
    · rintro σ' H' ⟨y, rfl, e, hp'⟩
      exact s_ret (ev_var rfl) fun H2 e2 => q p H2 np (e.trans e2) (e2 p _ hp')
def sp_written_by (K : PySem.W.Frag) (mg : Str → Option Value) : Sp := fun vs H Q _ => ∃ (b : Int) (p : Addr) (ds : List Int), vs = [.int b, .ref p] ∧ SqL K H p (ds.map V.int) ∧ (2 ≤ b ∧ b ≤ 12) ∧ RetV (.int (wr b ds)) H Q
theorem sp_written_v {K : PySem.W.Frag} {mg : Str → Option Value} {b : Int} {p : Addr} {ds : List Int} {H : Hp} (hs : SqL K H p (ds.map V.int)) (h : 2 ≤ b ∧ b ≤ 12) : SpV (sp_written_by K mg) [.int b, .ref p] H (.int (wr b ds)) :=
  fun _ e _ q _ => ⟨b, p, ds, rfl, ex_l e hs, h, q⟩
theorem wr_take {b : Int} {ds : List Int} {i : Nat} {d : Int} (h : ds[i]? = some d) : wr b (ds.take (i + 1)) = wr b (ds.take i) * b + d := by
  rw [List.take_add_one, h]
  exact wr_append b _ d
theorem item_of {ns : List Int} {i : Nat} {y : V} (hi : (ns.map V.int)[i]? = some y) : ∃ z, ns[i]? = some z ∧ y = V.int z := by
  rw [List.getElem?_map] at hi
  cases e : ns[i]? with
  | none =>
    rw [e] at hi
    cases hi
  | some z =>
    rw [e] at hi
    exact ⟨z, rfl, (Option.some.inj hi).symm⟩
abbrev s_written_by : Stmt := topS 13
abbrev N_written_by : List Str := ["base", "figures", "found", "figure"]
theorem sc_written_by : FnScope N_written_by ["base", "figures"] (defScope s_written_by) := ⟨rfl, rfl, rfl, by decide +kernel, rfl, by decide +kernel, by decide +kernel⟩
theorem ok_written_by {f : Addr} {fd : FuncData} (F : Fun K "written_by" "written_by" s_written_by f fd) (B : Bf K mg) : FnOk P w K mg base CX0 1 f fd ["base", "figures"] (sp_written_by K mg) := by
  refine F.ok (k := 0) sc_written_by (fun vs H Q E h => ?_) (fun cdv A outer s H vs Q E hr h => ?_)
  · obtain ⟨b, p, ds, rfl, _⟩ := h
    rfl
  · obtain ⟨b, p, ds, rfl, hs, ⟨h1, h2⟩, q⟩ := h
    refine ⟨_, (pss_cons (ps_set (i := 2) sc_written_by.nd rfl (Or.inl rfl) pe_int)
          (pss_cons (ps_for PassesOwn.never rfl (pi_list (pv 1)) (pg_name (i := 3) sc_written_by.nd rfl (Or.inl rfl)) (pss_one (ps_set (i := 2) sc_written_by.nd rfl (Or.inl rfl) (pe_op op_add (pe_op op_mul (pv 2) (pv 0)) (pv 3)))))
          (pss_one (ps_ret (pv 2))))), ?_⟩
    refine q_asg ev_c fun H1 e1 => ?_
    refine q_forLn (ev_var rfl) (ex_l e1 hs) (fun i σ' H' => ∃ y, σ' = [some (.int b), some (.ref p), some (.int (wr b (ds.take i))), y] ∧ Ex H H') (fun H2 e2 => ⟨none, rfl, e1.trans e2⟩) (fun i σ' H' _ ⟨_, _, e⟩ => ex_l e hs) ?_ ?_
    · rintro i x σ' H' hi ⟨y, rfl, e⟩
      obtain ⟨d, hd, rfl⟩ := item_of hi
      exact s_asg (ev_op (ev_op (ev_var rfl) (ev_var rfl) (rv_I (by first | exact Or.inr ⟨by omega, by omega⟩ | exact Or.inl ⟨by omega, by omega⟩))) (ev_var rfl) rv_I0) fun H2 e2 => ⟨_, by rw [wr_take hd] <;> rfl, e.trans e2⟩
    · rintro σ' H' ⟨y, rfl, e⟩
      rw [List.length_map, List.take_length]
      exact s_ret (ev_var rfl) fun H2 e2 => q H2 (e.trans e2)
def sp_step_of (K : PySem.W.Frag) (mg : Str → Option Value) : Sp := sp3 (fun b l n => 2 ≤ b ∧ b ≤ 12 ∧ 1 ≤ l ∧ l ≤ 8) (fun b l n => .int (stepM b l.toNat n))
abbrev s_step_of : Stmt := topS 14
abbrev N_step_of : List Str := ["base", "length", "number", "rising"]
theorem sc_step_of : FnScope N_step_of ["base", "length", "number"] (defScope s_step_of) := ⟨rfl, rfl, rfl, by decide +kernel, rfl, by decide +kernel, by decide +kernel⟩
theorem ok_step_of {f : Addr} {fd : FuncData} (F : Fun K "step_of" "step_of" s_step_of f fd) (B : Bf K mg) (c_figures_of : Fn P w K mg base 1 "figures_of" ["base", "length", "number"] (sp_figures_of K mg)) (c_written_by : Fn P w K mg base 1 "written_by" ["base", "figures"] (sp_written_by K mg)) : FnOk P w K mg base CX0 2 f fd ["base", "length", "number"] (sp_step_of K mg) := by
  refine F.ok (k := 1) sc_step_of (fun vs H Q E h => ?_) (fun cdv A outer s H vs Q E hr h => ?_)
  · obtain ⟨a, b, c, rfl, _⟩ := h
    rfl
  · obtain ⟨b, l, n, rfl, ⟨h1, h2, h3, h4⟩, q⟩ := h
    refine ⟨_, (pss_cons (ps_set (i := 3) sc_step_of.nd rfl (Or.inl rfl) (pe_callB cr_sortedI (by rfl) B.b_sorted (by decide +kernel) (pa_cons (pe_fn c_figures_of (hr.mono (by decide)) (by rfl) (pa_cons (pv 0) (pa_cons (pv 1) (pa_cons (pv 2) pa_nil)))) pa_nil)))
          (pss_one (ps_ret (pe_op op_sub (pe_fn c_written_by (hr.mono (by decide)) (by rfl) (pa_cons (pv 0) (pa_cons (pe_revL (pv 3)) pa_nil))) (pe_fn c_written_by (hr.mono (by decide)) (by rfl) (pa_cons (pv 0) (pa_cons (pv 3) pa_nil))))))), ?_⟩
    refine q_asgL (el_sortedN (el_call (ea_cons (ev_var rfl) (ea_cons (ev_var rfl) (ea_cons (ev_var rfl) ea_nil))) (sp3L_l ⟨h1, h2, h3, h4⟩))) fun p H1 np e1 hp => ?_
    refine s_ret (ev_op (ev_call2L (ev_var rfl) (el_rev (ev_var rfl) (sq_of hp)) fun p2 H2 e2 hp2 => sp_written_v (ds := (srt (figs b l.toNat n)).reverse) (by rw [List.map_reverse]; exact sq_of hp2) ⟨h1, h2⟩)
      (ev_call (ea_cons (ev_var rfl) (ea_cons (ev_var rfl) ea_nil)) (sp_written_v (sq_of hp) ⟨h1, h2⟩)) rv_I0) fun H2 e2 => q H2 (e1.trans e2)
def sp_course_of (K : PySem.W.Frag) (mg : Str → Option Value) : Sp := SpCourse
abbrev s_course_of : Stmt := topS 15
abbrev N_course_of : List Str := ["base", "length", "number", "found", "places"]
theorem sc_course_of : FnScope N_course_of ["base", "length", "number"] (defScope s_course_of) := ⟨rfl, rfl, rfl, by decide +kernel, rfl, by decide +kernel, by decide +kernel⟩
theorem ok_course_of {f : Addr} {fd : FuncData} (F : Fun K "course_of" "course_of" s_course_of f fd) (B : Bf K mg) (c_step_of : Fn P w K mg base 2 "step_of" ["base", "length", "number"] (sp_step_of K mg)) : FnOk P w K mg base CX0 3 f fd ["base", "length", "number"] (sp_course_of K mg) := by
  refine F.ok (k := 2) sc_course_of (fun vs H Q E h => ?_) (fun cdv A outer s H vs Q E hr h => ?_)
  · obtain ⟨b, l, n, rfl, _⟩ := h
    rfl
  · obtain ⟨b, l, n, rfl, hbl, q⟩ := h
    have hbl' := hbl
    obtain ⟨h1, h2, h3, h4⟩ := hbl
    refine ⟨_, (pss_cons (ps_par (i := 3) (j := 4) (by rfl) sc_course_of.nd rfl rfl (by decide) rfl rfl (pa_cons (pe_lst pa_nil) (pa_cons pe_dnewK pa_nil)) (by rfl))
          (pss_cons (ps_while PassesOwn.never (pt_cmp (pc_dnotin (hu_of hr) (pv 2) (pv 4))) (pss_cons (ps_dput (hu_of hr) (pv 4) (pv 2) (pe_callB call_len_seq (by rfl) B.b_len PySem.boot_len (pa_cons (pv 3) pa_nil)) rfl)
          (pss_cons (ps_expr (pe_bm PySem.F.plainAttrs_list PySem.F.slot_list_append PySem.F.type_list_append mt_append (pv 3) (pa_cons (pv 2) pa_nil)))
          (pss_one (ps_set (i := 2) sc_course_of.nd rfl (Or.inl rfl) (pe_fn c_step_of (hr.mono (by decide)) (by rfl) (pa_cons (pv 0) (pa_cons (pv 1) (pa_cons (pv 2) pa_nil)))))))))
          (pss_one (ps_ret (pe_tup (pa_cons (pv 3) (pa_cons (pe_dget (hu_of hr) (pv 4) (pv 2) (fun _ _ => rfl)) pa_nil))))))), ?_⟩
    refine q_parLD fun p d H1 np nd npd e1 hp hd => ?_
    obtain ⟨f, hf⟩ : ∃ f, f = stepM b l.toNat := ⟨_, rfl⟩
    rw [← hf] at q
    have hap : ∀ m, Apart f n m → m ≤ 20737 := fun m h => by
      rw [hf] at h
      exact apart_le hbl' h
    refine q_while (fun m σ' H' => ∃ i : Nat, m = 20738 - i ∧ Apart f n i ∧ σ' = [some (.int b), some (.int l), some (.int (it f i n)), some (.ref p), some (.ref d)] ∧ Ex H H' ∧ H' p = some (.lst ((orb f n i).map V.int)) ∧ H' d = some (.dK (plc f n i)))
      20738 ⟨0, rfl, Apart.zero f n, rfl, e1, hp, hd⟩ ?_
    rintro m σ' H2 ⟨i, rfl, hA, rfl, e2, hp2, hd2⟩
    have hi := hap i hA
    refine ⟨_, et_B (ev_dnotin (ev_var rfl) (ev_var rfl) hd2), fun hb H3 e3 => ?_, fun hb H3 e3 => ?_⟩
    · have hn : valV (plc f n i) (.inl (it f i n)) = none := by
        cases e : valV (plc f n i) (.inl (it f i n)) with
        | none => rfl
        | some v =>
          rw [e] at hb
          cases hb
      have hA2 := hA.succ (plc_out hn)
      have hi2 := hap _ hA2
      refine ⟨fun σ2 H' => Apart f n (i + 1) ∧ σ2 = [some (.int b), some (.int l), some (.int (it f (i + 1) n)), some (.ref p), some (.ref d)] ∧ Ex H H' ∧ H' p = some (.lst ((orb f n (i + 1)).map V.int)) ∧ H' d = some (.dK (plc f n (i + 1))),
        fun σ2 H' ⟨a1, a2, a3, a4, a5⟩ => ⟨20738 - (i + 1), by omega, i + 1, rfl, a1, a2, a3, a4, a5⟩, ?_⟩
      refine q_dput (ev_len (ev_var rfl) (sq_of (e3 p _ hp2))) (ev_var rfl) (ev_var rfl) (e3 d _ hd2) (by rw [plc_len]; omega) fun H4 e4 => ?_
      rw [putK_new _ hn, List.length_map, orb_len, ← plc_succ]
      have hp4 : (upd H4 d (.dK (plc f n (i + 1)))) p = some (.lst ((orb f n i).map V.int)) := by
        rw [upd_ne npd]
        exact e4 p _ (e3 p _ hp2)
      refine q_app hp4 (ev_var rfl) (ev_var rfl) (by rw [List.length_map, orb_len]; omega) fun H5 e5 => ?_
      refine s_asg (ev_call (ea_cons (ev_var rfl) (ea_cons (ev_var rfl) (ea_cons (ev_var rfl) ea_nil))) (sp3_v (by first | assumption | omega))) fun H6 e6 => ⟨hA2, by rw [← hf] <;> rfl, ?_, ?_, ?_⟩
      · exact (ex_set (Ex.mut ((e2.trans e3).trans e4) nd) e5 np).trans e6
      · refine e6 p _ (upd_same.trans ?_)
        rw [orb_succ, List.map_append] <;> rfl
      · refine e6 d _ ?_
        rw [upd_ne npd.symm]
        exact e5 d _ upd_same
    · cases e : valV (plc f n i) (.inl (it f i n)) with
      | none =>
        rw [e] at hb
        cases hb
      | some v =>
        obtain ⟨c, hc, eb, rfl⟩ := plc_in e
        refine s_retU (eu_tup (ea_cons (ev_var rfl) (ea_cons (ev_dget (ev_var rfl) (ev_var rfl) (e3 d _ hd2) e) ea_nil)) (Nat.le_of_ble_eq_true rfl)) fun t H4 nt e4 ht => ?_
        exact q t p H4 i c ⟨hc, eb, hA⟩ hi np ((e2.trans e3).trans e4) (e4 p _ (e3 p _ hp2)) ht
def sp_round_of (K : PySem.W.Frag) (mg : Str → Option Value) : Sp := fun vs H Q _ => ∃ (b l n : Int), vs = [.int b, .int l, .int n] ∧ Dom b l n ∧
  ∀ (t : Addr) (H2 : Hp) (m c : Nat), Course (stepM b l.toNat) n m c → m ≤ 20737 → H t = none → Ex H H2 → H2 t = some (.tup [.int (c : Int), .int ((m : Int) - c), .int (lmin (ring (stepM b l.toNat) n m c))]) → Q (.ref t) H2
theorem sp_round_p {K : PySem.W.Frag} {mg : Str → Option Value} {σ : L2.St} {E : XK} {ta : TA} {b l n : Int} {H : Hp} (h : Dom b l n) (ha : EvA ta σ H [.int b, .int l, .int n]) :
    EvP (tCall (sp_round_of K mg) [] E ta) σ H fun v H2 => ∃ (t : Addr) (m c : Nat), v = .ref t ∧ H t = none ∧ Course (stepM b l.toNat) n m c ∧ m ≤ 20737 ∧ H2 t = some (.tup [.int (c : Int), .int ((m : Int) - c), .int (lmin (ring (stepM b l.toNat) n m c))]) :=
  fun H1 e Q q => ha H1 e _ fun H2 e2 => ⟨b, l, n, rfl, h, fun t H3 m c hC hm nt e3 h1 => q _ H3 (e2.trans e3) ⟨t, m, c, rfl, fresh_back (e.trans e2) nt, hC, hm, h1⟩⟩
theorem ring_cut {f : Int → Int} {n : Int} {m c : Nat} (h : c ≤ m) : cutV ((orb f n m).map V.int) (some (c : Int)) none = (ring f n m c).map V.int := by
  rw [cut_drop (by rw [List.length_map, orb_len]; exact h), map_drop_int]
  rfl
theorem ring_pos {f : Int → Int} {n : Int} {m c : Nat} (h : c < m) : 0 < (ring f n m c).length := by
  unfold ring
  rw [List.length_drop, orb_len]
  omega
abbrev s_round_of : Stmt := topS 17
abbrev N_round_of : List Str := ["base", "length", "number", "found", "begin"]
theorem sc_round_of : FnScope N_round_of ["base", "length", "number"] (defScope s_round_of) := ⟨rfl, rfl, rfl, by decide +kernel, rfl, by decide +kernel, by decide +kernel⟩
theorem ok_round_of {f : Addr} {fd : FuncData} (F : Fun K "round_of" "round_of" s_round_of f fd) (B : Bf K mg) (c_check_number : Fn P w K mg base 3 "check_number" ["base", "length", "number"] (sp_check_number K mg)) (c_course_of : Fn P w K mg base 3 "course_of" ["base", "length", "number"] (sp_course_of K mg)) : FnOk P w K mg base CX0 4 f fd ["base", "length", "number"] (sp_round_of K mg) := by
  refine F.ok (k := 3) sc_round_of (fun vs H Q E h => ?_) (fun cdv A outer s H vs Q E hr h => ?_)
  · obtain ⟨b, l, n, rfl, _⟩ := h
    rfl
  · obtain ⟨b, l, n, rfl, hd, q⟩ := h
    have hd0 := hd.1
    refine ⟨_, (pss_cons (ps_expr (pe_fn c_check_number (hr.mono (by decide)) (by rfl) (pa_cons (pv 0) (pa_cons (pv 1) (pa_cons (pv 2) pa_nil)))))
          (pss_cons (ps_asg (pe_fn c_course_of (hr.mono (by decide)) (by rfl) (pa_cons (pv 0) (pa_cons (pv 1) (pa_cons (pv 2) pa_nil)))) (pg_tup rfl (pgs_cons (pg_name (i := 3) sc_round_of.nd rfl (Or.inl rfl)) (pgs_cons (pg_name (i := 4) sc_round_of.nd rfl (Or.inl rfl)) pgs_nil))))
          (pss_one (ps_ret (pe_tup (pa_cons (pv 4) (pa_cons (pe_op op_sub (pe_callB call_len_seq (by rfl) B.b_len PySem.boot_len (pa_cons (pv 3) pa_nil)) (pv 4)) (pa_cons (pe_callB (cr_min rfl) (by rfl) B.b_min (by decide +kernel) (pa_cons (pe_slice sl_list (pv 3) (po_some (pv 4)) po_none) pa_nil)) pa_nil)))))))), ?_⟩
    refine q_drop (ev_call (ea_cons (ev_var rfl) (ea_cons (ev_var rfl) (ea_cons (ev_var rfl) ea_nil))) (sp3_v (by first | assumption | omega))) fun H1 e1 => ?_
    refine q_asg2 (sp_course_p hd0 (ea_cons (ev_var rfl) (ea_cons (ev_var rfl) (ea_cons (ev_var rfl) ea_nil)))) fun x y H2 e2 hR => ?_
    obtain ⟨a, m, c, rfl, rfl, _, hC, hm, ha⟩ := hR
    have hlt := hC.lt
    have hlen : ((orb (stepM b l.toNat) n m).map V.int).length = m := by rw [List.length_map, orb_len]
    refine s_retU (eu_tup (ea_cons (ev_var rfl) (ea_cons (ev_op (ev_len (ev_var rfl) (sq_of ha)) (ev_var rfl) rv_I0) (ea_cons (ev_minN (el_is (el_sl (ev_var rfl) (eo_some (ev_var rfl)) eo_none (sq_of ha)) (ring_cut (by omega))) (ring_pos hlt)) ea_nil))) (Nat.le_of_ble_eq_true rfl)) fun t H3 nt e3 ht => ?_
    rw [hlen] at ht
    exact q t H3 m c hC hm (fresh_back (e1.trans e2) nt) ((e1.trans e2).trans e3) ht
def sp__law_cell_at (K : PySem.W.Frag) (mg : Str → Option Value) : Sp := fun vs H Q _ => ∃ (a : Addr) (ns : List Int) (k : Int), vs = [.ref a, .int k] ∧ SqL K H a (ns.map V.int) ∧ 0 ≤ k ∧ RetV (.int (ns.getD k.toNat 0)) H Q
theorem sp_cell_v {K : PySem.W.Frag} {mg : Str → Option Value} {a : Addr} {ns : List Int} {k : Int} {H : Hp} (hs : SqL K H a (ns.map V.int)) (h : 0 ≤ k) : SpV (sp__law_cell_at K mg) [.ref a, .int k] H (.int (ns.getD k.toNat 0)) :=
  fun _ e _ q _ => ⟨a, ns, k, rfl, ex_l e hs, h, q⟩
theorem at_getD {ns : List Int} {k : Int} (h0 : 0 ≤ k) (h1 : k < ((ns.map V.int).length : Int)) : atI (ns.map V.int) k = some (.int (ns.getD k.toNat 0)) := by
  rw [List.length_map] at h1
  refine at_of (j := k.toNat) (by omega) ?_
  rw [List.getElem?_map, List.getD_eq_getElem?_getD, List.getElem?_eq_getElem (by omega)] <;> rfl
abbrev s__law_cell_at : Stmt := topS 19
abbrev N__law_cell_at : List Str := ["_law_script", "_law_k"]
theorem sc__law_cell_at : FnScope N__law_cell_at ["_law_script", "_law_k"] (defScope s__law_cell_at) := ⟨rfl, rfl, rfl, by decide +kernel, rfl, by decide +kernel, by decide +kernel⟩
theorem ok__law_cell_at {f : Addr} {fd : FuncData} (F : Fun K "_law_cell_at" "_law_cell_at" s__law_cell_at f fd) (B : Bf K mg) : FnOk P w K mg base CX0 1 f fd ["_law_script", "_law_k"] (sp__law_cell_at K mg) := by
  refine F.ok (k := 0) sc__law_cell_at (fun vs H Q E h => ?_) (fun cdv A outer s H vs Q E hr h => ?_)
  · obtain ⟨a, ns, k, rfl, _⟩ := h
    rfl
  · obtain ⟨a, ns, k, rfl, hs, h0, q⟩ := h
    refine ⟨_, (pss_cons (ps_if (pt_cmpR op_lt (pv 1) (pe_callB call_len_seq (by rfl) B.b_len PySem.boot_len (pa_cons (pv 0) pa_nil)) (nomark _)) (pss_one (ps_ret (pe_ix ix_list (pv 0) (pv 1) (fun _ _ => rfl)))) pss_nil)
          (pss_one (ps_ret pe_int))), ?_⟩
    refine q_when (et_test (ev_op (ev_var rfl) (ev_len (ev_var rfl) hs) rv_I0)) (fun hb H1 e1 => ?_) (fun hb H1 e1 => ?_)
    · have hb' := of_decide_eq_true hb
      exact s_ret (ev_op (ev_var rfl) (ev_var rfl) (rv_ixL (ex_l e1 hs) (at_getD h0 hb'))) fun H2 e2 => q H2 (e1.trans e2)
    · have hb' := of_decide_eq_false hb
      rw [List.length_map] at hb'
      have e : ns.getD k.toNat 0 = 0 := by
        rw [List.getD_eq_getElem?_getD, List.getElem?_eq_none (by omega)] <;> rfl
      rw [e] at q
      exact s_ret ev_c fun H2 e2 => q H2 (e1.trans e2)
def primes : List Int := [1000003, 1000033, 1000037, 1000039, 1000081, 1000099, 1000117, 1000121, 1000133, 1000151, 1000159, 1000171, 1000183, 1000187, 1000193, 1000199]
def drawM (c k m : Int) : Int := (c * 48271 + k * 69621) % (primes.getD (k % 16).toNat 1) % m
theorem primes_pos : ∀ i, 0 < primes.getD i 1
  | 0 | 1 | 2 | 3 | 4 | 5 | 6 | 7 | 8 | 9 | 10 | 11 | 12 | 13 | 14 | 15 => by decide
  | i + 16 => by
    rw [List.getD_eq_getElem?_getD, List.getElem?_eq_none (by show 16 ≤ i + 16; omega)] <;> decide
theorem primes_at (k : Int) : atI (primes.map V.int) (k % 16) = some (.int (primes.getD (k % 16).toNat 1)) := by
  have h0 := Int.emod_nonneg k (show (16 : Int) ≠ 0 by decide)
  have h1 := Int.emod_lt_of_pos k (show (0 : Int) < 16 by decide)
  refine at_of (j := (k % 16).toNat) (by omega) ?_
  rw [List.getElem?_map, List.getD_eq_getElem?_getD, List.getElem?_eq_getElem (by show (k % 16).toNat < 16; omega)] <;> rfl
theorem draw_nn (c k : Int) {m : Int} (h : 0 < m) : 0 ≤ drawM c k m := Int.emod_nonneg _ (by omega)
def sp__law_draw (K : PySem.W.Frag) (mg : Str → Option Value) : Sp := sp3 (fun _ _ m => 0 < m) (fun c k m => .int (drawM c k m))
abbrev s__law_draw : Stmt := topS 20
abbrev N__law_draw : List Str := ["_law_cell", "_law_k", "_law_many", "_law_primes"]
theorem sc__law_draw : FnScope N__law_draw ["_law_cell", "_law_k", "_law_many"] (defScope s__law_draw) := ⟨rfl, rfl, rfl, by decide +kernel, rfl, by decide +kernel, by decide +kernel⟩
theorem ok__law_draw {f : Addr} {fd : FuncData} (F : Fun K "_law_draw" "_law_draw" s__law_draw f fd) (B : Bf K mg) : FnOk P w K mg base CX0 1 f fd ["_law_cell", "_law_k", "_law_many"] (sp__law_draw K mg) := by
  refine F.ok (k := 0) sc__law_draw (fun vs H Q E h => ?_) (fun cdv A outer s H vs Q E hr h => ?_)
  · obtain ⟨a, b, c, rfl, _⟩ := h
    rfl
  · obtain ⟨c, k, m, rfl, hm, q⟩ := h
    have hm : 0 < m := hm
    have hpp := primes_pos (k % 16).toNat
    refine ⟨_, (pss_cons (ps_set (i := 3) sc__law_draw.nd rfl (Or.inl rfl) (pe_tup (pa_cons pe_int (pa_cons pe_int (pa_cons pe_int (pa_cons pe_int (pa_cons pe_int (pa_cons pe_int (pa_cons pe_int (pa_cons pe_int (pa_cons pe_int (pa_cons pe_int (pa_cons pe_int (pa_cons pe_int (pa_cons pe_int (pa_cons pe_int (pa_cons pe_int (pa_cons pe_int pa_nil))))))))))))))))))
          (pss_one (ps_ret (pe_op op_mod (pe_op op_mod (pe_op op_add (pe_op op_mul (pv 0) pe_int) (pe_op op_mul (pv 1) pe_int)) (pe_ix ix_tup (pv 3) (pe_op op_mod (pv 1) pe_int) (fun _ _ => rfl))) (pv 2))))), ?_⟩
    refine q_asgU (xs := primes.map V.int) (eu_tup (ea_cons ev_c (ea_cons ev_c (ea_cons ev_c (ea_cons ev_c (ea_cons ev_c (ea_cons ev_c (ea_cons ev_c (ea_cons ev_c (ea_cons ev_c (ea_cons ev_c (ea_cons ev_c (ea_cons ev_c (ea_cons ev_c (ea_cons ev_c (ea_cons ev_c (ea_cons ev_c ea_nil)))))))))))))))) (by decide)) fun p H1 np e1 hp => ?_
    exact s_ret (ev_op (ev_op (ev_op (ev_op (ev_var rfl) ev_c (rv_I (by first | exact Or.inr ⟨by omega, by omega⟩ | exact Or.inl ⟨by omega, by omega⟩))) (ev_op (ev_var rfl) ev_c (rv_I (by first | exact Or.inr ⟨by omega, by omega⟩ | exact Or.inl ⟨by omega, by omega⟩))) rv_I0) (ev_op (ev_var rfl) (ev_op (ev_var rfl) ev_c (rv_I (by decide))) (rv_ixT (st_of hp) (primes_at k))) (rv_I (by first | decide | omega))) (ev_var rfl) (rv_I (by first | decide | omega))) fun H2 e2 => q H2 (e1.trans e2)
def valueM (c t : Int) : Int := if (10 : Int) ^ (18 : Int).toNat ≤ c then (c - 10 ^ (18 : Int).toNat) / 2 ^ (3 * t).toNat
  else drawM ((c + 977 * t) * (c + 31 * t + 5)) (t % 9 + 1) 999983 * 1000003 + drawM ((c + 31 * t) * (c + 7) + 977 * t) (t % 7 + 2) 1000003
theorem value_nn (c t : Int) : 0 ≤ valueM c t := by
  unfold valueM
  split
  · rename_i h
    refine Int.ediv_nonneg (by omega) ?_
    exact Int.le_of_lt (Int.pow_pos (by decide))
  · have h1 := draw_nn ((c + 977 * t) * (c + 31 * t + 5)) (t % 9 + 1) (show (0 : Int) < 999983 by decide)
    have h2 := draw_nn ((c + 31 * t) * (c + 7) + 977 * t) (t % 7 + 2) (show (0 : Int) < 1000003 by decide)
    omega
def sp__law_value (K : PySem.W.Frag) (mg : Str → Option Value) : Sp := sp2 (fun c t => Bt c ∧ 0 ≤ t ∧ t ≤ 100) (fun c t => .int (valueM c t))
abbrev s__law_value : Stmt := topS 21
abbrev N__law_value : List Str := ["_law_cell", "_law_turn", "_law_mixed"]
theorem sc__law_value : FnScope N__law_value ["_law_cell", "_law_turn"] (defScope s__law_value) := ⟨rfl, rfl, rfl, by decide +kernel, rfl, by decide +kernel, by decide +kernel⟩
theorem ok__law_value {f : Addr} {fd : FuncData} (F : Fun K "_law_value" "_law_value" s__law_value f fd) (B : Bf K mg) (c__law_draw : Fn P w K mg base 1 "_law_draw" ["_law_cell", "_law_k", "_law_many"] (sp__law_draw K mg)) : FnOk P w K mg base CX0 2 f fd ["_law_cell", "_law_turn"] (sp__law_value K mg) := by
  refine F.ok (k := 1) sc__law_value (fun vs H Q E h => ?_) (fun cdv A outer s H vs Q E hr h => ?_)
  · obtain ⟨a, b, rfl, _⟩ := h
    rfl
  · obtain ⟨c, t, rfl, ⟨hc, h0, h1⟩, q⟩ := h
    have q : RetV (.int (valueM c t)) H Q := q
    refine ⟨_, (pss_cons (ps_if (pt_cmpR op_ge (pv 0) (pe_op op_pow pe_int pe_int) (nomark _)) (pss_one (ps_ret (pe_op op_shr (pe_op op_sub (pv 0) (pe_op op_pow pe_int pe_int)) (pe_op op_mul pe_int (pv 1))))) pss_nil)
          (pss_cons (ps_set (i := 2) sc__law_value.nd rfl (Or.inl rfl) (pe_fn c__law_draw (hr.mono (by decide)) (by rfl) (pa_cons (pe_op op_mulX (pe_op op_add (pv 0) (pe_op op_mul pe_int (pv 1))) (pe_op op_add (pe_op op_add (pv 0) (pe_op op_mul pe_int (pv 1))) pe_int)) (pa_cons (pe_op op_add (pe_op op_mod (pv 1) pe_int) pe_int) (pa_cons pe_int pa_nil)))))
          (pss_one (ps_ret (pe_op op_add (pe_op op_mul (pv 2) pe_int) (pe_fn c__law_draw (hr.mono (by decide)) (by rfl) (pa_cons (pe_op op_add (pe_op op_mulX (pe_op op_add (pv 0) (pe_op op_mul pe_int (pv 1))) (pe_op op_add (pv 0) pe_int)) (pe_op op_mul pe_int (pv 1))) (pa_cons (pe_op op_add (pe_op op_mod (pv 1) pe_int) pe_int) (pa_cons pe_int pa_nil))))))))), ?_⟩
    refine q_when (et_test (ev_op (ev_var rfl) (ev_op ev_c ev_c (rv_I (by exact ⟨by decide, by decide, by decide⟩))) rv_I0)) (fun hb H1 e1 => ?_) (fun hb H1 e1 => ?_)
    · have hb' := of_decide_eq_true hb
      have ev : valueM c t = (c - 10 ^ (18 : Int).toNat) / 2 ^ (3 * t).toNat := if_pos hb'
      rw [ev] at q
      exact s_ret (ev_op (ev_op (ev_var rfl) (ev_op ev_c ev_c (rv_I (by exact ⟨by decide, by decide, by decide⟩))) rv_I0) (ev_op ev_c (ev_var rfl) (rv_I (by first | exact Or.inr ⟨by omega, by omega⟩ | exact Or.inl ⟨by omega, by omega⟩))) (rv_I (by first | decide | omega))) fun H2 e2 => q H2 (e1.trans e2)
    · have hb' := of_decide_eq_false hb
      have ev : valueM c t = drawM ((c + 977 * t) * (c + 31 * t + 5)) (t % 9 + 1) 999983 * 1000003 + drawM ((c + 31 * t) * (c + 7) + 977 * t) (t % 7 + 2) 1000003 := if_neg hb'
      rw [ev] at q
      refine q_asg (ev_call (ea_cons (ev_op (ev_op (ev_var rfl) (ev_op ev_c (ev_var rfl) (rv_I (by first | exact Or.inr ⟨by omega, by omega⟩ | exact Or.inl ⟨by omega, by omega⟩))) rv_I0) (ev_op (ev_op (ev_var rfl) (ev_op ev_c (ev_var rfl) (rv_I (by first | exact Or.inr ⟨by omega, by omega⟩ | exact Or.inl ⟨by omega, by omega⟩))) rv_I0) ev_c rv_I0) (rv_I (mulx_of (hc.add (by omega)) (by rw [Int.add_assoc]; exact hc.add (by omega))))) (ea_cons (ev_op (ev_op (ev_var rfl) ev_c (rv_I (by first | decide | omega))) ev_c rv_I0) (ea_cons ev_c ea_nil))) (sp3_v (by decide))) fun H2 e2 => ?_
      exact s_ret (ev_op (ev_op (ev_var rfl) ev_c (rv_I (by first | exact Or.inr ⟨by omega, by omega⟩ | exact Or.inl ⟨by omega, by omega⟩))) (ev_call (ea_cons (ev_op (ev_op (ev_op (ev_var rfl) (ev_op ev_c (ev_var rfl) (rv_I (by first | exact Or.inr ⟨by omega, by omega⟩ | exact Or.inl ⟨by omega, by omega⟩))) rv_I0) (ev_op (ev_var rfl) ev_c rv_I0) (rv_I (mulx_of (hc.add (by omega)) (hc.add (by omega))))) (ev_op ev_c (ev_var rfl) (rv_I (by first | exact Or.inr ⟨by omega, by omega⟩ | exact Or.inl ⟨by omega, by omega⟩))) rv_I0) (ea_cons (ev_op (ev_op (ev_var rfl) ev_c (rv_I (by first | decide | omega))) ev_c rv_I0) (ea_cons ev_c ea_nil))) (sp3_v (by decide))) rv_I0) fun H3 e3 => q H3 ((e1.trans e2).trans e3)
def sp__law_power (K : PySem.W.Frag) (mg : Str → Option Value) : Sp := sp2 (fun b n => 2 ≤ b ∧ b ≤ 12 ∧ 0 ≤ n ∧ n ≤ 8) (fun b n => .int (pw b n.toNat))
abbrev s__law_power : Stmt := topS 22
abbrev N__law_power : List Str := ["_law_base", "_law_many", "_law_found", "_law_turn"]
theorem sc__law_power : FnScope N__law_power ["_law_base", "_law_many"] (defScope s__law_power) := ⟨rfl, rfl, rfl, by decide +kernel, rfl, by decide +kernel, by decide +kernel⟩
theorem ok__law_power {f : Addr} {fd : FuncData} (F : Fun K "_law_power" "_law_power" s__law_power f fd) (B : Bf K mg) : FnOk P w K mg base CX0 1 f fd ["_law_base", "_law_many"] (sp__law_power K mg) := by
  refine F.ok (k := 0) sc__law_power (fun vs H Q E h => ?_) (fun cdv A outer s H vs Q E hr h => ?_)
  · obtain ⟨a, b, rfl, _⟩ := h
    rfl
  · obtain ⟨b, n, rfl, ⟨h1, h2, h3, h4⟩, q⟩ := h
    refine ⟨_, (pss_cons (ps_set (i := 2) sc__law_power.nd rfl (Or.inl rfl) pe_int)
          (pss_cons (ps_for PassesOwn.never rfl (pi_range1 (by rfl) B.b_range (pa_cons (pv 1) pa_nil)) (pg_name (i := 3) sc__law_power.nd rfl (Or.inl rfl)) (pss_one (ps_set (i := 2) sc__law_power.nd rfl (Or.inl rfl) (pe_op op_mul (pv 2) (pv 0)))))
          (pss_one (ps_ret (pv 2))))), ?_⟩
    refine q_asg ev_c fun H1 e1 => ?_
    refine q_forR1 (ea_cons (ev_var rfl) ea_nil) (by omega) (fun i σ' H' => ∃ y, σ' = [some (.int b), some (.int n), some (.int (pw b i)), y] ∧ Ex H H') (fun H2 e2 => ⟨none, rfl, e1.trans e2⟩) ?_ ?_
    · rintro i σ' H' hi ⟨y, rfl, e⟩
      exact s_asg (ev_op (ev_var rfl) (ev_var rfl) (rv_I (by first | exact Or.inr ⟨by omega, by omega⟩ | exact Or.inl ⟨by omega, by omega⟩))) fun H2 e2 => ⟨_, rfl, e.trans e2⟩
    · rintro σ' H' ⟨y, rfl, e⟩
      exact s_ret (ev_var rfl) fun H2 e2 => q H2 (e.trans e2)
def sp__law_room (K : PySem.W.Frag) (mg : Str → Option Value) : Sp := fun vs H Q _ => ∃ (a : Addr) (ns : List Int) (k : Int), vs = [.ref a, .int k] ∧ SqL K H a (ns.map V.int) ∧ (∀ z ∈ ns, Bt z) ∧ 0 ≤ k ∧
  ∀ (p : Addr) (H2 : Hp) (b l n : Int), Dom b l n → H p = none → Ex H H2 → H2 p = some (.tup [.int b, .int l, .int n]) → Q (.ref p) H2
theorem sp_room_p {K : PySem.W.Frag} {mg : Str → Option Value} {σ : L2.St} {E : XK} {ta : TA} {a : Addr} {ns : List Int} {k : Int} {H : Hp} (hs : SqL K H a (ns.map V.int)) (hb : ∀ z ∈ ns, Bt z) (h : 0 ≤ k) (ha : EvA ta σ H [.ref a, .int k]) :
    EvP (tCall (sp__law_room K mg) [] E ta) σ H fun v H2 => ∃ p x y z, v = .ref p ∧ H2 p = some (.tup [x, y, z]) ∧ ∃ b l n, x = .int b ∧ y = .int l ∧ z = .int n ∧ Dom b l n :=
  fun H1 e Q q => ha H1 e _ fun H2 e2 => ⟨a, ns, k, rfl, ex_l (e.trans e2) hs, hb, h, fun p H3 b l n hd _ e3 hp => q _ H3 (e2.trans e3) ⟨p, _, _, _, rfl, hp, b, l, n, rfl, rfl, rfl, hd⟩⟩
theorem cell_bt {ns : List Int} (hb : ∀ z ∈ ns, Bt z) (k : Nat) : Bt (ns.getD k 0) := by
  rw [List.getD_eq_getElem?_getD]
  cases e : ns[k]? with
  | none => exact Bt.zero
  | some z => exact hb z (List.mem_of_getElem? e)
abbrev s__law_room : Stmt := topS 23
abbrev N__law_room : List Str := ["_law_script", "_law_by", "_law_cell", "_law_base", "_law_length", "_law_number"]
theorem sc__law_room : FnScope N__law_room ["_law_script", "_law_by"] (defScope s__law_room) := ⟨rfl, rfl, rfl, by decide +kernel, rfl, by decide +kernel, by decide +kernel⟩
theorem ok__law_room {f : Addr} {fd : FuncData} (F : Fun K "_law_room" "_law_room" s__law_room f fd) (B : Bf K mg) (c__law_cell_at : Fn P w K mg base 1 "_law_cell_at" ["_law_script", "_law_k"] (sp__law_cell_at K mg)) (c__law_power : Fn P w K mg base 1 "_law_power" ["_law_base", "_law_many"] (sp__law_power K mg)) (c__law_value : Fn P w K mg base 2 "_law_value" ["_law_cell", "_law_turn"] (sp__law_value K mg)) : FnOk P w K mg base CX0 3 f fd ["_law_script", "_law_by"] (sp__law_room K mg) := by
  refine F.ok (k := 2) sc__law_room (fun vs H Q E h => ?_) (fun cdv A outer s H vs Q E hr h => ?_)
  · obtain ⟨a, ns, k, rfl, _⟩ := h
    rfl
  · obtain ⟨a, ns, k, rfl, hs, hbt, h0, q⟩ := h
    have hc := cell_bt hbt k.toNat
    refine ⟨_, (pss_cons (ps_set (i := 2) sc__law_room.nd rfl (Or.inl rfl) (pe_fn c__law_cell_at (hr.mono (by decide)) (by rfl) (pa_cons (pv 0) (pa_cons (pv 1) pa_nil))))
          (pss_cons (ps_par (i := 3) (j := 4) (by rfl) sc__law_room.nd rfl rfl (by decide) rfl rfl (pa_cons (pe_op op_add pe_int (pe_op op_mod (pe_fn c__law_value (hr.mono (by decide)) (by rfl) (pa_cons (pv 2) (pa_cons pe_int pa_nil))) pe_int)) (pa_cons (pe_op op_add pe_int (pe_op op_mod (pe_fn c__law_value (hr.mono (by decide)) (by rfl) (pa_cons (pv 2) (pa_cons pe_int pa_nil))) pe_int)) pa_nil)) (by rfl))
          (pss_cons (ps_set (i := 5) sc__law_room.nd rfl (Or.inl rfl) (pe_op op_mod (pe_op op_add (pe_op op_mul (pe_fn c__law_value (hr.mono (by decide)) (by rfl) (pa_cons (pv 2) (pa_cons pe_int pa_nil))) pe_int) (pe_fn c__law_value (hr.mono (by decide)) (by rfl) (pa_cons (pv 2) (pa_cons pe_int pa_nil)))) (pe_fn c__law_power (hr.mono (by decide)) (by rfl) (pa_cons (pv 3) (pa_cons (pv 4) pa_nil)))))
          (pss_cons (ps_if (pt_cmpR op_eq (pe_op op_mod (pe_fn c__law_value (hr.mono (by decide)) (by rfl) (pa_cons (pv 2) (pa_cons pe_int pa_nil))) pe_int) pe_int (nomark _)) (pss_one (ps_set (i := 5) sc__law_room.nd rfl (Or.inl rfl) (pe_op op_mod (pv 5) (pe_fn c__law_power (hr.mono (by decide)) (by rfl) (pa_cons (pv 3) (pa_cons (pe_op op_add pe_int (pe_op op_mod (pe_fn c__law_value (hr.mono (by decide)) (by rfl) (pa_cons (pv 2) (pa_cons pe_int pa_nil))) (pv 4))) pa_nil)))))) pss_nil)
          (pss_one (ps_ret (pe_tup (pa_cons (pv 3) (pa_cons (pv 4) (pa_cons (pv 5) pa_nil)))))))))), ?_⟩
    refine q_asg (ev_call (ea_cons (ev_var rfl) (ea_cons (ev_var rfl) ea_nil)) (sp_cell_v hs h0)) fun H1 e1 => ?_
    generalize ns.getD k.toNat 0 = c at hc
    refine q_par (ea_cons (ev_op ev_c (ev_op (ev_call (ea_cons (ev_var rfl) (ea_cons ev_c ea_nil)) (sp2_v ⟨hc, by decide, by decide⟩)) ev_c (rv_I (by first | decide | omega))) rv_I0) (ea_cons (ev_op ev_c (ev_op (ev_call (ea_cons (ev_var rfl) (ea_cons ev_c ea_nil)) (sp2_v ⟨hc, by decide, by decide⟩)) ev_c (rv_I (by first | decide | omega))) rv_I0) ea_nil)) fun H2 e2 => ?_
    obtain ⟨b, hb⟩ : ∃ b, b = 2 + valueM c 1 % 11 := ⟨_, rfl⟩
    obtain ⟨l, hl⟩ : ∃ l, l = 1 + valueM c 2 % 8 := ⟨_, rfl⟩
    rw [← hb, ← hl]
    have hb1 : 2 ≤ b ∧ b ≤ 12 := by omega
    have hl1 : 1 ≤ l ∧ l ≤ 8 := by omega
    clear hb hl
    have hp := pw_pos (show 0 < b by omega) l.toNat
    refine q_asg (ev_op (ev_op (ev_op (ev_call (ea_cons (ev_var rfl) (ea_cons ev_c ea_nil)) (sp2_v ⟨hc, by decide, by decide⟩)) ev_c (rv_I (by first | exact Or.inr ⟨by omega, by omega⟩ | exact Or.inl ⟨by omega, by omega⟩))) (ev_call (ea_cons (ev_var rfl) (ea_cons ev_c ea_nil)) (sp2_v ⟨hc, by decide, by decide⟩)) rv_I0) (ev_call (ea_cons (ev_var rfl) (ea_cons (ev_var rfl) ea_nil)) (sp2_v (by first | exact ⟨by omega, by omega, by omega, by omega⟩ | omega))) (rv_I (by first | decide | omega))) fun H3 e3 => ?_
    have hn0 := Int.emod_nonneg (valueM c 3 * 1000000007 + valueM c 4) (show pw b l.toNat ≠ 0 by omega)
    have hn1 := Int.emod_lt_of_pos (valueM c 3 * 1000000007 + valueM c 4) hp
    generalize (valueM c 3 * 1000000007 + valueM c 4) % pw b l.toNat = n at hn0 hn1
    have fin : ∀ (n : Int) (H' : Hp), Ex H H' → 0 ≤ n → n < pw b l.toNat → tRet (tTup (tCons (tVar 3) (tCons (tVar 4) (tCons (tVar 5) tNil)))) { nx := fun _ H' => Q .non H', rt := Q } [some (.ref a), some (.int k), some (.int c), some (.int b), some (.int l), some (.int n)] H' := fun n H' e n0 n1 =>
      s_retU (eu_tup (ea_cons (ev_var rfl) (ea_cons (ev_var rfl) (ea_cons (ev_var rfl) ea_nil))) (Nat.le_of_ble_eq_true rfl)) fun p H2 np e2 hp => q p H2 b l n ⟨⟨hb1.1, hb1.2, hl1.1, hl1.2⟩, n0, n1⟩ (fresh_back e np) (e.trans e2) hp
    refine q_when (et_test (ev_op (ev_op (ev_call (ea_cons (ev_var rfl) (ea_cons ev_c ea_nil)) (sp2_v ⟨hc, by decide, by decide⟩)) ev_c (rv_I (by first | decide | omega))) ev_c (rv_eq rfl))) (fun _ H4 e4 => ?_) (fun _ H4 e4 => ?_)
    · obtain ⟨j, hj⟩ : ∃ j, j = 1 + valueM c 6 % l := ⟨_, rfl⟩
      have hj0 := Int.emod_nonneg (valueM c 6) (show l ≠ 0 by omega)
      have hj1 := Int.emod_lt_of_pos (valueM c 6) (show 0 < l by omega)
      have hp2 := pw_pos (show 0 < b by omega) (1 + valueM c 6 % l).toNat
      refine s_asg (ev_op (ev_var rfl) (ev_call (ea_cons (ev_var rfl) (ea_cons (ev_op ev_c (ev_op (ev_call (ea_cons (ev_var rfl) (ea_cons ev_c ea_nil)) (sp2_v ⟨hc, by decide, by decide⟩)) (ev_var rfl) (rv_I (by first | decide | omega))) rv_I0) ea_nil)) (sp2_v (by first | exact ⟨by omega, by omega, by omega, by omega⟩ | omega))) (rv_I (by first | decide | omega))) fun H5 e5 => ?_
      refine fin _ H5 ((((e1.trans e2).trans e3).trans e4).trans e5) (Int.emod_nonneg _ (by omega)) ?_
      have h1 := Int.emod_lt_of_pos n hp2
      have h2 := pw_up (b := b) (by omega) (show (1 + valueM c 6 % l).toNat ≤ l.toNat by omega)
      omega
    · exact fin n H4 (((e1.trans e2).trans e3).trans e4) hn0 hn1
/-- how often each figure is there -/
def cnts (b : Nat) (l : List Int) : List Int := (List.range b).map fun (f : Nat) => ((l.count (f : Int) : Nat) : Int)
theorem cnts_len (b : Nat) (l : List Int) : ((cnts b l).map V.int).length = b := by simp [cnts]
theorem cnts_nil (b : Nat) : (cnts b []).map V.int = (List.replicate b [V.int 0]).flatten := by
  induction b with
  | zero => rfl
  | succ b ih =>
    have e : cnts (b + 1) [] = cnts b [] ++ [0] := by simp [cnts, List.range_succ]
    rw [e, List.map_append, ih, List.replicate_succ', List.flatten_append] <;> simp
theorem cnts_get {b : Nat} (l : List Int) {k : Int} (h0 : 0 ≤ k) (h1 : k < (b : Int)) : atI ((cnts b l).map V.int) k = some (.int (l.count k)) := by
  refine at_of (j := k.toNat) (by omega) ?_
  unfold cnts
  rw [List.getElem?_map, List.getElem?_map, List.getElem?_range (by omega)]
  simp only [Option.map_some, Option.some.injEq, V.int.injEq]
  rw [show ((k.toNat : Nat) : Int) = k by omega]
theorem cnts_set {b : Nat} (l : List Int) {k : Int} (h0 : 0 ≤ k) (h1 : k < (b : Int)) : ((cnts b l).map V.int).set k.toNat (.int (((l.count k : Nat) : Int) + 1)) = (cnts b (l ++ [k])).map V.int := by
  refine List.ext_getElem? fun i => ?_
  unfold cnts
  rw [List.getElem?_set, List.getElem?_map, List.getElem?_map, List.getElem?_map, List.getElem?_map]
  by_cases hi : i < b
  · rw [List.getElem?_range hi]
    by_cases e : k.toNat = i
    · rw [if_pos e, if_pos (by simp; omega)]
      have ek : ((i : Nat) : Int) = k := by omega
      simp only [Option.map_some, Option.some.injEq, V.int.injEq, ek, List.count_append]
      simp
    · rw [if_neg e]
      have ek : ¬ k = ((i : Nat) : Int) := by omega
      simp only [Option.map_some, Option.some.injEq, V.int.injEq, List.count_append]
      simp [ek]
  · rw [List.getElem?_eq_none (by simp; omega)]
    by_cases e : k.toNat = i
    · omega
    · rw [if_neg e]
      rfl
/-- the greatest ones, as far as i turns come -/
def ldp (b i : Nat) (l : List Int) : List Int := (List.range i).flatMap fun (f : Nat) => List.replicate (l.count ((b : Int) - 1 - (f : Int))) ((b : Int) - 1 - (f : Int))
theorem lup_succ (i : Nat) (l : List Int) : lup (i + 1) l = lup i l ++ List.replicate (l.count (i : Int)) (i : Int) := by simp [lup, List.range_succ]
theorem ldp_succ (b i : Nat) (l : List Int) : ldp b (i + 1) l = ldp b i l ++ List.replicate (l.count ((b : Int) - 1 - (i : Int))) ((b : Int) - 1 - (i : Int)) := by simp [ldp, List.range_succ]
def sp__law_step (K : PySem.W.Frag) (mg : Str → Option Value) : Sp := sp3 (fun b l n => 2 ≤ b ∧ b ≤ 12 ∧ 1 ≤ l ∧ l ≤ 8) (fun b l n => .int (stepM b l.toNat n))
abbrev s__law_step : Stmt := topS 24
abbrev N__law_step : List Str := ["_law_base", "_law_length", "_law_number", "_law_often", "_law_turn", "_law_down", "_law_up", "_law_figure"]
theorem sc__law_step : FnScope N__law_step ["_law_base", "_law_length", "_law_number"] (defScope s__law_step) := ⟨rfl, rfl, rfl, by decide +kernel, rfl, by decide +kernel, by decide +kernel⟩
theorem ok__law_step {f : Addr} {fd : FuncData} (F : Fun K "_law_step" "_law_step" s__law_step f fd) (B : Bf K mg) : FnOk P w K mg base CX0 1 f fd ["_law_base", "_law_length", "_law_number"] (sp__law_step K mg) := by
  refine F.ok (k := 0) sc__law_step (fun vs H Q E h => ?_) (fun cdv A outer s H vs Q E hr h => ?_)
  · obtain ⟨a, b, c, rfl, _⟩ := h
    rfl
  · obtain ⟨b, l, n, rfl, ⟨h1, h2, h3, h4⟩, q⟩ := h
    have q : RetV (.int (stepM b l.toNat n)) H Q := q
    obtain ⟨b, rfl⟩ := Int.eq_ofNat_of_zero_le (show 0 ≤ b by omega)
    refine ⟨_, (pss_cons (ps_set (i := 3) sc__law_step.nd rfl (Or.inl rfl) (pe_op op_rep (pe_lst (pa_cons pe_int pa_nil)) (pv 0)))
          (pss_cons (ps_for PassesOwn.never rfl (pi_range1 (by rfl) B.b_range (pa_cons (pv 1) pa_nil)) (pg_name (i := 4) sc__law_step.nd rfl (Or.inl rfl)) (pss_cons (ps_asg (pe_op op_add (pe_ix ix_list (pv 3) (pe_op op_mod (pv 2) (pv 0)) (fun _ _ => rfl)) pe_int) (pg_sub (pv 3) (pe_op op_mod (pv 2) (pv 0)) set_list))
          (pss_one (ps_set (i := 2) sc__law_step.nd rfl (Or.inl rfl) (pe_op op_fdiv (pv 2) (pv 0))))))
          (pss_cons (ps_asg (pe_tup (pa_cons pe_int (pa_cons pe_int pa_nil))) (pg_tup rfl (pgs_cons (pg_name (i := 5) sc__law_step.nd rfl (Or.inl rfl)) (pgs_cons (pg_name (i := 6) sc__law_step.nd rfl (Or.inl rfl)) pgs_nil))))
          (pss_cons (ps_for PassesOwn.never rfl (pi_range1 (by rfl) B.b_range (pa_cons (pv 0) pa_nil)) (pg_name (i := 7) sc__law_step.nd rfl (Or.inl rfl)) (pss_cons (ps_for PassesOwn.never rfl (pi_range1 (by rfl) B.b_range (pa_cons (pe_ix ix_list (pv 3) (pv 7) (fun _ _ => rfl)) pa_nil)) (pg_name (i := 4) sc__law_step.nd rfl (Or.inl rfl)) (pss_one (ps_set (i := 6) sc__law_step.nd rfl (Or.inl rfl) (pe_op op_add (pe_op op_mul (pv 6) (pv 0)) (pv 7)))))
          (pss_one (ps_for PassesOwn.never rfl (pi_range1 (by rfl) B.b_range (pa_cons (pe_ix ix_list (pv 3) (pe_op op_sub (pe_op op_sub (pv 0) pe_int) (pv 7)) (fun _ _ => rfl)) pa_nil)) (pg_name (i := 4) sc__law_step.nd rfl (Or.inl rfl)) (pss_one (ps_set (i := 5) sc__law_step.nd rfl (Or.inl rfl) (pe_op op_sub (pe_op op_sub (pe_op op_add (pe_op op_mul (pv 5) (pv 0)) (pv 0)) pe_int) (pv 7))))))))
          (pss_one (ps_ret (pe_op op_sub (pv 5) (pv 6)))))))), ?_⟩
    refine q_asgL (el_rep (el_lst (ea_cons ev_c ea_nil) (by decide)) (ev_var rfl) (by omega) (by decide)) fun p H1 np e1 hp => ?_
    rw [Int.toNat_natCast, ← cnts_nil] at hp
    refine q_forR1 (ea_cons (ev_var rfl) ea_nil) (by omega) (fun i σ' H' => ∃ y, σ' = [some (.int b), some (.int l), some (.int (n / pw b i)), some (.ref p), y, none, none, none] ∧ Ex H H' ∧ H' p = some (.lst ((cnts b (figs b i n)).map V.int)))
      (fun H2 e2 => ⟨none, by rw [show n / pw b 0 = n from Int.ediv_one n] <;> rfl, e1.trans e2, e2 p _ hp⟩) ?_ ?_
    · rintro i σ' H' hi ⟨y, rfl, e, hp'⟩
      have m0 := Int.emod_nonneg (n / pw b i) (show (b : Int) ≠ 0 by omega)
      have m1 := Int.emod_lt_of_pos (n / pw b i) (show (0 : Int) < b by omega)
      refine q_setL (j := ((n / pw b i) % b).toNat) hp' (ev_op (ev_op (ev_var rfl) (ev_op (ev_var rfl) (ev_var rfl) (rv_I (by first | decide | omega))) (rv_ixL (sq_of hp') (cnts_get _ m0 m1))) ev_c rv_I0) (ev_var rfl)
        (by rw [Int.toNat_of_nonneg m0]; exact (ev_op (ev_var rfl) (ev_var rfl) (rv_I (by first | decide | omega)))) (by rw [cnts_len]; omega) fun H2 e2 => ?_
      rw [cnts_set _ m0 m1, ← figs_succ]
      exact s_asg (ev_op (ev_var rfl) (ev_var rfl) (rv_I (by first | exact ⟨by decide, by decide⟩ | exact ⟨by omega, by omega⟩))) fun H3 e3 => ⟨_, by rw [div_pw (by omega)] <;> rfl, (ex_set e e2 np).trans e3, e3 p _ upd_same⟩
    · rintro σ' H' ⟨y, rfl, e, hp'⟩
      refine q_asgU2 (eu_tup (ea_cons ev_c (ea_cons ev_c ea_nil)) (by decide)) fun H2 e2 => ?_
      have hf := figs_digs (b := b) (by omega) l.toNat n
      have hfl := figs_length b l.toNat n
      have hcl : ∀ k : Int, (((figs b l.toNat n).count k : Nat) : Int) ≤ 8 := fun k => by
        have := List.count_le_length (l := figs b l.toNat n) (a := k)
        omega
      generalize hF : figs b l.toNat n = F at hf hfl hp' hcl
      refine q_forR1 (ea_cons (ev_var rfl) ea_nil) (by omega) (fun i σ' H' => ∃ y z f, σ' = [some (.int b), some (.int l), y, some (.ref p), z, some (.int (wr b (ldp b i F))), some (.int (wr b (lup i F))), f] ∧ Ex H H' ∧ H' p = some (.lst ((cnts b F).map V.int)))
        (fun H3 e3 => ⟨_, _, _, rfl, (e.trans e2).trans e3, e3 p _ (e2 p _ hp')⟩) ?_ ?_
      · rintro i σ' H3 hi ⟨y1, z1, f1, rfl, e3, hp3⟩
        refine q_forR1 (ea_cons (ev_op (ev_var rfl) (ev_var rfl) (rv_ixL (sq_of hp3) (cnts_get _ (by omega) hi))) ea_nil) ⟨by omega, by have := hcl i; omega⟩
          (fun j σ' H' => ∃ z, σ' = [some (.int b), some (.int l), y1, some (.ref p), z, some (.int (wr b (ldp b i F))), some (.int (wr b (lup i F ++ List.replicate j (i : Int)))), some (.int (i : Int))] ∧ Ex H3 H')
          (fun H4 e4 => ⟨z1, by simp, e4⟩) ?_ ?_
        · rintro j σ' H4 hj ⟨z2, rfl, e4⟩
          exact s_asg (ev_op (ev_op (ev_var rfl) (ev_var rfl) (rv_I (by first | exact Or.inr ⟨by omega, by omega⟩ | exact Or.inl ⟨by omega, by omega⟩))) (ev_var rfl) rv_I0) fun H5 e5 => ⟨_, by rw [List.replicate_succ', ← List.append_assoc, wr_append] <;> rfl, e4.trans e5⟩
        · rintro σ' H4 ⟨z2, rfl, e4⟩
          rw [Int.toNat_natCast, ← lup_succ]
          refine s_forR1 (ea_cons (ev_op (ev_var rfl) (ev_op (ev_op (ev_var rfl) ev_c rv_I0) (ev_var rfl) rv_I0) (rv_ixL (sq_of (e4 p _ hp3)) (cnts_get _ (by omega) (by omega)))) ea_nil) ⟨by omega, by have := hcl ((b : Int) - 1 - i); omega⟩
            (fun j σ' H' => ∃ z, σ' = [some (.int b), some (.int l), y1, some (.ref p), z, some (.int (wr b (ldp b i F ++ List.replicate j ((b : Int) - 1 - i)))), some (.int (wr b (lup (i + 1) F))), some (.int (i : Int))] ∧ Ex H4 H')
            (fun H5 e5 => ⟨z2, by simp, e5⟩) ?_ ?_
          · rintro j σ' H5 hj ⟨z3, rfl, e5⟩
            exact s_asg (ev_op (ev_op (ev_op (ev_op (ev_var rfl) (ev_var rfl) (rv_I (by first | exact Or.inr ⟨by omega, by omega⟩ | exact Or.inl ⟨by omega, by omega⟩))) (ev_var rfl) rv_I0) ev_c rv_I0) (ev_var rfl) rv_I0) fun H6 e6 => ⟨_, by
              rw [List.replicate_succ', ← List.append_assoc, wr_append]
              rw [show wr b (ldp b i F ++ List.replicate j ((b : Int) - 1 - i)) * (b : Int) + ((b : Int) - 1 - i) = wr b (ldp b i F ++ List.replicate j ((b : Int) - 1 - i)) * (b : Int) + b - 1 - i by omega] <;> rfl, e5.trans e6⟩
          · rintro σ' H5 ⟨z3, rfl, e5⟩
            rw [Int.toNat_natCast, ← ldp_succ]
            exact ⟨_, _, _, rfl, (e3.trans e4).trans e5, e5 p _ (e4 p _ hp3)⟩
      · rintro σ' H3 ⟨y1, z1, f1, rfl, e3, hp3⟩
        rw [Int.toNat_natCast]
        have fin := step_counts (b := b) (by omega) l.toNat n
        rw [hF] at fin
        rw [← fin] at q
        exact s_ret (ev_op (ev_var rfl) (ev_var rfl) rv_I0) fun H4 e4 => q H4 (e3.trans e4)
def sp__law_course (K : PySem.W.Frag) (mg : Str → Option Value) : Sp := SpCourse
abbrev s__law_course : Stmt := topS 25
abbrev N__law_course : List Str := ["_law_base", "_law_length", "_law_number", "_law_found", "_law_places"]
theorem sc__law_course : FnScope N__law_course ["_law_base", "_law_length", "_law_number"] (defScope s__law_course) := ⟨rfl, rfl, rfl, by decide +kernel, rfl, by decide +kernel, by decide +kernel⟩
theorem ok__law_course {f : Addr} {fd : FuncData} (F : Fun K "_law_course" "_law_course" s__law_course f fd) (B : Bf K mg) (c__law_step : Fn P w K mg base 1 "_law_step" ["_law_base", "_law_length", "_law_number"] (sp__law_step K mg)) : FnOk P w K mg base CX0 2 f fd ["_law_base", "_law_length", "_law_number"] (sp__law_course K mg) := by
  refine F.ok (k := 1) sc__law_course (fun vs H Q E h => ?_) (fun cdv A outer s H vs Q E hr h => ?_)
  · obtain ⟨b, l, n, rfl, _⟩ := h
    rfl
  · obtain ⟨b, l, n, rfl, hbl, q⟩ := h
    have hbl' := hbl
    obtain ⟨h1, h2, h3, h4⟩ := hbl
    refine ⟨_, (pss_cons (ps_par (i := 3) (j := 4) (by rfl) sc__law_course.nd rfl rfl (by decide) rfl rfl (pa_cons (pe_lst pa_nil) (pa_cons pe_dnewK pa_nil)) (by rfl))
          (pss_cons (ps_while PassesOwn.never (pt_cmp (pc_dnotin (hu_of hr) (pv 2) (pv 4))) (pss_cons (ps_dput (hu_of hr) (pv 4) (pv 2) (pe_callB call_len_seq (by rfl) B.b_len PySem.boot_len (pa_cons (pv 3) pa_nil)) rfl)
          (pss_cons (ps_expr (pe_bm PySem.F.plainAttrs_list PySem.F.slot_list_append PySem.F.type_list_append mt_append (pv 3) (pa_cons (pv 2) pa_nil)))
          (pss_one (ps_set (i := 2) sc__law_course.nd rfl (Or.inl rfl) (pe_fn c__law_step (hr.mono (by decide)) (by rfl) (pa_cons (pv 0) (pa_cons (pv 1) (pa_cons (pv 2) pa_nil)))))))))
          (pss_one (ps_ret (pe_tup (pa_cons (pv 3) (pa_cons (pe_dget (hu_of hr) (pv 4) (pv 2) (fun _ _ => rfl)) pa_nil))))))), ?_⟩
    refine q_parLD fun p d H1 np nd npd e1 hp hd => ?_
    obtain ⟨f, hf⟩ : ∃ f, f = stepM b l.toNat := ⟨_, rfl⟩
    rw [← hf] at q
    have hap : ∀ m, Apart f n m → m ≤ 20737 := fun m h => by
      rw [hf] at h
      exact apart_le hbl' h
    refine q_while (fun m σ' H' => ∃ i : Nat, m = 20738 - i ∧ Apart f n i ∧ σ' = [some (.int b), some (.int l), some (.int (it f i n)), some (.ref p), some (.ref d)] ∧ Ex H H' ∧ H' p = some (.lst ((orb f n i).map V.int)) ∧ H' d = some (.dK (plc f n i)))
      20738 ⟨0, rfl, Apart.zero f n, rfl, e1, hp, hd⟩ ?_
    rintro m σ' H2 ⟨i, rfl, hA, rfl, e2, hp2, hd2⟩
    have hi := hap i hA
    refine ⟨_, et_B (ev_dnotin (ev_var rfl) (ev_var rfl) hd2), fun hb H3 e3 => ?_, fun hb H3 e3 => ?_⟩
    · have hn : valV (plc f n i) (.inl (it f i n)) = none := by
        cases e : valV (plc f n i) (.inl (it f i n)) with
        | none => rfl
        | some v =>
          rw [e] at hb
          cases hb
      have hA2 := hA.succ (plc_out hn)
      have hi2 := hap _ hA2
      refine ⟨fun σ2 H' => Apart f n (i + 1) ∧ σ2 = [some (.int b), some (.int l), some (.int (it f (i + 1) n)), some (.ref p), some (.ref d)] ∧ Ex H H' ∧ H' p = some (.lst ((orb f n (i + 1)).map V.int)) ∧ H' d = some (.dK (plc f n (i + 1))),
        fun σ2 H' ⟨a1, a2, a3, a4, a5⟩ => ⟨20738 - (i + 1), by omega, i + 1, rfl, a1, a2, a3, a4, a5⟩, ?_⟩
      refine q_dput (ev_len (ev_var rfl) (sq_of (e3 p _ hp2))) (ev_var rfl) (ev_var rfl) (e3 d _ hd2) (by rw [plc_len]; omega) fun H4 e4 => ?_
      rw [putK_new _ hn, List.length_map, orb_len, ← plc_succ]
      have hp4 : (upd H4 d (.dK (plc f n (i + 1)))) p = some (.lst ((orb f n i).map V.int)) := by
        rw [upd_ne npd]
        exact e4 p _ (e3 p _ hp2)
      refine q_app hp4 (ev_var rfl) (ev_var rfl) (by rw [List.length_map, orb_len]; omega) fun H5 e5 => ?_
      refine s_asg (ev_call (ea_cons (ev_var rfl) (ea_cons (ev_var rfl) (ea_cons (ev_var rfl) ea_nil))) (sp3_v (by first | assumption | omega))) fun H6 e6 => ⟨hA2, by rw [← hf] <;> rfl, ?_, ?_, ?_⟩
      · exact (ex_set (Ex.mut ((e2.trans e3).trans e4) nd) e5 np).trans e6
      · refine e6 p _ (upd_same.trans ?_)
        rw [orb_succ, List.map_append] <;> rfl
      · refine e6 d _ ?_
        rw [upd_ne npd.symm]
        exact e5 d _ upd_same
    · cases e : valV (plc f n i) (.inl (it f i n)) with
      | none =>
        rw [e] at hb
        cases hb
      | some v =>
        obtain ⟨c, hc, eb, rfl⟩ := plc_in e
        refine s_retU (eu_tup (ea_cons (ev_var rfl) (ea_cons (ev_dget (ev_var rfl) (ev_var rfl) (e3 d _ hd2) e) ea_nil)) (Nat.le_of_ble_eq_true rfl)) fun t H4 nt e4 ht => ?_
        exact q t p H4 i c ⟨hc, eb, hA⟩ hi np ((e2.trans e3).trans e4) (e4 p _ (e3 p _ hp2)) ht
def sp__law_whole (K : PySem.W.Frag) (mg : Str → Option Value) : Sp := sp1 (fun _ => True) (fun _ => .bl true)
abbrev s__law_whole : Stmt := topS 26
abbrev N__law_whole : List Str := ["_law_number"]
theorem sc__law_whole : FnScope N__law_whole ["_law_number"] (defScope s__law_whole) := ⟨rfl, rfl, rfl, by decide +kernel, rfl, by decide +kernel, by decide +kernel⟩
theorem ok__law_whole {f : Addr} {fd : FuncData} (F : Fun K "_law_whole" "_law_whole" s__law_whole f fd) (B : Bf K mg) : FnOk P w K mg base CX0 1 f fd ["_law_number"] (sp__law_whole K mg) := by
  refine F.ok (k := 0) sc__law_whole (fun vs H Q E h => ?_) (fun cdv A outer s H vs Q E hr h => ?_)
  · obtain ⟨a, rfl, _⟩ := h
    rfl
  · obtain ⟨a, rfl, _, q⟩ := h
    refine ⟨_, (pss_one (ps_ret (pe_and (pe_callB call_isi (by rfl) B.b_isinstance (by decide +kernel) (pa_cons (pv 0) (pa_cons (pe_bltn (v := .ty "int") (by rfl) B.b_int (by decide +kernel) rfl) pa_nil))) (pe_one (pe_not (pe_callB call_isi (by rfl) B.b_isinstance (by decide +kernel) (pa_cons (pv 0) (pa_cons (pe_bltn (v := .ty "bool") (by rfl) B.b_bool (by decide +kernel) rfl) pa_nil)))))))), ?_⟩
    refine s_ret (ev_andV (ev_cb (ea_cons (ev_var rfl) (ea_cons ev_c ea_nil)) rc_isi_int) (fun _ => (ev_notV (ev_cb (ea_cons (ev_var rfl) (ea_cons ev_c ea_nil)) rc_isi_bool)))) q
def sp_law (K : PySem.W.Frag) (mg : Str → Option Value) : Sp := SpLaw K
theorem d_10_4 : Dom 10 4 3524 := ⟨⟨by decide, by decide, by decide, by decide⟩, by decide, by decide⟩
theorem d_10_2 : Dom 10 2 9 := ⟨⟨by decide, by decide, by decide, by decide⟩, by decide, by decide⟩
theorem d_7_3 : Dom 7 3 0 := ⟨⟨by decide, by decide, by decide, by decide⟩, by decide, by decide⟩
theorem c_10_4 : Course (stepM 10 (4 : Int).toNat) 3524 4 3 ∧ lmin (ring (stepM 10 (4 : Int).toNat) 3524 4 3) = 6174 := by
  rw [show (10 : Int) = ((10 : Nat) : Int) from rfl, ← cstep_eq (by decide)]
  exact ⟨.of_check (by decide) (by decide +kernel) (by decide +kernel), by decide +kernel⟩
theorem c_10_2 : Course (stepM 10 (2 : Int).toNat) 9 5 0 ∧ lmin (ring (stepM 10 (2 : Int).toNat) 9 5 0) = 9 := by
  rw [show (10 : Int) = ((10 : Nat) : Int) from rfl, ← cstep_eq (by decide)]
  exact ⟨.of_check (by decide) (by decide +kernel) (by decide +kernel), by decide +kernel⟩
theorem c_7_3 : Course (stepM 7 (3 : Int).toNat) 0 1 0 ∧ lmin (ring (stepM 7 (3 : Int).toNat) 0 1 0) = 0 := by
  rw [show (7 : Int) = ((7 : Nat) : Int) from rfl, ← cstep_eq (by decide)]
  exact ⟨.of_check (by decide) (by decide +kernel) (by decide +kernel), by decide +kernel⟩
theorem ev_round_is {K : PySem.W.Frag} {mg : Str → Option Value} {σ : L2.St} {E : XK} {ta tb : TA} {b l n i j k : Int} {m c : Nat} {H : Hp} (h : Dom b l n) (ha : EvA ta σ H [.int b, .int l, .int n]) (hb : EvA tb σ H [.int i, .int j, .int k])
    (hC : Course (stepM b l.toNat) n m c ∧ lmin (ring (stepM b l.toNat) n m c) = k) (hi : (c : Int) = i) (hj : (m : Int) - c = j) : Ev (tOp (rEqD K) (tCall (sp_round_of K mg) [] E ta) (tTup tb)) σ H (.bl true) := by
  refine ev_opP (sp_round_p h ha) fun v H1 e1 hR H2 e2 Q q => ?_
  obtain ⟨t, m1, c1, rfl, _, hC1, _, ht⟩ := hR
  obtain ⟨rfl, rfl⟩ := hC.1.one hC1
  refine eu_tup hb (Nat.le_of_ble_eq_true rfl) H2 (e1.trans e2) _ fun p H3 np e3 hp => ?_
  have hq := rv_eqT (K := K) (ns := [(c : Int), (m : Int) - c, lmin (ring (stepM b l.toNat) n m c)]) (ms := [i, j, k]) (st_of ((e2.trans e3) t _ ht)) (st_of hp) H3 (Ex.refl H3) Q
  rw [hC.2, hj, hi, decide_eq_true rfl] at hq
  exact hq fun H4 e4 => q H4 (e3.trans e4)
abbrev s_law : Stmt := topS 27
abbrev N_law : List Str := ["_law_script", "_law_by", "_law_base", "_law_length", "_law_number", "_law_course_here", "_law_begin", "_law_some", "_law_found", "_law_mine", "_law_at", "_law_one"]
theorem sc_law : FnScope N_law ["_law_script"] (defScope s_law) := ⟨rfl, rfl, rfl, by decide +kernel, rfl, by decide +kernel, by decide +kernel⟩
theorem ok_law {f : Addr} {fd : FuncData} (F : Fun K "law" "law" s_law f fd) (B : Bf K mg) (c__law_room : Fn P w K mg base 3 "_law_room" ["_law_script", "_law_by"] (sp__law_room K mg)) (c__law_course : Fn P w K mg base 2 "_law_course" ["_law_base", "_law_length", "_law_number"] (sp__law_course K mg)) (c_round_of : Fn P w K mg base 4 "round_of" ["base", "length", "number"] (sp_round_of K mg)) (c__law_whole : Fn P w K mg base 1 "_law_whole" ["_law_number"] (sp__law_whole K mg)) : FnOk P w K mg base CX0 5 f fd ["_law_script"] (sp_law K mg) := by
  refine F.ok (k := 4) sc_law (fun vs H Q E h => ?_) (fun cdv A outer s H vs Q E hr h => ?_)
  · obtain ⟨a, ns, rfl, _⟩ := h
    rfl
  · obtain ⟨a, ns, rfl, hs, hlen, hbt, q⟩ := h
    refine ⟨_, (pss_cons (ps_set (i := 0) sc_law.nd rfl (Or.inl rfl) (pe_slice sl_list (pv 0) po_none (po_some pe_int)))
          (pss_cons (ps_for PassesOwn.never rfl (pi_range3 (by rfl) B.b_range (pa_cons pe_int (pa_cons (pe_callB (call_max2 rfl) (by rfl) B.b_max (by decide +kernel) (pa_cons pe_int (pa_cons (pe_callB call_len_seq (by rfl) B.b_len PySem.boot_len (pa_cons (pv 0) pa_nil)) pa_nil))) (pa_cons (pe_op op_add pe_int (pe_op op_fdiv (pe_callB call_len_seq (by rfl) B.b_len PySem.boot_len (pa_cons (pv 0) pa_nil)) pe_int)) pa_nil)))) (pg_name (i := 1) sc_law.nd rfl (Or.inl rfl)) (pss_cons (ps_asg (pe_fn c__law_room (hr.mono (by decide)) (by rfl) (pa_cons (pv 0) (pa_cons (pv 1) pa_nil))) (pg_tup rfl (pgs_cons (pg_name (i := 2) sc_law.nd rfl (Or.inl rfl)) (pgs_cons (pg_name (i := 3) sc_law.nd rfl (Or.inl rfl)) (pgs_cons (pg_name (i := 4) sc_law.nd rfl (Or.inl rfl)) pgs_nil)))))
          (pss_cons (ps_asg (pe_fn c__law_course (hr.mono (by decide)) (by rfl) (pa_cons (pv 2) (pa_cons (pv 3) (pa_cons (pv 4) pa_nil)))) (pg_tup rfl (pgs_cons (pg_name (i := 5) sc_law.nd rfl (Or.inl rfl)) (pgs_cons (pg_name (i := 6) sc_law.nd rfl (Or.inl rfl)) pgs_nil))))
          (pss_one (ps_for PassesOwn.never rfl (pi_tup (pe_tup (pa_cons (pv 4) (pa_cons (pe_ix ix_list (pv 5) (pe_un un_neg pe_int) (fun _ _ => rfl)) (pa_cons (pe_ix ix_list (pv 5) (pe_op op_fdiv (pe_callB call_len_seq (by rfl) B.b_len PySem.boot_len (pa_cons (pv 5) pa_nil)) pe_int) (fun _ _ => rfl)) pa_nil))))) (pg_name (i := 7) sc_law.nd rfl (Or.inl rfl)) (pss_cons (ps_set (i := 8) sc_law.nd rfl (Or.inl rfl) (pe_fn c_round_of (hr.mono (by decide)) (by rfl) (pa_cons (pv 2) (pa_cons (pv 3) (pa_cons (pv 7) pa_nil)))))
          (pss_cons (ps_asg (pe_fn c__law_course (hr.mono (by decide)) (by rfl) (pa_cons (pv 2) (pa_cons (pv 3) (pa_cons (pv 7) pa_nil)))) (pg_tup rfl (pgs_cons (pg_name (i := 9) sc_law.nd rfl (Or.inl rfl)) (pgs_cons (pg_name (i := 10) sc_law.nd rfl (Or.inl rfl)) pgs_nil))))
          (pss_cons (ps_if (PW.pt (pw_or (pt_not (pt_val (pe_callB call_isi (by rfl) B.b_isinstance (by decide +kernel) (pa_cons (pv 8) (pa_cons (pe_bltn (v := .ty "tuple") (by rfl) B.b_tuple (by decide +kernel) rfl) pa_nil))))) (pw_or1 (pt_not (pt_val (pe_callB (cr_all rfl) (by rfl) B.b_all (by decide +kernel) (pa_cons (pe_lc (own := [("_law_one", 11)]) (g := (gName 11)) (by rfl) sc_law.nd (pi_tup (pv 8)) (blkOk_by (own := [("_law_one", 11)]) (N := N_law) (sc := defScope s_law) (by decide +kernel)) (fun _ _ _ _ _ => (pg_name (i := 11) sc_law.nd rfl (Or.inl rfl))) (fun _ _ _ _ _ => pts_nil) (fun _ _ _ _ _ => (pe_fn c__law_whole (hr.mono (by decide)) (by rfl) (pa_cons (pv 11) pa_nil)))) pa_nil))))))) (pss_one (ps_ret pe_bl)) pss_nil)
          (pss_one (ps_if (pt_cmpR (op_neD hr.units) (pv 8) (pe_tup (pa_cons (pv 10) (pa_cons (pe_op op_sub (pe_callB call_len_seq (by rfl) B.b_len PySem.boot_len (pa_cons (pv 9) pa_nil)) (pv 10)) (pa_cons (pe_callB (cr_min rfl) (by rfl) B.b_min (by decide +kernel) (pa_cons (pe_slice sl_list (pv 9) (po_some (pv 10)) po_none) pa_nil)) pa_nil)))) (nomark _)) (pss_one (ps_ret pe_bl)) pss_nil))))))))))
          (pss_one (ps_ret (pe_and (pe_cmpR (op_eqD hr.units) (pe_fn c_round_of (hr.mono (by decide)) (by rfl) (pa_cons pe_int (pa_cons pe_int (pa_cons pe_int pa_nil)))) (pe_tup (pa_cons pe_int (pa_cons pe_int (pa_cons pe_int pa_nil)))) (nomark _)) (pe_and (pe_cmpR (op_eqD hr.units) (pe_fn c_round_of (hr.mono (by decide)) (by rfl) (pa_cons pe_int (pa_cons pe_int (pa_cons pe_int pa_nil)))) (pe_tup (pa_cons pe_int (pa_cons pe_int (pa_cons pe_int pa_nil)))) (nomark _)) (pe_one (pe_cmpR (op_eqD hr.units) (pe_fn c_round_of (hr.mono (by decide)) (by rfl) (pa_cons pe_int (pa_cons pe_int (pa_cons pe_int pa_nil)))) (pe_tup (pa_cons pe_int (pa_cons pe_int (pa_cons pe_int pa_nil)))) (nomark _))))))))), ?_⟩
    refine q_asgL (el_sl (ev_var rfl) eo_none (eo_some ev_c) hs) fun p H1 np e1 hp => ?_
    rw [cut_script (by rw [List.length_map]; exact hlen)] at hp
    have hlen2 : (ns.map V.int).length ≤ 63 := by rw [List.length_map]; exact hlen
    refine q_forR3 (ea_cons ev_c (ea_cons (ev_max2 ev_c (ev_len (ev_var rfl) (sq_of hp))) (ea_cons (ev_op ev_c (ev_op (ev_len (ev_var rfl) (sq_of hp)) ev_c (rv_I (by first | exact ⟨by decide, by decide⟩ | exact ⟨by omega, by omega⟩))) rv_I0) ea_nil)))
      (by split <;> omega) (by omega) (fun σ' H' => (∃ y1 y2 y3 y4 y5 y6 y7 y8 y9 y10 y11, σ' = [some (.ref p), y1, y2, y3, y4, y5, y6, y7, y8, y9, y10, y11]) ∧ Ex H1 H') (fun H2 e2 => ⟨⟨_, _, _, _, _, _, _, _, _, _, _, rfl⟩, e2⟩) ?_ ?_
    · rintro k σ' H2 hk ⟨⟨y1, y2, y3, y4, y5, y6, y7, y8, y9, y10, y11, rfl⟩, e2⟩
      refine q_asg3 (sp_room_p (sq_of (e2 p _ hp)) hbt hk (ea_cons (ev_var rfl) (ea_cons (ev_var rfl) ea_nil))) fun x y z H3 e3 hR => ?_
      obtain ⟨b, l, n, rfl, rfl, rfl, hd⟩ := hR
      have hd1 := hd.1
      refine q_asg2 (sp_course_p hd1 (ea_cons (ev_var rfl) (ea_cons (ev_var rfl) (ea_cons (ev_var rfl) ea_nil)))) fun x y H4 e4 hR => ?_
      obtain ⟨a4, m, c, rfl, rfl, _, hC, hm, ha4⟩ := hR
      have hlt := hC.lt
      refine s_forNT (eu_tup (ea_cons (ev_var rfl) (ea_cons (ev_op (ev_var rfl) (ev_un ev_c ru_neg) (rv_ixL (sq_of ha4) (at_orb_last (by omega)))) (ea_cons (ev_op (ev_var rfl) (ev_op (ev_lenO (ev_var rfl) (sq_of ha4)) ev_c (rv_I (by first | exact ⟨by decide, by decide⟩ | exact ⟨by omega, by omega⟩))) (rv_ixL (sq_of ha4) (at_orb2 (by omega) (by omega)))) ea_nil))) (Nat.le_of_ble_eq_true rfl))
        (fun i σ' => ∃ z7 z8 z9 z10, σ' = [some (.ref p), some (.int k), some (.int b), some (.int l), some (.int n), some (.ref a4), some (.int (c : Int)), z7, z8, z9, z10, y11]) ⟨_, _, _, _, rfl⟩ ?_ ?_
      · rintro Hp ep i x σ' H6 hx e6 ⟨z7, z8, z9, z10, rfl⟩
        have hx2 : ∃ s0, x = V.int s0 ∧ Dom b l s0 := by
          have hm := List.mem_of_getElem? hx
          simp only [List.mem_cons, List.not_mem_nil, or_false] at hm
          rcases hm with rfl | rfl | rfl
          · exact ⟨_, rfl, hd⟩
          · exact ⟨_, rfl, hd.it _⟩
          · exact ⟨_, rfl, hd.it _⟩
        obtain ⟨s0, rfl, hs0⟩ := hx2
        refine q_asgP (sp_round_p hs0 (ea_cons (ev_var rfl) (ea_cons (ev_var rfl) (ea_cons (ev_var rfl) ea_nil)))) fun v H7 e7 hR => ?_
        obtain ⟨t, m1, c1, rfl, _, hC1, _, ht⟩ := hR
        refine q_asg2 (sp_course_p hd1 (ea_cons (ev_var rfl) (ea_cons (ev_var rfl) (ea_cons (ev_var rfl) ea_nil)))) fun x y H8 e8 hR => ?_
        obtain ⟨a8, m2, c2, rfl, rfl, _, hC2, _, ha8⟩ := hR
        obtain ⟨rfl, rfl⟩ := hC1.one hC2
        have hlt2 := hC2.lt
        have ht8 := e8 t _ ht
        refine q_when (et_is (b := false) (et_or (et_not (et_B (ev_cb (ea_cons (ev_var rfl) (ea_cons ev_c ea_nil)) (rc_isi_tup ht8)))) (fun _ => et_not (et_B (ev_allN (bs := [true, true, true]) (el_mapTt (g := fun _ => .bl true) (ev_var rfl) (st_of ht8) (Nat.le_of_ble_eq_true rfl) (fun _ => rfl) fun x hx H9 e9 => ?_))))) rfl) (fun z => nomatch z) fun _ H9 e9 => ?_
        · simp only [List.mem_cons, List.not_mem_nil, or_false] at hx
          rcases hx with rfl | rfl | rfl
          · exact (ev_call (ea_cons (ev_var rfl) ea_nil) (sp1_v trivial))
          · exact (ev_call (ea_cons (ev_var rfl) ea_nil) (sp1_v trivial))
          · exact (ev_call (ea_cons (ev_var rfl) ea_nil) (sp1_v trivial))
        refine s_when (et_is (b := false) (et_test (ev_opU (ev_var rfl) (eu_tup (ea_cons (ev_var rfl) (ea_cons (ev_op (ev_lenO (ev_var rfl) (sq_of (e9 a8 _ ha8))) (ev_var rfl) rv_I0) (ea_cons (ev_minN (el_is (el_sl (ev_var rfl) (eo_some (ev_var rfl)) eo_none (sq_of (e9 a8 _ ha8))) (ring_cut (by omega))) (ring_pos hlt2)) ea_nil))) (Nat.le_of_ble_eq_true rfl))
          fun p9 H10 hp9 e10 => rv_neT (ns := [(c1 : Int), (m1 : Int) - c1, lmin (ring (stepM b l.toNat) s0 m1 c1)]) (ms := [(c1 : Int), (m1 : Int) - c1, lmin (ring (stepM b l.toNat) s0 m1 c1)]) (st_of (e10 t _ (e9 t _ ht8))) (st_of hp9))) (by simp)) (fun z => nomatch z) fun _ H10 e10 => ?_
        exact ⟨(((e6.trans e7).trans e8).trans e9).trans e10, _, _, _, _, rfl⟩
      · rintro σ' H6 e6 ⟨z7, z8, z9, z10, rfl⟩
        exact ⟨⟨_, _, _, _, _, _, _, _, _, _, _, rfl⟩, ((e2.trans e3).trans e4).trans e6⟩
    · rintro σ' H2 ⟨⟨y1, y2, y3, y4, y5, y6, y7, y8, y9, y10, y11, rfl⟩, e2⟩
      refine s_ret (ev_is (ev_andV (ev_round_is d_10_4 (ea_cons ev_c (ea_cons ev_c (ea_cons ev_c ea_nil))) (ea_cons ev_c (ea_cons ev_c (ea_cons ev_c ea_nil))) c_10_4 rfl rfl) fun _ => ev_andV (ev_round_is d_10_2 (ea_cons ev_c (ea_cons ev_c (ea_cons ev_c ea_nil))) (ea_cons ev_c (ea_cons ev_c (ea_cons ev_c ea_nil))) c_10_2 rfl rfl) fun _ => ev_round_is d_7_3 (ea_cons ev_c (ea_cons ev_c (ea_cons ev_c ea_nil))) (ea_cons ev_c (ea_cons ev_c (ea_cons ev_c ea_nil))) c_7_3 rfl rfl) rfl) fun H3 e3 => q H3
end
end Sl
namespace Sl
open PySem PySem.Spec PyProof.Rows L2 Evl
theorem all_mk {P : Program} {w : World} {K : PySem.W.Frag} {h : Heap} {mg : Str → Option Value} {fa : Addr} (X : K.In h) (G : h.Ns mainGlobals mg) (hfa : mg "law" = some (.ref fa))
    {f_is_whole : Addr} {od_is_whole an_is_whole : Option Addr} {sl_is_whole : Array (Option Value)} {oc_is_whole kV_is_whole dc_is_whole pm_is_whole cd_is_whole ct_is_whole : Value}
    (a_is_whole : PySem.W.nsIn K mainGlobals "is_whole" = some (some (.ref f_is_whole))) (l_is_whole : K.lookup f_is_whole = some ⟨oc_is_whole, od_is_whole, .func (PySem.W.fnOf "is_whole" "is_whole" (defArgs s_is_whole) (defBody s_is_whole) (defScope s_is_whole) .none kV_is_whole dc_is_whole pm_is_whole an_is_whole cd_is_whole ct_is_whole), sl_is_whole⟩) (c_is_whole : PySem.W.codeIn K cd_is_whole "is_whole" = true) (k_is_whole : PySem.W.keepIn K (.ref f_is_whole) = true)
    {f_power_of : Addr} {od_power_of an_power_of : Option Addr} {sl_power_of : Array (Option Value)} {oc_power_of kV_power_of dc_power_of pm_power_of cd_power_of ct_power_of : Value}
    (a_power_of : PySem.W.nsIn K mainGlobals "power_of" = some (some (.ref f_power_of))) (l_power_of : K.lookup f_power_of = some ⟨oc_power_of, od_power_of, .func (PySem.W.fnOf "power_of" "power_of" (defArgs s_power_of) (defBody s_power_of) (defScope s_power_of) .none kV_power_of dc_power_of pm_power_of an_power_of cd_power_of ct_power_of), sl_power_of⟩) (c_power_of : PySem.W.codeIn K cd_power_of "power_of" = true) (k_power_of : PySem.W.keepIn K (.ref f_power_of) = true)
    {f_check_both : Addr} {od_check_both an_check_both : Option Addr} {sl_check_both : Array (Option Value)} {oc_check_both kV_check_both dc_check_both pm_check_both cd_check_both ct_check_both : Value}
    (a_check_both : PySem.W.nsIn K mainGlobals "check_both" = some (some (.ref f_check_both))) (l_check_both : K.lookup f_check_both = some ⟨oc_check_both, od_check_both, .func (PySem.W.fnOf "check_both" "check_both" (defArgs s_check_both) (defBody s_check_both) (defScope s_check_both) .none kV_check_both dc_check_both pm_check_both an_check_both cd_check_both ct_check_both), sl_check_both⟩) (c_check_both : PySem.W.codeIn K cd_check_both "check_both" = true) (k_check_both : PySem.W.keepIn K (.ref f_check_both) = true)
    {f_check_number : Addr} {od_check_number an_check_number : Option Addr} {sl_check_number : Array (Option Value)} {oc_check_number kV_check_number dc_check_number pm_check_number cd_check_number ct_check_number : Value}
    (a_check_number : PySem.W.nsIn K mainGlobals "check_number" = some (some (.ref f_check_number))) (l_check_number : K.lookup f_check_number = some ⟨oc_check_number, od_check_number, .func (PySem.W.fnOf "check_number" "check_number" (defArgs s_check_number) (defBody s_check_number) (defScope s_check_number) .none kV_check_number dc_check_number pm_check_number an_check_number cd_check_number ct_check_number), sl_check_number⟩) (c_check_number : PySem.W.codeIn K cd_check_number "check_number" = true) (k_check_number : PySem.W.keepIn K (.ref f_check_number) = true)
    {f_figures_of : Addr} {od_figures_of an_figures_of : Option Addr} {sl_figures_of : Array (Option Value)} {oc_figures_of kV_figures_of dc_figures_of pm_figures_of cd_figures_of ct_figures_of : Value}
    (a_figures_of : PySem.W.nsIn K mainGlobals "figures_of" = some (some (.ref f_figures_of))) (l_figures_of : K.lookup f_figures_of = some ⟨oc_figures_of, od_figures_of, .func (PySem.W.fnOf "figures_of" "figures_of" (defArgs s_figures_of) (defBody s_figures_of) (defScope s_figures_of) .none kV_figures_of dc_figures_of pm_figures_of an_figures_of cd_figures_of ct_figures_of), sl_figures_of⟩) (c_figures_of : PySem.W.codeIn K cd_figures_of "figures_of" = true) (k_figures_of : PySem.W.keepIn K (.ref f_figures_of) = true)
    {f_written_by : Addr} {od_written_by an_written_by : Option Addr} {sl_written_by : Array (Option Value)} {oc_written_by kV_written_by dc_written_by pm_written_by cd_written_by ct_written_by : Value}
    (a_written_by : PySem.W.nsIn K mainGlobals "written_by" = some (some (.ref f_written_by))) (l_written_by : K.lookup f_written_by = some ⟨oc_written_by, od_written_by, .func (PySem.W.fnOf "written_by" "written_by" (defArgs s_written_by) (defBody s_written_by) (defScope s_written_by) .none kV_written_by dc_written_by pm_written_by an_written_by cd_written_by ct_written_by), sl_written_by⟩) (c_written_by : PySem.W.codeIn K cd_written_by "written_by" = true) (k_written_by : PySem.W.keepIn K (.ref f_written_by) = true)
    {f_step_of : Addr} {od_step_of an_step_of : Option Addr} {sl_step_of : Array (Option Value)} {oc_step_of kV_step_of dc_step_of pm_step_of cd_step_of ct_step_of : Value}
    (a_step_of : PySem.W.nsIn K mainGlobals "step_of" = some (some (.ref f_step_of))) (l_step_of : K.lookup f_step_of = some ⟨oc_step_of, od_step_of, .func (PySem.W.fnOf "step_of" "step_of" (defArgs s_step_of) (defBody s_step_of) (defScope s_step_of) .none kV_step_of dc_step_of pm_step_of an_step_of cd_step_of ct_step_of), sl_step_of⟩) (c_step_of : PySem.W.codeIn K cd_step_of "step_of" = true) (k_step_of : PySem.W.keepIn K (.ref f_step_of) = true)
    {f_course_of : Addr} {od_course_of an_course_of : Option Addr} {sl_course_of : Array (Option Value)} {oc_course_of kV_course_of dc_course_of pm_course_of cd_course_of ct_course_of : Value}
    (a_course_of : PySem.W.nsIn K mainGlobals "course_of" = some (some (.ref f_course_of))) (l_course_of : K.lookup f_course_of = some ⟨oc_course_of, od_course_of, .func (PySem.W.fnOf "course_of" "course_of" (defArgs s_course_of) (defBody s_course_of) (defScope s_course_of) .none kV_course_of dc_course_of pm_course_of an_course_of cd_course_of ct_course_of), sl_course_of⟩) (c_course_of : PySem.W.codeIn K cd_course_of "course_of" = true) (k_course_of : PySem.W.keepIn K (.ref f_course_of) = true)
    {f_round_of : Addr} {od_round_of an_round_of : Option Addr} {sl_round_of : Array (Option Value)} {oc_round_of kV_round_of dc_round_of pm_round_of cd_round_of ct_round_of : Value}
    (a_round_of : PySem.W.nsIn K mainGlobals "round_of" = some (some (.ref f_round_of))) (l_round_of : K.lookup f_round_of = some ⟨oc_round_of, od_round_of, .func (PySem.W.fnOf "round_of" "round_of" (defArgs s_round_of) (defBody s_round_of) (defScope s_round_of) .none kV_round_of dc_round_of pm_round_of an_round_of cd_round_of ct_round_of), sl_round_of⟩) (c_round_of : PySem.W.codeIn K cd_round_of "round_of" = true) (k_round_of : PySem.W.keepIn K (.ref f_round_of) = true)
    {f__law_cell_at : Addr} {od__law_cell_at an__law_cell_at : Option Addr} {sl__law_cell_at : Array (Option Value)} {oc__law_cell_at kV__law_cell_at dc__law_cell_at pm__law_cell_at cd__law_cell_at ct__law_cell_at : Value}
    (a__law_cell_at : PySem.W.nsIn K mainGlobals "_law_cell_at" = some (some (.ref f__law_cell_at))) (l__law_cell_at : K.lookup f__law_cell_at = some ⟨oc__law_cell_at, od__law_cell_at, .func (PySem.W.fnOf "_law_cell_at" "_law_cell_at" (defArgs s__law_cell_at) (defBody s__law_cell_at) (defScope s__law_cell_at) .none kV__law_cell_at dc__law_cell_at pm__law_cell_at an__law_cell_at cd__law_cell_at ct__law_cell_at), sl__law_cell_at⟩) (c__law_cell_at : PySem.W.codeIn K cd__law_cell_at "_law_cell_at" = true) (k__law_cell_at : PySem.W.keepIn K (.ref f__law_cell_at) = true)
    {f__law_draw : Addr} {od__law_draw an__law_draw : Option Addr} {sl__law_draw : Array (Option Value)} {oc__law_draw kV__law_draw dc__law_draw pm__law_draw cd__law_draw ct__law_draw : Value}
    (a__law_draw : PySem.W.nsIn K mainGlobals "_law_draw" = some (some (.ref f__law_draw))) (l__law_draw : K.lookup f__law_draw = some ⟨oc__law_draw, od__law_draw, .func (PySem.W.fnOf "_law_draw" "_law_draw" (defArgs s__law_draw) (defBody s__law_draw) (defScope s__law_draw) .none kV__law_draw dc__law_draw pm__law_draw an__law_draw cd__law_draw ct__law_draw), sl__law_draw⟩) (c__law_draw : PySem.W.codeIn K cd__law_draw "_law_draw" = true) (k__law_draw : PySem.W.keepIn K (.ref f__law_draw) = true)
    {f__law_value : Addr} {od__law_value an__law_value : Option Addr} {sl__law_value : Array (Option Value)} {oc__law_value kV__law_value dc__law_value pm__law_value cd__law_value ct__law_value : Value}
    (a__law_value : PySem.W.nsIn K mainGlobals "_law_value" = some (some (.ref f__law_value))) (l__law_value : K.lookup f__law_value = some ⟨oc__law_value, od__law_value, .func (PySem.W.fnOf "_law_value" "_law_value" (defArgs s__law_value) (defBody s__law_value) (defScope s__law_value) .none kV__law_value dc__law_value pm__law_value an__law_value cd__law_value ct__law_value), sl__law_value⟩) (c__law_value : PySem.W.codeIn K cd__law_value "_law_value" = true) (k__law_value : PySem.W.keepIn K (.ref f__law_value) = true)
    {f__law_power : Addr} {od__law_power an__law_power : Option Addr} {sl__law_power : Array (Option Value)} {oc__law_power kV__law_power dc__law_power pm__law_power cd__law_power ct__law_power : Value}
    (a__law_power : PySem.W.nsIn K mainGlobals "_law_power" = some (some (.ref f__law_power))) (l__law_power : K.lookup f__law_power = some ⟨oc__law_power, od__law_power, .func (PySem.W.fnOf "_law_power" "_law_power" (defArgs s__law_power) (defBody s__law_power) (defScope s__law_power) .none kV__law_power dc__law_power pm__law_power an__law_power cd__law_power ct__law_power), sl__law_power⟩) (c__law_power : PySem.W.codeIn K cd__law_power "_law_power" = true) (k__law_power : PySem.W.keepIn K (.ref f__law_power) = true)
    {f__law_room : Addr} {od__law_room an__law_room : Option Addr} {sl__law_room : Array (Option Value)} {oc__law_room kV__law_room dc__law_room pm__law_room cd__law_room ct__law_room : Value}
    (a__law_room : PySem.W.nsIn K mainGlobals "_law_room" = some (some (.ref f__law_room))) (l__law_room : K.lookup f__law_room = some ⟨oc__law_room, od__law_room, .func (PySem.W.fnOf "_law_room" "_law_room" (defArgs s__law_room) (defBody s__law_room) (defScope s__law_room) .none kV__law_room dc__law_room pm__law_room an__law_room cd__law_room ct__law_room), sl__law_room⟩) (c__law_room : PySem.W.codeIn K cd__law_room "_law_room" = true) (k__law_room : PySem.W.keepIn K (.ref f__law_room) = true)
    {f__law_step : Addr} {od__law_step an__law_step : Option Addr} {sl__law_step : Array (Option Value)} {oc__law_step kV__law_step dc__law_step pm__law_step cd__law_step ct__law_step : Value}
    (a__law_step : PySem.W.nsIn K mainGlobals "_law_step" = some (some (.ref f__law_step))) (l__law_step : K.lookup f__law_step = some ⟨oc__law_step, od__law_step, .func (PySem.W.fnOf "_law_step" "_law_step" (defArgs s__law_step) (defBody s__law_step) (defScope s__law_step) .none kV__law_step dc__law_step pm__law_step an__law_step cd__law_step ct__law_step), sl__law_step⟩) (c__law_step : PySem.W.codeIn K cd__law_step "_law_step" = true) (k__law_step : PySem.W.keepIn K (.ref f__law_step) = true)
    {f__law_course : Addr} {od__law_course an__law_course : Option Addr} {sl__law_course : Array (Option Value)} {oc__law_course kV__law_course dc__law_course pm__law_course cd__law_course ct__law_course : Value}
    (a__law_course : PySem.W.nsIn K mainGlobals "_law_course" = some (some (.ref f__law_course))) (l__law_course : K.lookup f__law_course = some ⟨oc__law_course, od__law_course, .func (PySem.W.fnOf "_law_course" "_law_course" (defArgs s__law_course) (defBody s__law_course) (defScope s__law_course) .none kV__law_course dc__law_course pm__law_course an__law_course cd__law_course ct__law_course), sl__law_course⟩) (c__law_course : PySem.W.codeIn K cd__law_course "_law_course" = true) (k__law_course : PySem.W.keepIn K (.ref f__law_course) = true)
    {f__law_whole : Addr} {od__law_whole an__law_whole : Option Addr} {sl__law_whole : Array (Option Value)} {oc__law_whole kV__law_whole dc__law_whole pm__law_whole cd__law_whole ct__law_whole : Value}
    (a__law_whole : PySem.W.nsIn K mainGlobals "_law_whole" = some (some (.ref f__law_whole))) (l__law_whole : K.lookup f__law_whole = some ⟨oc__law_whole, od__law_whole, .func (PySem.W.fnOf "_law_whole" "_law_whole" (defArgs s__law_whole) (defBody s__law_whole) (defScope s__law_whole) .none kV__law_whole dc__law_whole pm__law_whole an__law_whole cd__law_whole ct__law_whole), sl__law_whole⟩) (c__law_whole : PySem.W.codeIn K cd__law_whole "_law_whole" = true) (k__law_whole : PySem.W.keepIn K (.ref f__law_whole) = true)
    {f_law : Addr} {od_law an_law : Option Addr} {sl_law : Array (Option Value)} {oc_law kV_law dc_law pm_law cd_law ct_law : Value}
    (a_law : PySem.W.nsIn K mainGlobals "law" = some (some (.ref f_law))) (l_law : K.lookup f_law = some ⟨oc_law, od_law, .func (PySem.W.fnOf "law" "law" (defArgs s_law) (defBody s_law) (defScope s_law) .none kV_law dc_law pm_law an_law cd_law ct_law), sl_law⟩) (c_law : PySem.W.codeIn K cd_law "law" = true) (k_law : PySem.W.keepIn K (.ref f_law) = true)
    (z_all : PySem.W.nsIn K mainGlobals "all" = some none)
    (z_bool : PySem.W.nsIn K mainGlobals "bool" = some none)
    (z_int : PySem.W.nsIn K mainGlobals "int" = some none)
    (z_isinstance : PySem.W.nsIn K mainGlobals "isinstance" = some none)
    (z_len : PySem.W.nsIn K mainGlobals "len" = some none)
    (z_max : PySem.W.nsIn K mainGlobals "max" = some none)
    (z_min : PySem.W.nsIn K mainGlobals "min" = some none)
    (z_range : PySem.W.nsIn K mainGlobals "range" = some none)
    (z_sorted : PySem.W.nsIn K mainGlobals "sorted" = some none)
    (z_tuple : PySem.W.nsIn K mainGlobals "tuple" = some none)
    {t_GREATEST : Tok} (g_GREATEST : PySem.W.nsIn K mainGlobals "GREATEST" = some (some (.int 12 t_GREATEST)))
    {t_LONGEST : Tok} (g_LONGEST : PySem.W.nsIn K mainGlobals "LONGEST" = some (some (.int 8 t_LONGEST)))
    : ∃ fd : FuncData, (∀ (s : Shared) (v : Value), BindsTo s fd ⟨[v], []⟩ [("_law_script", v)]) ∧ ∀ base : Heap, K.In base → base.Ns mainGlobals mg → FnOk P w K mg base CX0 5 fa fd ["_law_script"] (SpLaw K) := by
  have e := hfa.symm.trans (PySem.W.mg_of X G a_law)
  cases e
  have B : Bf K mg := ⟨PySem.W.mg_none_of X G z_all, PySem.W.mg_none_of X G z_bool, PySem.W.mg_none_of X G z_int, PySem.W.mg_none_of X G z_isinstance, PySem.W.mg_none_of X G z_len, PySem.W.mg_none_of X G z_max, PySem.W.mg_none_of X G z_min, PySem.W.mg_none_of X G z_range, PySem.W.mg_none_of X G z_sorted, PySem.W.mg_none_of X G z_tuple, ⟨_, PySem.W.mg_of X G g_GREATEST⟩, ⟨_, PySem.W.mg_of X G g_LONGEST⟩⟩
  have F_is_whole := fun_mk (st := s_is_whole) l_is_whole c_is_whole k_is_whole
  have b_is_whole := F_is_whole.binds (ps := ["thing"]) fun _ _ _ _ _ _ us hl => match us, hl with | [_], _ => rfl
  have F_power_of := fun_mk (st := s_power_of) l_power_of c_power_of k_power_of
  have b_power_of := F_power_of.binds (ps := ["base", "many"]) fun _ _ _ _ _ _ us hl => match us, hl with | [_, _], _ => rfl
  have F_check_both := fun_mk (st := s_check_both) l_check_both c_check_both k_check_both
  have b_check_both := F_check_both.binds (ps := ["base", "length"]) fun _ _ _ _ _ _ us hl => match us, hl with | [_, _], _ => rfl
  have F_check_number := fun_mk (st := s_check_number) l_check_number c_check_number k_check_number
  have b_check_number := F_check_number.binds (ps := ["base", "length", "number"]) fun _ _ _ _ _ _ us hl => match us, hl with | [_, _, _], _ => rfl
  have F_figures_of := fun_mk (st := s_figures_of) l_figures_of c_figures_of k_figures_of
  have b_figures_of := F_figures_of.binds (ps := ["base", "length", "number"]) fun _ _ _ _ _ _ us hl => match us, hl with | [_, _, _], _ => rfl
  have F_written_by := fun_mk (st := s_written_by) l_written_by c_written_by k_written_by
  have b_written_by := F_written_by.binds (ps := ["base", "figures"]) fun _ _ _ _ _ _ us hl => match us, hl with | [_, _], _ => rfl
  have F_step_of := fun_mk (st := s_step_of) l_step_of c_step_of k_step_of
  have b_step_of := F_step_of.binds (ps := ["base", "length", "number"]) fun _ _ _ _ _ _ us hl => match us, hl with | [_, _, _], _ => rfl
  have F_course_of := fun_mk (st := s_course_of) l_course_of c_course_of k_course_of
  have b_course_of := F_course_of.binds (ps := ["base", "length", "number"]) fun _ _ _ _ _ _ us hl => match us, hl with | [_, _, _], _ => rfl
  have F_round_of := fun_mk (st := s_round_of) l_round_of c_round_of k_round_of
  have b_round_of := F_round_of.binds (ps := ["base", "length", "number"]) fun _ _ _ _ _ _ us hl => match us, hl with | [_, _, _], _ => rfl
  have F__law_cell_at := fun_mk (st := s__law_cell_at) l__law_cell_at c__law_cell_at k__law_cell_at
  have b__law_cell_at := F__law_cell_at.binds (ps := ["_law_script", "_law_k"]) fun _ _ _ _ _ _ us hl => match us, hl with | [_, _], _ => rfl
  have F__law_draw := fun_mk (st := s__law_draw) l__law_draw c__law_draw k__law_draw
  have b__law_draw := F__law_draw.binds (ps := ["_law_cell", "_law_k", "_law_many"]) fun _ _ _ _ _ _ us hl => match us, hl with | [_, _, _], _ => rfl
  have F__law_value := fun_mk (st := s__law_value) l__law_value c__law_value k__law_value
  have b__law_value := F__law_value.binds (ps := ["_law_cell", "_law_turn"]) fun _ _ _ _ _ _ us hl => match us, hl with | [_, _], _ => rfl
  have F__law_power := fun_mk (st := s__law_power) l__law_power c__law_power k__law_power
  have b__law_power := F__law_power.binds (ps := ["_law_base", "_law_many"]) fun _ _ _ _ _ _ us hl => match us, hl with | [_, _], _ => rfl
  have F__law_room := fun_mk (st := s__law_room) l__law_room c__law_room k__law_room
  have b__law_room := F__law_room.binds (ps := ["_law_script", "_law_by"]) fun _ _ _ _ _ _ us hl => match us, hl with | [_, _], _ => rfl
  have F__law_step := fun_mk (st := s__law_step) l__law_step c__law_step k__law_step
  have b__law_step := F__law_step.binds (ps := ["_law_base", "_law_length", "_law_number"]) fun _ _ _ _ _ _ us hl => match us, hl with | [_, _, _], _ => rfl
  have F__law_course := fun_mk (st := s__law_course) l__law_course c__law_course k__law_course
  have b__law_course := F__law_course.binds (ps := ["_law_base", "_law_length", "_law_number"]) fun _ _ _ _ _ _ us hl => match us, hl with | [_, _, _], _ => rfl
  have F__law_whole := fun_mk (st := s__law_whole) l__law_whole c__law_whole k__law_whole
  have b__law_whole := F__law_whole.binds (ps := ["_law_number"]) fun _ _ _ _ _ _ us hl => match us, hl with | [_], _ => rfl
  have F_law := fun_mk (st := s_law) l_law c_law k_law
  refine ⟨PySem.W.fnOf "law" "law" (defArgs s_law) (defBody s_law) (defScope s_law) .none kV_law dc_law pm_law an_law cd_law ct_law, fun s v => .of_eq rfl, fun base _ _ => ?_⟩
  have C_is_whole : Fn P w K mg base 1 "is_whole" ["thing"] (sp_is_whole K mg) := ⟨_, _, PySem.W.mg_of X G a_is_whole, ok_is_whole F_is_whole B , F_is_whole.kp, b_is_whole⟩
  have C_power_of : Fn P w K mg base 1 "power_of" ["base", "many"] (sp_power_of K mg) := ⟨_, _, PySem.W.mg_of X G a_power_of, ok_power_of F_power_of B , F_power_of.kp, b_power_of⟩
  have C_check_both : Fn P w K mg base 2 "check_both" ["base", "length"] (sp_check_both K mg) := ⟨_, _, PySem.W.mg_of X G a_check_both, ok_check_both F_check_both B C_is_whole, F_check_both.kp, b_check_both⟩
  have C_check_number : Fn P w K mg base 3 "check_number" ["base", "length", "number"] (sp_check_number K mg) := ⟨_, _, PySem.W.mg_of X G a_check_number, ok_check_number F_check_number B C_check_both C_is_whole C_power_of, F_check_number.kp, b_check_number⟩
  have C_figures_of : Fn P w K mg base 1 "figures_of" ["base", "length", "number"] (sp_figures_of K mg) := ⟨_, _, PySem.W.mg_of X G a_figures_of, ok_figures_of F_figures_of B , F_figures_of.kp, b_figures_of⟩
  have C_written_by : Fn P w K mg base 1 "written_by" ["base", "figures"] (sp_written_by K mg) := ⟨_, _, PySem.W.mg_of X G a_written_by, ok_written_by F_written_by B , F_written_by.kp, b_written_by⟩
  have C_step_of : Fn P w K mg base 2 "step_of" ["base", "length", "number"] (sp_step_of K mg) := ⟨_, _, PySem.W.mg_of X G a_step_of, ok_step_of F_step_of B C_figures_of C_written_by, F_step_of.kp, b_step_of⟩
  have C_course_of : Fn P w K mg base 3 "course_of" ["base", "length", "number"] (sp_course_of K mg) := ⟨_, _, PySem.W.mg_of X G a_course_of, ok_course_of F_course_of B C_step_of, F_course_of.kp, b_course_of⟩
  have C_round_of : Fn P w K mg base 4 "round_of" ["base", "length", "number"] (sp_round_of K mg) := ⟨_, _, PySem.W.mg_of X G a_round_of, ok_round_of F_round_of B C_check_number C_course_of, F_round_of.kp, b_round_of⟩
  have C__law_cell_at : Fn P w K mg base 1 "_law_cell_at" ["_law_script", "_law_k"] (sp__law_cell_at K mg) := ⟨_, _, PySem.W.mg_of X G a__law_cell_at, ok__law_cell_at F__law_cell_at B , F__law_cell_at.kp, b__law_cell_at⟩
  have C__law_draw : Fn P w K mg base 1 "_law_draw" ["_law_cell", "_law_k", "_law_many"] (sp__law_draw K mg) := ⟨_, _, PySem.W.mg_of X G a__law_draw, ok__law_draw F__law_draw B , F__law_draw.kp, b__law_draw⟩
  have C__law_value : Fn P w K mg base 2 "_law_value" ["_law_cell", "_law_turn"] (sp__law_value K mg) := ⟨_, _, PySem.W.mg_of X G a__law_value, ok__law_value F__law_value B C__law_draw, F__law_value.kp, b__law_value⟩
  have C__law_power : Fn P w K mg base 1 "_law_power" ["_law_base", "_law_many"] (sp__law_power K mg) := ⟨_, _, PySem.W.mg_of X G a__law_power, ok__law_power F__law_power B , F__law_power.kp, b__law_power⟩
  have C__law_room : Fn P w K mg base 3 "_law_room" ["_law_script", "_law_by"] (sp__law_room K mg) := ⟨_, _, PySem.W.mg_of X G a__law_room, ok__law_room F__law_room B C__law_cell_at C__law_power C__law_value, F__law_room.kp, b__law_room⟩
  have C__law_step : Fn P w K mg base 1 "_law_step" ["_law_base", "_law_length", "_law_number"] (sp__law_step K mg) := ⟨_, _, PySem.W.mg_of X G a__law_step, ok__law_step F__law_step B , F__law_step.kp, b__law_step⟩
  have C__law_course : Fn P w K mg base 2 "_law_course" ["_law_base", "_law_length", "_law_number"] (sp__law_course K mg) := ⟨_, _, PySem.W.mg_of X G a__law_course, ok__law_course F__law_course B C__law_step, F__law_course.kp, b__law_course⟩
  have C__law_whole : Fn P w K mg base 1 "_law_whole" ["_law_number"] (sp__law_whole K mg) := ⟨_, _, PySem.W.mg_of X G a__law_whole, ok__law_whole F__law_whole B , F__law_whole.kp, b__law_whole⟩
  exact ok_law F_law B C__law_room C__law_course C_round_of C__law_whole
end Sl
open PySem PySem.W PyProof.Rows
set_option maxHeartbeats 0 in
theorem PySem.Challenge.cw_sortless_k03_whole_round_of_holds : PySem.Challenge.rw_sortless_k03_whole_round_of.Holds := by
  w_on; o_law; k_head; (case hw => w_witness2)
  k_fill
  refine L2.walk_ofB (l := PySem.Challenge.rw_sortless_k03_whole_round_of) (n := 63) (k := 5) (x := "_law_script") (CX := fun _ => L2.CX0) (sp := fun w => Sl.SpLaw _) rfl (by decide) rfl ⟨rfl, by decide, by decide⟩ (fun w h Y => PySem.W.kIn_of Y) ?F (fun _ _ a ns hl hb _ hS => ⟨a, ns, rfl, hS, hl, fun z hz => Sl.Bt.of (hb z hz), fun _ => rfl⟩) (fun _ _ _ _ _ h => h)
  case F =>
    intro w mg fa h KX G hmg
    refine' Sl.all_mk KX G hmg ?a_is_whole ?l_is_whole ?c_is_whole ?k_is_whole ?a_power_of ?l_power_of ?c_power_of ?k_power_of ?a_check_both ?l_check_both ?c_check_both ?k_check_both ?a_check_number ?l_check_number ?c_check_number ?k_check_number ?a_figures_of ?l_figures_of ?c_figures_of ?k_figures_of ?a_written_by ?l_written_by ?c_written_by ?k_written_by ?a_step_of ?l_step_of ?c_step_of ?k_step_of ?a_course_of ?l_course_of ?c_course_of ?k_course_of ?a_round_of ?l_round_of ?c_round_of ?k_round_of ?a__law_cell_at ?l__law_cell_at ?c__law_cell_at ?k__law_cell_at ?a__law_draw ?l__law_draw ?c__law_draw ?k__law_draw ?a__law_value ?l__law_value ?c__law_value ?k__law_value ?a__law_power ?l__law_power ?c__law_power ?k__law_power ?a__law_room ?l__law_room ?c__law_room ?k__law_room ?a__law_step ?l__law_step ?c__law_step ?k__law_step ?a__law_course ?l__law_course ?c__law_course ?k__law_course ?a__law_whole ?l__law_whole ?c__law_whole ?k__law_whole ?a_law ?l_law ?c_law ?k_law ?z_all ?z_bool ?z_int ?z_isinstance ?z_len ?z_max ?z_min ?z_range ?z_sorted ?z_tuple ?g_GREATEST ?g_LONGEST
    (case a_is_whole => k_is)
    (case l_is_whole => k_is)
    (case c_is_whole => k_is)
    (case k_is_whole => k_is)
    (case a_power_of => k_is)
    (case l_power_of => k_is)
    (case c_power_of => k_is)
    (case k_power_of => k_is)
    (case a_check_both => k_is)
    (case l_check_both => k_is)
    (case c_check_both => k_is)
    (case k_check_both => k_is)
    (case a_check_number => k_is)
    (case l_check_number => k_is)
    (case c_check_number => k_is)
    (case k_check_number => k_is)
    (case a_figures_of => k_is)
    (case l_figures_of => k_is)
    (case c_figures_of => k_is)
    (case k_figures_of => k_is)
    (case a_written_by => k_is)
    (case l_written_by => k_is)
    (case c_written_by => k_is)
    (case k_written_by => k_is)
    (case a_step_of => k_is)
    (case l_step_of => k_is)
    (case c_step_of => k_is)
    (case k_step_of => k_is)
    (case a_course_of => k_is)
    (case l_course_of => k_is)
    (case c_course_of => k_is)
    (case k_course_of => k_is)
    (case a_round_of => k_is)
    (case l_round_of => k_is)
    (case c_round_of => k_is)
    (case k_round_of => k_is)
    (case a__law_cell_at => k_is)
    (case l__law_cell_at => k_is)
    (case c__law_cell_at => k_is)
    (case k__law_cell_at => k_is)
    (case a__law_draw => k_is)
    (case l__law_draw => k_is)
    (case c__law_draw => k_is)
    (case k__law_draw => k_is)
    (case a__law_value => k_is)
    (case l__law_value => k_is)
    (case c__law_value => k_is)
    (case k__law_value => k_is)
    (case a__law_power => k_is)
    (case l__law_power => k_is)
    (case c__law_power => k_is)
    (case k__law_power => k_is)
    (case a__law_room => k_is)
    (case l__law_room => k_is)
    (case c__law_room => k_is)
    (case k__law_room => k_is)
    (case a__law_step => k_is)
    (case l__law_step => k_is)
    (case c__law_step => k_is)
    (case k__law_step => k_is)
    (case a__law_course => k_is)
    (case l__law_course => k_is)
    (case c__law_course => k_is)
    (case k__law_course => k_is)
    (case a__law_whole => k_is)
    (case l__law_whole => k_is)
    (case c__law_whole => k_is)
    (case k__law_whole => k_is)
    (case a_law => k_is)
    (case l_law => k_is)
    (case c_law => k_is)
    (case k_law => k_is)
    (case z_all => k_is)
    (case z_bool => k_is)
    (case z_int => k_is)
    (case z_isinstance => k_is)
    (case z_len => k_is)
    (case z_max => k_is)
    (case z_min => k_is)
    (case z_range => k_is)
    (case z_sorted => k_is)
    (case z_tuple => k_is)
    (case g_GREATEST => k_is)
    (case g_LONGEST => k_is)
