import PyProof.Rows.All
import Wide.All
import OpenK.AllK
import Wide.FinOn
import HandS.ForMost
import HandS.ForExc
import HandS.Evl
import HandS.IsInst
import HandS.WideBits
import HandS.EndBits
import HandS.SortInts
import HandS.Style
import HandS.Walk
import HandS.More
import HandS.CallRecv
import KE.RegKIsAll
import KE.SortData
import HandS.Defaults
import HandS.CallLocal
import HandS.ExcIs
import HandS.TryOnly
import HandS.Lambda
import HandS.EndTab
import HandS.NestedK
import KE.KStateDown
import HandS.Head0
import HandS.Head1
import HandS.Head2
import HandS.HeadEnd
import HandS.HeadHook1
import HandS.HeadHook2
import HandS.HeadHook3
import HandS.HeadHook4
import HandS.HeadWalk
import PySem.Challenge.RW_sortless_k09_refused
set_option Elab.async false
set_option linter.all false
set_option maxRecDepth 100000
set_option maxHeartbeats 4000000
namespace Sl
/-! ### the mathematics: powers, figures, sorting, a step -/
/-- a power -/
def pw (b : Int) : Nat → Int
  | 0 => 1
  | k + 1 => pw b k * b
/-- the figures, the last one first -/
def figs (b : Int) (L : Nat) (n : Int) : List Int := (List.range L).map fun i => (n / pw b i) % b
/-- the number that figures write -/
def wr (b : Int) (ds : List Int) : Int := ds.foldl (fun a d => a * b + d) 0
/-- sorted -/
def srt (l : List Int) : List Int := l.mergeSort (fun a b => decide (a ≤ b))
def stepM (b : Int) (L : Nat) (n : Int) : Int := wr b (srt (figs b L n)).reverse - wr b (srt (figs b L n))
/-- all are figures of the base -/
def Digs (b : Int) (l : List Int) : Prop := ∀ d ∈ l, 0 ≤ d ∧ d < b

/-- a number of a base and a length -/
def Dom (b l n : Int) : Prop := (2 ≤ b ∧ b ≤ 12 ∧ 1 ≤ l ∧ l ≤ 8) ∧ 0 ≤ n ∧ n < pw b l.toNat
theorem pw_succ' (b : Int) : ∀ k, pw b (k + 1) = b * pw b k
  | 0 => by show 1 * b = b * 1; omega
  | k + 1 => by
    show pw b (k + 1) * b = b * (pw b k * b)
    rw [pw_succ' b k, Int.mul_assoc]
theorem pw_pos {b : Int} (hb : 0 < b) : ∀ k, 0 < pw b k
  | 0 => by show (0 : Int) < 1; decide
  | k + 1 => Int.mul_pos (pw_pos hb k) hb
theorem pw_mono {b c : Int} (h0 : 0 ≤ b) (h : b ≤ c) : ∀ k, pw b k ≤ pw c k
  | 0 => Int.le_refl _
  | k + 1 => Int.mul_le_mul (pw_mono h0 h k) h h0 (by
    have : ∀ j, 0 ≤ pw c j := fun j => by
      induction j with
      | zero => show (0 : Int) ≤ 1; decide
      | succ j ih => exact Int.mul_nonneg ih (Int.le_trans h0 h)
    exact this k)
theorem pw_up {b : Int} (hb : 1 ≤ b) {j k : Nat} (h : j ≤ k) : pw b j ≤ pw b k := by
  induction k with
  | zero =>
    have : j = 0 := by omega
    subst this
    exact Int.le_refl _
  | succ k ih =>
    by_cases e : j = k + 1
    · subst e
      exact Int.le_refl _
    · have h1 := ih (by omega)
      have h2 : pw b k * 1 ≤ pw b k * b := Int.mul_le_mul_of_nonneg_left hb (Int.le_of_lt (pw_pos (by omega) k))
      rw [Int.mul_one] at h2
      exact Int.le_trans h1 h2
theorem pw_le {b : Int} (h0 : 2 ≤ b) (h : b ≤ 12) {k : Nat} (hk : k ≤ 8) : pw b k ≤ 429981696 := by
  have h1 := pw_up (b := b) (by omega) hk
  have h2 := pw_mono (b := b) (c := 12) (by omega) h 8
  have h3 : pw 12 8 = 429981696 := by decide
  omega
theorem pw_add (b : Int) (j : Nat) : ∀ k, pw b (j + k) = pw b j * pw b k
  | 0 => by show pw b j = pw b j * 1; omega
  | k + 1 => by
    show pw b (j + k) * b = pw b j * (pw b k * b)
    rw [pw_add b j k, Int.mul_assoc]
theorem div_pw {b : Int} (hb : 0 < b) (n : Int) (i : Nat) : n / pw b (i + 1) = n / pw b i / b := by
  show n / (pw b i * b) = n / pw b i / b
  rw [Int.ediv_ediv_of_nonneg (Int.le_of_lt (pw_pos hb i))]
theorem figs_length (b : Int) (L : Nat) (n : Int) : (figs b L n).length = L := by simp [figs]
theorem figs_succ (b : Int) (L : Nat) (n : Int) : figs b (L + 1) n = figs b L n ++ [(n / pw b L) % b] := by
  simp [figs, List.range_succ]
theorem figs_cons {b : Int} (hb : 0 < b) (L : Nat) (n : Int) : figs b (L + 1) n = (n % b) :: figs b L (n / b) := by
  induction L with
  | zero =>
    show [(n / 1) % b] = [n % b]
    rw [Int.ediv_one]
  | succ L ih =>
    rw [figs_succ, ih, figs_succ b L (n / b)]
    have e : n / b / pw b L = n / pw b (L + 1) := by
      rw [pw_succ', Int.ediv_ediv_of_nonneg (Int.le_of_lt hb)]
    rw [e]
    rfl
theorem figs_digs {b : Int} (hb : 0 < b) (L : Nat) (n : Int) : Digs b (figs b L n) := by
  intro d hd
  simp only [figs, List.mem_map] at hd
  obtain ⟨i, _, rfl⟩ := hd
  exact ⟨Int.emod_nonneg _ (by omega), Int.emod_lt_of_pos _ hb⟩
theorem wr_append (b : Int) (l : List Int) (d : Int) : wr b (l ++ [d]) = wr b l * b + d := by
  simp [wr, List.foldl_append]
theorem wr_cons (b : Int) (d : Int) (l : List Int) : wr b (d :: l) = d * pw b l.length + wr b l := by
  have key : ∀ (l : List Int) (a : Int), l.foldl (fun a d => a * b + d) a = a * pw b l.length + wr b l := by
    intro l
    induction l with
    | nil => intro a; show a = a * 1 + 0; omega
    | cons x l ih =>
      intro a
      show l.foldl (fun a d => a * b + d) (a * b + x) = a * pw b (l.length + 1) + l.foldl (fun a d => a * b + d) (0 * b + x)
      rw [ih, ih (0 * b + x), pw_succ', Int.add_mul, Int.zero_mul, Int.zero_add, Int.mul_assoc]
      omega
  show l.foldl (fun a d => a * b + d) (0 * b + d) = _
  rw [key, Int.zero_mul, Int.zero_add]
theorem Digs.cons {b d : Int} {l : List Int} (h : Digs b (d :: l)) : (0 ≤ d ∧ d < b) ∧ Digs b l := ⟨h d (by simp), fun x hx => h x (by simp [hx])⟩
theorem Digs.perm {b : Int} {l k : List Int} (h : Digs b l) (p : k.Perm l) : Digs b k := fun d hd => h d (p.mem_iff.mp hd)
theorem wr_bound {b : Int} (hb : 0 < b) : ∀ {l : List Int}, Digs b l → 0 ≤ wr b l ∧ wr b l < pw b l.length
  | [], _ => ⟨Int.le_refl _, by show (0 : Int) < 1; decide⟩
  | d :: l, h => by
    obtain ⟨⟨h1, h2⟩, h3⟩ := h.cons
    obtain ⟨h4, h5⟩ := wr_bound hb h3
    have hp := pw_pos hb l.length
    rw [wr_cons]
    have h6 : 0 ≤ d * pw b l.length := Int.mul_nonneg h1 (Int.le_of_lt hp)
    have h7 : d * pw b l.length ≤ (b - 1) * pw b l.length := Int.mul_le_mul_of_nonneg_right (by omega) (Int.le_of_lt hp)
    rw [Int.sub_mul, Int.one_mul] at h7
    refine ⟨by omega, ?_⟩
    show _ < pw b l.length * b
    rw [Int.mul_comm (pw b l.length) b]
    omega
/-- a number by its figures -/
theorem wr_figs {b : Int} (hb : 0 < b) : ∀ (L : Nat) (n : Int), 0 ≤ n → n < pw b L → wr b (figs b L n).reverse = n
  | 0, n, h0, h1 => by
    have h1' : n < 1 := h1
    show (0 : Int) = n
    omega
  | L + 1, n, h0, h1 => by
    rw [figs_cons hb, List.reverse_cons, wr_append]
    have hq : n / b < pw b L := by
      refine Int.ediv_lt_of_lt_mul hb ?_
      exact h1
    rw [wr_figs hb L (n / b) (Int.ediv_nonneg h0 (Int.le_of_lt hb)) hq]
    have e := Int.mul_ediv_add_emod n b
    rw [Int.mul_comm] at e
    exact e
theorem figs_wr {b : Int} (hb : 0 < b) : ∀ {l : List Int}, Digs b l → figs b l.length (wr b l.reverse) = l
  | [], _ => rfl
  | d :: l, h => by
    obtain ⟨⟨h1, h2⟩, h3⟩ := h.cons
    rw [List.reverse_cons, wr_append]
    show figs b (l.length + 1) _ = _
    rw [figs_cons hb]
    have e1 : (wr b l.reverse * b + d) % b = d := by
      rw [Int.add_comm, Int.add_mul_emod_self_right, Int.emod_eq_of_lt h1 h2]
    have e2 : (wr b l.reverse * b + d) / b = wr b l.reverse := by
      rw [Int.add_comm, Int.add_mul_ediv_right _ _ (by omega), Int.ediv_eq_zero_of_lt h1 h2]
      omega
    rw [e1, e2, figs_wr hb h3]
/-! sorting -/
theorem srt_perm (l : List Int) : (srt l).Perm l := List.mergeSort_perm l _
theorem srt_sorted (l : List Int) : (srt l).Pairwise (· ≤ ·) := by
  have h := List.pairwise_mergeSort (le := fun a b : Int => decide (a ≤ b)) (fun a b c h1 h2 => by
    have h1 := of_decide_eq_true h1
    have h2 := of_decide_eq_true h2
    exact decide_eq_true (Int.le_trans h1 h2)) (fun a b => by
    rcases Int.le_total a b with h | h
    · simp [h]
    · simp [h]) l
  exact h.imp fun h => of_decide_eq_true h
theorem sort_one {l k : List Int} (h1 : l.Pairwise (· ≤ ·)) (h2 : k.Pairwise (· ≤ ·)) (p : l.Perm k) : l = k :=
  List.Perm.eq_of_pairwise (fun _ _ _ _ a b => Int.le_antisymm a b) h1 h2 p
theorem srt_of {l k : List Int} (p : k.Perm l) (h : k.Pairwise (· ≤ ·)) : k = srt l := sort_one h (srt_sorted l) (p.trans (srt_perm l).symm)
theorem srt_congr {l k : List Int} (p : k.Perm l) : srt k = srt l := srt_of ((srt_perm k).trans p) (srt_sorted k)
theorem srt_length (l : List Int) : (srt l).length = l.length := (srt_perm l).length_eq
/-! how much a list written from its end exceeds it -/
theorem ends_ind {P : List Int → Prop} (h0 : P []) (h1 : ∀ x, P [x]) (h2 : ∀ x m y, P m → P (x :: (m ++ [y]))) (l : List Int) : P l := by
  have key : ∀ n (l : List Int), l.length ≤ n → P l := by
    intro n
    induction n with
    | zero =>
      intro l h
      have : l = [] := List.length_eq_zero_iff.mp (by omega)
      subst this
      exact h0
    | succ n ih =>
      intro l h
      cases l with
      | nil => exact h0
      | cons x r =>
        rcases List.eq_nil_or_concat r with e | ⟨m, y, e⟩
        · subst e
          exact h1 x
        · subst e
          rw [List.concat_eq_append] at *
          refine h2 x m y (ih m ?_)
          simp at h
          omega
  exact key l.length l (Nat.le_refl _)
theorem wr_peel (b x y : Int) (m : List Int) : wr b (x :: (m ++ [y])) = x * pw b (m.length + 1) + wr b m * b + y := by
  rw [wr_cons, wr_append, List.length_append]
  show x * pw b (m.length + 1) + (wr b m * b + y) = _
  omega
theorem rev_peel (x y : Int) (m : List Int) : (x :: (m ++ [y])).reverse = y :: (m.reverse ++ [x]) := by simp
theorem diff_peel (b x y : Int) (m : List Int) : wr b (x :: (m ++ [y])).reverse - wr b (x :: (m ++ [y])) = (y - x) * (pw b (m.length + 1) - 1) + b * (wr b m.reverse - wr b m) := by
  rw [rev_peel, wr_peel, wr_peel, List.length_reverse, Int.sub_mul, Int.mul_sub, Int.mul_sub, Int.mul_sub, Int.mul_one, Int.mul_one, Int.mul_comm b, Int.mul_comm b]
  omega
theorem down_ge {b : Int} (hb : 1 ≤ b) (l : List Int) : l.Pairwise (· ≤ ·) → 0 ≤ wr b l.reverse - wr b l := by
  induction l using ends_ind with
  | h0 => intro _; show (0 : Int) ≤ wr b [] - wr b []; omega
  | h1 x => intro _; show (0 : Int) ≤ wr b [x] - wr b [x]; omega
  | h2 x m y ih =>
    intro h
    obtain ⟨h1, h2⟩ := List.pairwise_cons.mp h
    have h3 := (List.pairwise_append.mp h2).1
    have hxy : x ≤ y := h1 y (by simp)
    rw [diff_peel]
    have a1 : 0 ≤ (y - x) * (pw b (m.length + 1) - 1) := Int.mul_nonneg (by omega) (by
      have := pw_pos (b := b) (by omega) (m.length + 1)
      omega)
    have a2 : 0 ≤ b * (wr b m.reverse - wr b m) := Int.mul_nonneg (by omega) (ih h3)
    omega
theorem step_bound {b : Int} (hb : 2 ≤ b) (L : Nat) (n : Int) : 0 ≤ stepM b L n ∧ stepM b L n < pw b L := by
  have h1 := down_ge (b := b) (by omega) (srt (figs b L n)) (srt_sorted _)
  have d0 : Digs b (srt (figs b L n)) := (figs_digs (by omega) L n).perm (srt_perm _)
  have d1 : Digs b (srt (figs b L n)).reverse := d0.perm (List.reverse_perm _)
  have w0 := wr_bound (b := b) (by omega) d0
  have w1 := wr_bound (b := b) (by omega) d1
  rw [List.length_reverse, srt_length, figs_length] at w1
  unfold stepM
  omega
/-! by how often each figure is there -/
/-- the figures from the least on, by how often each is there -/
def lup (b : Nat) (l : List Int) : List Int := (List.range b).flatMap fun (f : Nat) => List.replicate (l.count (f : Int)) (f : Int)
/-- from the greatest on -/
def ldn (b : Nat) (l : List Int) : List Int := (List.range b).flatMap fun (f : Nat) => List.replicate (l.count ((b : Int) - 1 - (f : Int))) ((b : Int) - 1 - (f : Int))
theorem sum_ite (d : Nat) (g : Nat → Nat) : ∀ n, ((List.range n).map fun f => if f = d then g f else 0).sum = if d < n then g d else 0
  | 0 => rfl
  | n + 1 => by
    rw [List.range_succ, List.map_append, List.sum_append, sum_ite d g n]
    simp only [List.map_cons, List.map_nil, List.sum_cons, List.sum_nil]
    split <;> split <;> split <;> first | omega | (subst_vars; omega)
theorem lup_count {b : Nat} {l : List Int} (h : Digs b l) (d : Int) : (lup b l).count d = l.count d := by
  unfold lup
  rw [List.count_flatMap]
  by_cases hd : 0 ≤ d ∧ d < (b : Int)
  · obtain ⟨k, rfl⟩ := Int.eq_ofNat_of_zero_le hd.1
    have e : (List.map (List.count (k : Int) ∘ fun f : Nat => List.replicate (List.count (f : Int) l) (f : Int)) (List.range b)) = (List.range b).map fun f => if f = k then l.count (f : Int) else 0 := by
      refine List.map_congr_left fun f _ => ?_
      show List.count (k : Int) (List.replicate (List.count (f : Int) l) (f : Int)) = _
      rw [List.count_replicate]
      by_cases e : f = k
      · subst e; simp
      · have : ¬ ((f : Int) == (k : Int)) = true := by
          simp only [beq_iff_eq]
          omega
        rw [if_neg this, if_neg e]
    rw [e, sum_ite, if_pos (by omega)]
  · have e1 : l.count d = 0 := List.count_eq_zero.mpr fun hm => hd (h d hm)
    rw [e1]
    have e : (List.map (List.count d ∘ fun f : Nat => List.replicate (List.count (f : Int) l) (f : Int)) (List.range b)) = (List.range b).map fun _ => 0 := by
      refine List.map_congr_left fun f hf => ?_
      show List.count d (List.replicate (List.count (f : Int) l) (f : Int)) = 0
      rw [List.count_replicate]
      have hfb := List.mem_range.mp hf
      have : ¬ ((f : Int) == d) = true := by
        simp only [beq_iff_eq]
        omega
      rw [if_neg this]
    rw [e]
    clear e h
    have z : ∀ n, ((List.range n).map fun _ => 0).sum = 0 := fun n => by
      induction n with
      | zero => rfl
      | succ n ih => rw [List.range_succ, List.map_append, List.sum_append, ih] <;> rfl
    exact z b
theorem lup_srt {b : Nat} {l : List Int} (h : Digs b l) : lup b l = srt l := by
  refine srt_of (List.perm_iff_count.mpr fun d => lup_count h d) ?_
  unfold lup
  rw [List.pairwise_flatMap]
  refine ⟨fun f _ => List.pairwise_replicate.mpr (.inr (Int.le_refl _)), ?_⟩
  refine List.Pairwise.imp (R := (· < ·)) ?_ List.pairwise_lt_range
  intro f g hfg x hx y hy
  rw [(List.mem_replicate.mp hx).2, (List.mem_replicate.mp hy).2]
  omega
theorem flat_congr {α β : Type} {f g : α → List β} : ∀ {l : List α}, (∀ x ∈ l, f x = g x) → l.flatMap f = l.flatMap g
  | [], _ => rfl
  | a :: l, h => by
    rw [List.flatMap_cons, List.flatMap_cons, h a (by simp), flat_congr fun x hx => h x (by simp [hx])]
theorem flat_rev {α : Type} (g : Nat → List α) (hg : ∀ f, (g f).reverse = g f) : ∀ n, ((List.range n).flatMap g).reverse = (List.range n).flatMap fun f => g (n - 1 - f)
  | 0 => rfl
  | n + 1 => by
    rw [List.range_succ, List.flatMap_append, List.reverse_append]
    have e : (List.range n ++ [n]).flatMap (fun f => g (n + 1 - 1 - f)) = g n ++ (List.range n).flatMap fun f => g (n - 1 - f) := by
      rw [← List.range_succ, List.range_succ_eq_map, List.flatMap_cons, List.flatMap_map]
      show g (n + 1 - 1 - 0) ++ _ = _
      rw [show n + 1 - 1 - 0 = n by omega]
      congr 1
      refine flat_congr fun f _ => ?_
      rw [show n + 1 - 1 - Nat.succ f = n - 1 - f by omega]
    rw [e, flat_rev g hg n]
    simp [hg]
theorem ldn_rev {b : Nat} (l : List Int) : ldn b l = (lup b l).reverse := by
  unfold lup
  rw [flat_rev _ (fun f => by simp)]
  unfold ldn
  refine flat_congr fun f hf => ?_
  have := List.mem_range.mp hf
  rw [show (((b - 1 - f : Nat)) : Int) = (b : Int) - 1 - (f : Int) by omega]
theorem step_counts {b : Nat} (hb : 0 < b) (L : Nat) (n : Int) : wr b (ldn b (figs b L n)) - wr b (lup b (figs b L n)) = stepM b L n := by
  have h : Digs b (figs b L n) := figs_digs (by omega) L n
  rw [ldn_rev, lup_srt h]
  rfl
/-! figures in another turn; one of like figures -/
theorem step_perm {b : Int} {L : Nat} {n m : Int} (h : (figs b L n).Perm (figs b L m)) : stepM b L n = stepM b L m := by
  unfold stepM
  rw [srt_congr h]
theorem step_turned {b : Int} (hb : 2 ≤ b) (L : Nat) {n : Int} (h0 : 0 ≤ n) (h1 : n < pw b (L + 1)) :
    (0 ≤ n / b + n % b * pw b L ∧ n / b + n % b * pw b L < pw b (L + 1)) ∧ stepM b (L + 1) (n / b + n % b * pw b L) = stepM b (L + 1) n := by
  have hb0 : 0 < b := by omega
  have hd := figs_digs hb0 (L + 1) n
  have hq0 : 0 ≤ n / b := Int.ediv_nonneg h0 (Int.le_of_lt hb0)
  have hq1 : n / b < pw b L := Int.ediv_lt_of_lt_mul hb0 h1
  have hr0 := Int.emod_nonneg n (show b ≠ 0 by omega)
  have hr1 := Int.emod_lt_of_pos n hb0
  have hf : Digs b (figs b L (n / b) ++ [n % b]) := by
    intro d hd
    rcases List.mem_append.mp hd with h | h
    · exact figs_digs hb0 L _ d h
    · have : d = n % b := by simpa using h
      subst this
      exact ⟨hr0, hr1⟩
  have e : wr b (figs b L (n / b) ++ [n % b]).reverse = n / b + n % b * pw b L := by
    rw [List.reverse_append]
    show wr b (n % b :: (figs b L (n / b)).reverse) = _
    rw [wr_cons, List.length_reverse, figs_length, wr_figs hb0 L _ hq0 hq1]
    omega
  have e2 := figs_wr hb0 hf
  rw [e, List.length_append, figs_length] at e2
  have w := wr_bound hb0 (hf.perm (List.reverse_perm _))
  rw [e, List.length_reverse, List.length_append, figs_length] at w
  refine ⟨w, step_perm ?_⟩
  show (figs b (L + 1) _).Perm _
  rw [show figs b (L + 1) (n / b + n % b * pw b L) = figs b L (n / b) ++ [n % b] from e2, figs_cons hb0]
  exact List.perm_append_comm
/-- a number of like figures 1 -/
def rep (b : Int) (L : Nat) : Int := wr b (List.replicate L 1)
theorem rep_eq {b : Int} : ∀ L, rep b L * (b - 1) = pw b L - 1
  | 0 => by show (0 : Int) * (b - 1) = 1 - 1; omega
  | L + 1 => by
    show wr b (List.replicate (L + 1) 1) * (b - 1) = pw b L * b - 1
    rw [List.replicate_succ', wr_append, Int.add_mul, Int.mul_assoc, Int.mul_comm b, ← Int.mul_assoc]
    have ih := rep_eq (b := b) L
    unfold rep at ih
    rw [ih, Int.sub_mul]
    omega
theorem wr_like (b d : Int) : ∀ L, wr b (List.replicate L d) = rep b L * d
  | 0 => by show (0 : Int) = 0 * d; omega
  | L + 1 => by
    unfold rep
    rw [List.replicate_succ', wr_append, wr_like b d L, List.replicate_succ', wr_append, Int.add_mul, Int.mul_assoc, Int.mul_comm d b, ← Int.mul_assoc]
    unfold rep
    omega
theorem step_alike {b : Int} (hb : 2 ≤ b) (L : Nat) {d : Int} (h0 : 0 ≤ d) (h1 : d < b) :
    (0 ≤ (pw b L - 1) / (b - 1) * d ∧ (pw b L - 1) / (b - 1) * d < pw b L) ∧ stepM b L ((pw b L - 1) / (b - 1) * d) = 0 := by
  have hb0 : 0 < b := by omega
  have e : (pw b L - 1) / (b - 1) = rep b L := by
    rw [← rep_eq L, Int.mul_ediv_cancel _ (by omega)]
  rw [e, ← wr_like]
  have hd : Digs b (List.replicate L d) := fun x hx => by
    rw [(List.mem_replicate.mp hx).2]
    exact ⟨h0, h1⟩
  have w := wr_bound hb0 hd
  rw [List.length_replicate] at w
  have f := figs_wr hb0 hd
  rw [List.length_replicate, List.reverse_replicate] at f
  refine ⟨w, ?_⟩
  unfold stepM
  rw [f]
  have s : srt (List.replicate L d) = List.replicate L d := (srt_of (List.Perm.refl _) (List.pairwise_replicate.mpr (.inr (Int.le_refl _)))).symm
  rw [s, List.reverse_replicate]
  omega
/-! the same of lengths as ints -/
theorem Dom.step {b l n : Int} (h : Dom b l n) : Dom b l (stepM b l.toNat n) := ⟨h.1, step_bound h.1.1 _ _⟩
theorem Dom.turned {b l n : Int} (h : Dom b l n) : Dom b l (n / b + n % b * pw b (l - 1).toNat) ∧ stepM b l.toNat (n / b + n % b * pw b (l - 1).toNat) = stepM b l.toNat n := by
  obtain ⟨⟨h1, h2, h3, h4⟩, h5, h6⟩ := h
  have e : l.toNat = (l - 1).toNat + 1 := by omega
  have t := step_turned h1 (l - 1).toNat h5 (by rw [← e]; exact h6)
  rw [← e] at t
  exact ⟨⟨⟨h1, h2, h3, h4⟩, t.1⟩, t.2⟩
theorem Dom.alike {b l n : Int} (h : Dom b l n) : Dom b l ((pw b l.toNat - 1) / (b - 1) * (n % b)) ∧ stepM b l.toNat ((pw b l.toNat - 1) / (b - 1) * (n % b)) = 0 := by
  have hb := h.1.1
  have t := step_alike hb l.toNat (Int.emod_nonneg n (show b ≠ 0 by omega)) (Int.emod_lt_of_pos n (by omega))
  exact ⟨⟨h.1, t.1⟩, t.2⟩
theorem Dom.top {b l n : Int} (h : Dom b l n) : Dom b l (pw b l.toNat - 1) := ⟨h.1, by have := pw_pos (b := b) (by have := h.1.1; omega) l.toNat; omega, by omega⟩
theorem Dom.one {b l n : Int} (h : Dom b l n) : Dom b l (pw b (l - 1).toNat) := by
  obtain ⟨⟨h1, h2, h3, h4⟩, h5, h6⟩ := h
  have e : l.toNat = (l - 1).toNat + 1 := by omega
  have p := pw_pos (b := b) (by omega) (l - 1).toNat
  refine ⟨⟨h1, h2, h3, h4⟩, by omega, ?_⟩
  rw [e]
  show _ < pw b (l - 1).toNat * b
  have := Int.mul_le_mul_of_nonneg_left h1 (Int.le_of_lt p)
  omega
end Sl
namespace Sl
/-! ### steps again and again: courses -/
def it (f : Int → Int) : Nat → Int → Int
  | 0, n => n
  | k + 1, n => f (it f k n)
theorem it_add (f : Int → Int) (j : Nat) (n : Int) : ∀ k, it f (j + k) n = it f k (it f j n)
  | 0 => rfl
  | k + 1 => by
    show f (it f (j + k) n) = f (it f k (it f j n))
    rw [it_add f j n k]
theorem it_congr {f g : Int → Int} {P : Int → Prop} (hP : ∀ x, P x → f x = g x ∧ P (f x)) {n : Int} (hn : P n) : ∀ k, it f k n = it g k n ∧ P (it f k n)
  | 0 => ⟨rfl, hn⟩
  | k + 1 => by
    obtain ⟨h1, h2⟩ := it_congr hP hn k
    obtain ⟨h3, h4⟩ := hP _ h2
    exact ⟨by show f (it f k n) = g (it g k n); rw [h3, h1], h4⟩
/-- the first m numbers -/
def orb (f : Int → Int) (n : Int) (m : Nat) : List Int := (List.range m).map fun i => it f i n
theorem orb_len (f : Int → Int) (n : Int) (m : Nat) : (orb f n m).length = m := by simp [orb]
theorem orb_succ (f : Int → Int) (n : Int) (m : Nat) : orb f n (m + 1) = orb f n m ++ [it f m n] := by simp [orb, List.range_succ]
theorem orb_get {f : Int → Int} {n : Int} {m i : Nat} (h : i < m) : (orb f n m)[i]? = some (it f i n) := by simp [orb, h]
/-- the first m numbers differ -/
def Apart (f : Int → Int) (n : Int) (m : Nat) : Prop := ∀ i j, i < m → j < m → it f i n = it f j n → i = j
/-- .. and the next one is the c-th again -/
structure Course (f : Int → Int) (n : Int) (m c : Nat) : Prop where
  lt : c < m
  back : it f m n = it f c n
  apart : Apart f n m
theorem Apart.zero (f : Int → Int) (n : Int) : Apart f n 0 := fun _ _ h => absurd h (Nat.not_lt_zero _)
theorem Apart.succ {f : Int → Int} {n : Int} {m : Nat} (h : Apart f n m) (h2 : ∀ c, c < m → it f m n ≠ it f c n) : Apart f n (m + 1) := fun i j hi hj e => by
  by_cases ei : i = m
  · by_cases ej : j = m
    · omega
    · rw [ei] at e
      exact absurd e (h2 j (by omega))
  · by_cases ej : j = m
    · rw [ej] at e
      exact absurd e.symm (h2 i (by omega))
    · exact h i j (by omega) (by omega) e
theorem Course.one {f : Int → Int} {n : Int} {m c m' c' : Nat} (h : Course f n m c) (h' : Course f n m' c') : m = m' ∧ c = c' := by
  have key : ∀ {m c m' c' : Nat}, Course f n m c → Course f n m' c' → m ≤ m' := fun {m c m' c'} h h' => by
    by_cases e : m' < m
    · have := h.apart m' c' e (by have := h'.lt; omega) h'.back
      have := h'.lt
      omega
    · omega
  have e : m = m' := Nat.le_antisymm (key h h') (key h' h)
  subst e
  refine ⟨rfl, ?_⟩
  exact h.apart c c' h.lt h'.lt (h.back.symm.trans h'.back)
theorem Apart.nodup {f : Int → Int} {n : Int} {m : Nat} (h : Apart f n m) : (orb f n m).Nodup := by
  unfold orb
  rw [List.nodup_iff_pairwise_ne, List.pairwise_map]
  refine List.Pairwise.imp_of_mem ?_ List.nodup_range
  intro i j hi hj ne e
  exact ne (h i j (List.mem_range.mp hi) (List.mem_range.mp hj) e)
/-- so many numbers at most, where all steps make numbers of a list -/
theorem Apart.le {f : Int → Int} {n : Int} {m : Nat} (h : Apart f n m) {S : List Int} (hS : ∀ x, f x ∈ S) : m ≤ S.length + 1 := by
  have h1 := h.nodup.length_le_of_subset (l₂ := n :: S) (fun x hx => by
    simp only [orb, List.mem_map, List.mem_range] at hx
    obtain ⟨i, _, rfl⟩ := hx
    cases i with
    | zero => exact List.mem_cons_self
    | succ i => exact List.mem_cons_of_mem _ (hS _))
  rw [orb_len] at h1
  exact h1
/-- behind the beginning the numbers come again -/
theorem Course.per {f : Int → Int} {n : Int} {m c : Nat} (h : Course f n m c) (k : Nat) : it f (c + k) n = it f (c + k % (m - c)) n := by
  have hlt := h.lt
  induction k using Nat.strongRecOn with
  | ind k ih =>
    by_cases hk : k < m - c
    · rw [Nat.mod_eq_of_lt hk]
    · have e1 : it f (c + k) n = it f (c + (k - (m - c))) n := by
        rw [show c + k = m + (k - (m - c)) by omega, it_add, h.back, ← it_add]
      rw [e1, ih (k - (m - c)) (by omega)]
      have e2 : (k - (m - c)) % (m - c) = k % (m - c) := by
        rw [← Nat.mod_eq_sub_mod (by omega)]
      rw [e2]
/-- the place of what comes of s steps -/
def place (m c : Nat) (s : Int) : Int := if s < m then s else c + (s - c) % ((m : Int) - c)
theorem Course.place {f : Int → Int} {n : Int} {m c : Nat} (h : Course f n m c) {s : Int} (hs : 0 ≤ s) : 0 ≤ place m c s ∧ place m c s < m ∧ it f (place m c s).toNat n = it f s.toNat n := by
  have hlt := h.lt
  unfold Sl.place
  by_cases hm : s < m
  · rw [if_pos hm]
    exact ⟨hs, hm, rfl⟩
  · rw [if_neg hm]
    have h0 := Int.emod_nonneg (s - c) (show (m : Int) - c ≠ 0 by omega)
    have h1 := Int.emod_lt_of_pos (s - c) (show 0 < (m : Int) - c by omega)
    refine ⟨by omega, by omega, ?_⟩
    have e1 : s.toNat = c + (s.toNat - c) := by omega
    have e2 : ((c : Int) + (s - c) % ((m : Int) - c)).toNat = c + (s.toNat - c) % (m - c) := by
      have e3 : (((s.toNat - c) % (m - c) : Nat) : Int) = (s - c) % ((m : Int) - c) := by
        rw [Int.natCast_emod]
        congr 1 <;> omega
      omega
    rw [e2, ← h.per, ← e1]
/-! the differences of the greatest and the least figure, and so on -/
def difs (l : List Int) : List Int := ((l.reverse.zip l).take (l.length / 2)).map fun p => p.1 - p.2
/-- what a step makes of such differences -/
def mk (b : Int) : Nat → List Int → Int
  | _, [] => 0
  | L, d :: ds => d * (pw b (L - 1) - 1) + b * mk b (L - 2) ds
theorem difs_peel (x y : Int) (m : List Int) : difs (x :: (m ++ [y])) = (y - x) :: difs m := by
  unfold difs
  rw [rev_peel, List.zip_cons_cons, List.length_cons, List.length_append, List.length_singleton, show (m.length + 1 + 1) / 2 = m.length / 2 + 1 by omega, List.take_succ_cons, List.map_cons]
  rw [List.zip_append (by simp), List.take_append_of_le_length (by simp; omega)]
theorem step_mk (b : Int) (l : List Int) : wr b l.reverse - wr b l = mk b l.length (difs l) := by
  induction l using ends_ind with
  | h0 => rfl
  | h1 x =>
    have e : difs [x] = [] := by simp [difs]
    rw [e]
    show wr b [x] - wr b [x] = 0
    omega
  | h2 x m y ih =>
    rw [diff_peel, difs_peel, ih]
    show _ = (y - x) * (pw b ((x :: (m ++ [y])).length - 1) - 1) + b * mk b ((x :: (m ++ [y])).length - 2) (difs m)
    have e : (x :: (m ++ [y])).length = m.length + 2 := by simp
    rw [e]
    rfl
theorem difs_len (l : List Int) : (difs l).length = l.length / 2 := by
  simp [difs]
  omega
theorem difs_mem {l : List Int} {d : Int} (h : d ∈ difs l) : ∃ x ∈ l, ∃ y ∈ l, d = y - x := by
  simp only [difs, List.mem_map] at h
  obtain ⟨⟨y, x⟩, hp, rfl⟩ := h
  have hz := List.mem_of_mem_take hp
  exact ⟨x, (List.of_mem_zip hz).2, y, List.mem_reverse.mp (List.of_mem_zip hz).1, rfl⟩
theorem difs_falls {b : Int} (l : List Int) : l.Pairwise (· ≤ ·) → Digs b l → (difs l).Pairwise (· ≥ ·) ∧ Digs b (difs l) := by
  induction l using ends_ind with
  | h0 => intro _ _; exact ⟨List.Pairwise.nil, fun _ h => nomatch h⟩
  | h1 x =>
    intro _ _
    have e : difs [x] = [] := by simp [difs]
    rw [e]
    exact ⟨List.Pairwise.nil, fun _ h => nomatch h⟩
  | h2 x m y ih =>
    intro h hd
    obtain ⟨h1, h2⟩ := List.pairwise_cons.mp h
    obtain ⟨h3, _, h4⟩ := List.pairwise_append.mp h2
    have hx := hd x (by simp)
    have hy := hd y (by simp)
    have hxy : x ≤ y := h1 y (by simp)
    obtain ⟨i1, i2⟩ := ih h3 (fun d hm => hd d (by simp [hm]))
    rw [difs_peel]
    refine ⟨List.pairwise_cons.mpr ⟨fun d hm => ?_, i1⟩, fun d hm => ?_⟩
    · obtain ⟨u, hu, v, hv, rfl⟩ := difs_mem hm
      have a1 := h1 u (by simp [hu])
      have a2 := h4 v hv y (by simp)
      show y - x ≥ v - u
      omega
    · rcases List.mem_cons.mp hm with rfl | hm
      · omega
      · exact i2 d hm
/-- all rows of so many figures -/
def ddl (b : Nat) : Nat → List (List Int)
  | 0 => [[]]
  | h + 1 => (List.range b).flatMap fun (d : Nat) => (ddl b h).map fun r => (d : Int) :: r
theorem ddl_len (b : Nat) : ∀ h, (ddl b h).length = b ^ h
  | 0 => rfl
  | h + 1 => by
    have key : ∀ n, ((List.range n).flatMap fun (d : Nat) => (ddl b h).map fun r => (d : Int) :: r).length = n * b ^ h := fun n => by
      induction n with
      | zero => simp
      | succ n ih =>
        rw [List.range_succ, List.flatMap_append, List.length_append, ih, Nat.succ_mul]
        simp [ddl_len b h]
    show ((List.range b).flatMap fun (d : Nat) => (ddl b h).map fun r => (d : Int) :: r).length = _
    rw [key b, Nat.pow_succ, Nat.mul_comm]
theorem ddl_mem {b : Nat} : ∀ {r : List Int}, Digs b r → r ∈ ddl b r.length
  | [], _ => List.mem_singleton.mpr rfl
  | d :: r, h => by
    obtain ⟨⟨h1, h2⟩, h3⟩ := h.cons
    show d :: r ∈ (List.range b).flatMap fun (d : Nat) => (ddl b r.length).map fun r => (d : Int) :: r
    rw [List.mem_flatMap]
    refine ⟨d.toNat, List.mem_range.mpr (by omega), ?_⟩
    rw [List.mem_map]
    exact ⟨r, ddl_mem h3, by rw [Int.toNat_of_nonneg h1]⟩
/-- what a step can make -/
def imgs (b : Int) (L : Nat) : List Int := (ddl b.toNat (L / 2)).map fun r => mk b L r
theorem step_difs (b : Int) (L : Nat) (n : Int) : stepM b L n = mk b L (difs (srt (figs b L n))) := by
  unfold stepM
  rw [step_mk, srt_length, figs_length]
theorem step_imgs {b : Int} (hb : 0 < b) (L : Nat) (n : Int) : stepM b L n ∈ imgs b L := by
  rw [step_difs]
  refine List.mem_map.mpr ⟨_, ?_, rfl⟩
  have d0 : Digs b (srt (figs b L n)) := (figs_digs hb L n).perm (srt_perm _)
  have h := ddl_mem (b := b.toNat) (r := difs (srt (figs b L n))) (by rw [Int.toNat_of_nonneg (Int.le_of_lt hb)]; exact (difs_falls _ (srt_sorted _) d0).2)
  rw [difs_len, srt_length, figs_length] at h
  exact h
theorem imgs_len {b : Int} (h0 : 0 ≤ b) (hb : b ≤ 12) {L : Nat} (hL : L ≤ 8) : (imgs b L).length ≤ 20736 := by
  unfold imgs
  rw [List.length_map, ddl_len]
  have h1 : b.toNat ^ (L / 2) ≤ 12 ^ (L / 2) := Nat.pow_le_pow_left (by omega) _
  have h2 : 12 ^ (L / 2) ≤ 12 ^ 4 := Nat.pow_le_pow_right (by decide) (by omega)
  have h3 : (12 : Nat) ^ 4 = 20736 := by decide
  omega
theorem apart_le {b l n : Int} (h : 2 ≤ b ∧ b ≤ 12 ∧ 1 ≤ l ∧ l ≤ 8) {m : Nat} (ha : Apart (stepM b l.toNat) n m) : m ≤ 20737 := by
  have h1 := ha.le (S := imgs b l.toNat) (fun x => step_imgs (by omega) _ x)
  have h2 := imgs_len (b := b) (by omega) h.2.1 (L := l.toNat) (by omega)
  omega
theorem Dom.it {b l n : Int} (h : Dom b l n) : ∀ k, Dom b l (it (stepM b l.toNat) k n)
  | 0 => h
  | k + 1 => (Dom.it h k).step
/-- a step as the kernel reckons it -/
def cstep (b L : Nat) (n : Int) : Int := wr b (ldn b (figs b L n)) - wr b (lup b (figs b L n))
theorem cstep_eq {b : Nat} (hb : 0 < b) (L : Nat) : cstep b L = stepM b L := funext fun n => step_counts hb L n
theorem it_fix {f : Int → Int} {x : Int} (h : f x = x) : ∀ k, it f k x = x
  | 0 => rfl
  | k + 1 => by
    show f (it f k x) = x
    rw [it_fix h k, h]
end Sl
namespace Sl
/-! ### the round that comes: its least number -/
theorem it_one (f : Int → Int) (k : Nat) (n : Int) : it f (k + 1) n = it f k (f n) := by
  rw [show k + 1 = 1 + k by omega, it_add]
  rfl
theorem it_comm (f : Int → Int) (j k : Nat) (n : Int) : it f j (it f k n) = it f k (it f j n) := by
  rw [← it_add, ← it_add, Nat.add_comm]
theorem it_mul {f : Int → Int} {n : Int} {p : Nat} (h : it f p n = n) : ∀ k, it f (p * k) n = n
  | 0 => rfl
  | k + 1 => by rw [Nat.mul_succ, it_add, it_mul h k, h]
/-- r is the least number of the round that n comes to -/
structure IsLst (f : Int → Int) (n r : Int) : Prop where
  come : ∃ k, it f k n = r
  back : ∃ p, 0 < p ∧ it f p r = r
  least : ∀ j, r ≤ it f j r
/-- on a round each number is reached from each later one -/
theorem back_of {f : Int → Int} {r : Int} {p : Nat} (hp : 0 < p) (h : it f p r = r) (j : Nat) : ∃ k, it f k (it f j r) = r := by
  refine ⟨p * (j + 1) - j, ?_⟩
  have hle : j ≤ p * (j + 1) := Nat.le_trans (Nat.le_succ j) (Nat.le_mul_of_pos_left (j + 1) hp)
  rw [← it_add, show j + (p * (j + 1) - j) = p * (j + 1) by omega, it_mul h]
theorem IsLst.one {f : Int → Int} {n r s : Int} (h : IsLst f n r) (g : IsLst f n s) : r = s := by
  have key : ∀ {r s : Int}, IsLst f n r → IsLst f n s → r ≤ s := fun {r s} h g => by
    obtain ⟨k, hk⟩ := h.come
    obtain ⟨j, hj⟩ := g.come
    obtain ⟨p, hp, hb⟩ := h.back
    obtain ⟨q, hq, gb⟩ := g.back
    -- s comes of r by steps
    by_cases hjk : k ≤ j
    · have e : it f (j - k) r = s := by rw [← hk, ← it_add, show k + (j - k) = j by omega, hj]
      rw [← e]
      exact h.least _
    · have e : it f (k - j) s = r := by rw [← hj, ← it_add, show j + (k - j) = k by omega, hk]
      obtain ⟨i, hi⟩ := back_of hq gb (k - j)
      rw [e] at hi
      rw [← hi]
      exact h.least _
  exact Int.le_antisymm (key h g) (key g h)
theorem IsLst.up {f : Int → Int} {n r : Int} (h : IsLst f (f n) r) : IsLst f n r := by
  obtain ⟨k, hk⟩ := h.come
  exact ⟨⟨k + 1, by rw [it_one, hk]⟩, h.back, h.least⟩
theorem IsLst.down {f : Int → Int} {n r : Int} (h : IsLst f n r) : IsLst f (f n) r := by
  obtain ⟨k, hk⟩ := h.come
  refine ⟨?_, h.back, h.least⟩
  cases k with
  | zero =>
    obtain ⟨p, hp, hb⟩ := h.back
    have e : n = r := hk
    subst e
    exact ⟨p - 1, by rw [← it_one, show p - 1 + 1 = p by omega, hb]⟩
  | succ k => exact ⟨k, by rw [← it_one, hk]⟩
theorem IsLst.ups {f : Int → Int} {n r : Int} : ∀ {k : Nat}, IsLst f (it f k n) r → IsLst f n r
  | 0, h => h
  | k + 1, h => IsLst.ups (k := k) (IsLst.up (n := it f k n) h)
theorem IsLst.downs {f : Int → Int} {n r : Int} (h : IsLst f n r) : ∀ k : Nat, IsLst f (it f k n) r
  | 0 => h
  | k + 1 => IsLst.down (IsLst.downs h k)
theorem IsLst.self {f : Int → Int} {n r : Int} (h : IsLst f n r) : IsLst f r r := ⟨⟨0, rfl⟩, h.back, h.least⟩
/-- the least one of a list -/
def lmin : List Int → Int
  | [] => 0
  | [x] => x
  | x :: y :: l => min x (lmin (y :: l))
theorem lmin_mem : ∀ {l : List Int}, l ≠ [] → lmin l ∈ l
  | [], h => absurd rfl h
  | [x], _ => by simp [lmin]
  | x :: y :: l, _ => by
    have ih := lmin_mem (l := y :: l) (by simp)
    show min x (lmin (y :: l)) ∈ x :: y :: l
    rcases Int.le_total x (lmin (y :: l)) with h | h
    · rw [Int.min_eq_left h]
      exact List.mem_cons_self
    · rw [Int.min_eq_right h]
      exact List.mem_cons_of_mem _ ih
theorem lmin_le : ∀ {l : List Int} {x : Int}, x ∈ l → lmin l ≤ x
  | [], x, h => nomatch h
  | [a], x, h => by
    have : x = a := by simpa using h
    rw [this]
    exact Int.le_refl _
  | a :: b :: l, x, h => by
    show min a (lmin (b :: l)) ≤ x
    rcases List.mem_cons.mp h with e | h
    · rw [e]
      exact Int.min_le_left _ _
    · exact Int.le_trans (Int.min_le_right _ _) (lmin_le h)
theorem lmin_eq {l : List Int} {m : Int} (h : m ∈ l) (h2 : ∀ y ∈ l, m ≤ y) : m = lmin l :=
  Int.le_antisymm (h2 _ (lmin_mem (List.ne_nil_of_mem h))) (lmin_le h)
/-- the round's part of a course -/
def ring (f : Int → Int) (n : Int) (m c : Nat) : List Int := (orb f n m).drop c
theorem ring_eq (f : Int → Int) (n : Int) (m c : Nat) : ring f n m c = orb f (it f c n) (m - c) := by
  unfold ring orb
  refine List.ext_getElem? fun i => ?_
  rw [List.getElem?_drop, List.getElem?_map, List.getElem?_map]
  by_cases h : c + i < m
  · rw [List.getElem?_range h, List.getElem?_range (by omega)]
    simp only [Option.map_some]
    rw [it_add]
  · rw [List.getElem?_eq_none (by simp; omega), List.getElem?_eq_none (by simp; omega)]
    rfl
theorem mem_orb {f : Int → Int} {n x : Int} {m : Nat} : x ∈ orb f n m ↔ ∃ i, i < m ∧ it f i n = x := by
  simp [orb]
theorem Course.lst {f : Int → Int} {n : Int} {m c : Nat} (h : Course f n m c) : IsLst f n (lmin (ring f n m c)) := by
  have hlt := h.lt
  have hne : ring f n m c ≠ [] := by
    rw [ring_eq]
    intro e
    have := congrArg List.length e
    rw [orb_len] at this
    simp at this
    omega
  have hm := lmin_mem hne
  have hb0 : it f (m - c) (it f c n) = it f c n := by
    rw [← it_add, show c + (m - c) = m by omega]
    exact h.back
  have hall : ∀ j, lmin (ring f n m c) ≤ it f j (it f c n) := fun j => by
    refine lmin_le ?_
    rw [ring_eq, mem_orb]
    refine ⟨j % (m - c), Nat.mod_lt _ (by omega), ?_⟩
    have e := h.per j
    rw [it_add, it_add] at e
    exact e.symm
  rw [ring_eq, mem_orb] at hm
  obtain ⟨i, hi, e⟩ := hm
  rw [← ring_eq] at e
  refine ⟨⟨c + i, by rw [it_add, e]⟩, ⟨m - c, by omega, ?_⟩, fun j => ?_⟩
  · rw [← e, it_comm, hb0]
  · have := hall (i + j)
    rw [it_add, e] at this
    exact this
theorem course_ex {f : Int → Int} {S : List Int} (hS : ∀ x, f x ∈ S) (n : Int) : ∃ m c, Course f n m c := by
  have key : ∀ k m, m + k = S.length + 2 → Apart f n m → ∃ m c, Course f n m c := by
    intro k
    induction k with
    | zero =>
      intro m hm ha
      have := ha.le hS
      omega
    | succ k ih =>
      intro m hm ha
      by_cases h : ∃ c, c < m ∧ it f m n = it f c n
      · obtain ⟨c, hc, e⟩ := h
        exact ⟨m, c, hc, e, ha⟩
      · exact ih (m + 1) (by omega) (ha.succ fun c hc e => h ⟨c, hc, e⟩)
  exact key (S.length + 2) 0 (by omega) (Apart.zero f n)
/-- what stands on a round has its course from the beginning on -/
theorem Course.round {f : Int → Int} {r : Int} {m c p : Nat} (h : Course f r m c) (hp : 0 < p) (hb : it f p r = r) : c = 0 := by
  have hlt := h.lt
  by_cases hc : c = 0
  · exact hc
  · have on : ∀ j, it f p (it f j r) = it f j r := fun j => by rw [it_comm, hb]
    have e : it f (c - 1) r = it f (m - 1) r := by
      rw [← on (c - 1), ← on (m - 1), show p = (p - 1) + 1 by omega, it_one, it_one]
      have e1 : f (it f (c - 1) r) = it f c r := by
        show it f (c - 1 + 1) r = _
        rw [show c - 1 + 1 = c by omega]
      have e2 : f (it f (m - 1) r) = it f m r := by
        show it f (m - 1 + 1) r = _
        rw [show m - 1 + 1 = m by omega]
      rw [e1, e2, h.back]
    have := h.apart (c - 1) (m - 1) (by omega) (by omega) e
    omega
theorem IsLst.course {f : Int → Int} {r : Int} {m c : Nat} (g : IsLst f r r) (h : Course f r m c) : c = 0 := by
  obtain ⟨p, hp, hb⟩ := g.back
  exact h.round hp hb
/-- the round of r: all its numbers, from r on -/
theorem IsLst.ring {f : Int → Int} {n r : Int} {m c k : Nat} (hr : IsLst f n r) (h : Course f n m c) (g : Course f r k 0) : k = m - c := by
  have hlt := h.lt
  obtain ⟨j, hj⟩ := hr.come
  obtain ⟨p, hp, hb⟩ := hr.back
  -- the period of r divides .. by both being the fewest
  have b0 : it f (m - c) r = r := by
    have e0 : it f (m - c) (it f c n) = it f c n := by
      rw [← it_add, show c + (m - c) = m by omega]
      exact h.back
    -- r comes of it f c n
    have : ∃ i, it f i (it f c n) = r := by
      obtain ⟨i, hi⟩ := back_of hp hb c
      refine ⟨j + i, ?_⟩
      rw [← it_add, show c + (j + i) = j + (c + i) by omega, it_add, hj, it_add, hi]
    obtain ⟨i, hi⟩ := this
    rw [← hi, it_comm, e0]
  have h1 : k ≤ m - c := by
    by_cases e : m - c < k
    · have := g.apart (m - c) 0 e (by have := g.lt; omega) b0
      omega
    · omega
  have h2 : m - c ≤ k := by
    by_cases e : k < m - c
    · have gb : it f k r = r := g.back
      have e0 : it f (m - c) (it f c n) = it f c n := by
        rw [← it_add, show c + (m - c) = m by omega]
        exact h.back
      -- it f c n comes of r
      have : ∃ i, it f i r = it f c n := by
        obtain ⟨i, hi⟩ := back_of (show 0 < m - c by omega) e0 j
        refine ⟨c + i, ?_⟩
        rw [← hj, ← it_add, show j + (c + i) = c + (j + i) by omega, it_add, it_add, hi]
      obtain ⟨i, hi⟩ := this
      have e1 : it f k (it f c n) = it f c n := by rw [← hi, it_comm, gb]
      rw [← it_add] at e1
      have := h.apart (c + k) c (by omega) hlt e1
      have := g.lt
      omega
    · omega
  omega
theorem orb_cons {f : Int → Int} {n : Int} {m : Nat} (h : 0 < m) : ∃ l, orb f n m = n :: l := by
  cases m with
  | zero => omega
  | succ m =>
    unfold orb
    rw [List.range_succ_eq_map]
    exact ⟨_, rfl⟩
theorem orb_lmin {f : Int → Int} {r : Int} {m : Nat} (h : IsLst f r r) (hm : 0 < m) : lmin (orb f r m) = r := by
  refine (lmin_eq ?_ ?_).symm
  · rw [mem_orb]
    exact ⟨0, hm, rfl⟩
  · intro y hy
    obtain ⟨i, _, rfl⟩ := mem_orb.mp hy
    exact h.least i
theorem step_lst {b l : Int} (h : 2 ≤ b ∧ b ≤ 12 ∧ 1 ≤ l ∧ l ≤ 8) (n : Int) : ∃ r, IsLst (stepM b l.toNat) n r := by
  obtain ⟨m, c, hC⟩ := course_ex (S := imgs b l.toNat) (fun x => step_imgs (by omega) _ x) n
  exact ⟨_, hC.lst⟩
end Sl
namespace Sl
/-! ### differences that don't rise -/
def topD (b : Int) (s : List Int) : Int := s.getLast?.getD (b - 1)
def falls (b : Int) : Nat → List (List Int)
  | 0 => [[]]
  | h + 1 => (falls b h).flatMap fun s => (List.range (topD b s + 1).toNat).map fun (far : Nat) => s ++ [(far : Int)]
/-- they don't rise, and are figures -/
def Fall (b : Int) (s : List Int) : Prop := s.Pairwise (· ≥ ·) ∧ Digs b s
theorem last_le : ∀ {s : List Int} {x y : Int}, s.Pairwise (· ≥ ·) → s.getLast? = some y → x ∈ s → y ≤ x := fun {s x y} hp hl hx => by
  rcases List.eq_nil_or_concat s with e | ⟨m, z, e⟩
  · rw [e] at hx
    cases hx
  · rw [List.concat_eq_append] at e
    subst e
    rw [List.getLast?_concat] at hl
    cases hl
    rcases List.mem_append.mp hx with h | h
    · exact (List.pairwise_append.mp hp).2.2 x h y (by simp)
    · have : x = y := by simpa using h
      omega
theorem fall_snoc {b : Int} (hb : 1 ≤ b) {s : List Int} {d : Int} (hs : Fall b s) : Fall b (s ++ [d]) ↔ 0 ≤ d ∧ d < topD b s + 1 := by
  obtain ⟨h1, h2⟩ := hs
  constructor
  · rintro ⟨g1, g2⟩
    have hd := g2 d (by simp)
    refine ⟨hd.1, ?_⟩
    unfold topD
    cases e : s.getLast? with
    | none => show d < b - 1 + 1; omega
    | some y =>
      have := (List.pairwise_append.mp g1).2.2 y (List.mem_of_getLast? e) d (by simp)
      show d < y + 1
      omega
  · rintro ⟨g1, g2⟩
    have hle : d < b ∧ ∀ x ∈ s, x ≥ d := by
      unfold topD at g2
      cases e : s.getLast? with
      | none =>
        rw [e] at g2
        have g3 : d < b - 1 + 1 := g2
        refine ⟨by omega, fun x hx => ?_⟩
        rw [List.getLast?_eq_none_iff.mp e] at hx
        cases hx
      | some y =>
        rw [e] at g2
        have g3 : d < y + 1 := g2
        have hy := h2 y (List.mem_of_getLast? e)
        refine ⟨by omega, fun x hx => ?_⟩
        have := last_le h1 e hx
        omega
    refine ⟨List.pairwise_append.mpr ⟨h1, List.pairwise_singleton _ _, fun x hx y hy => ?_⟩, fun x hx => ?_⟩
    · have : y = d := by simpa using hy
      rw [this]
      exact hle.2 x hx
    · rcases List.mem_append.mp hx with h | h
      · exact h2 x h
      · have : x = d := by simpa using h
        omega
theorem falls_mem {b : Int} (hb : 1 ≤ b) : ∀ {h : Nat} {s : List Int}, s ∈ falls b h ↔ s.length = h ∧ Fall b s
  | 0, s => by
    constructor
    · intro hs
      have : s = [] := by simpa [falls] using hs
      subst this
      exact ⟨rfl, List.Pairwise.nil, fun _ h => nomatch h⟩
    · rintro ⟨h, _⟩
      have : s = [] := List.length_eq_zero_iff.mp h
      subst this
      simp [falls]
  | h + 1, s => by
    show s ∈ (falls b h).flatMap _ ↔ _
    rw [List.mem_flatMap]
    constructor
    · rintro ⟨r, hr, hs⟩
      obtain ⟨h1, h2⟩ := (falls_mem hb).mp hr
      obtain ⟨far, hf, rfl⟩ := List.mem_map.mp hs
      have := List.mem_range.mp hf
      refine ⟨by simp [h1], (fall_snoc hb h2).mpr ⟨by omega, by omega⟩⟩
    · rintro ⟨hl, hF⟩
      rcases List.eq_nil_or_concat s with e | ⟨m, z, e⟩
      · rw [e] at hl
        cases hl
      · rw [List.concat_eq_append] at e
        subst e
        have hm : Fall b m := ⟨(List.pairwise_append.mp hF.1).1, fun x hx => hF.2 x (by simp [hx])⟩
        obtain ⟨g1, g2⟩ := (fall_snoc hb hm).mp hF
        refine ⟨m, (falls_mem hb).mpr ⟨by simpa using hl, hm⟩, List.mem_map.mpr ⟨z.toNat, List.mem_range.mpr (by omega), ?_⟩⟩
        rw [show ((z.toNat : Nat) : Int) = z by omega]
theorem nodup_flat {α β : Type} {f : α → List β} {l : List α} (h1 : l.Nodup) (h2 : ∀ a ∈ l, (f a).Nodup) (h3 : ∀ a ∈ l, ∀ c ∈ l, ∀ x, x ∈ f a → x ∈ f c → a = c) : (l.flatMap f).Nodup := by
  unfold List.Nodup
  rw [List.pairwise_flatMap]
  refine ⟨h2, List.Pairwise.imp_of_mem ?_ h1⟩
  intro a c ha hc ne x hx y hy e
  subst e
  exact ne (h3 a ha c hc x hx hy)
theorem nodup_map {α β : Type} {f : α → β} {l : List α} (h1 : l.Nodup) (h2 : ∀ a ∈ l, ∀ c ∈ l, f a = f c → a = c) : (l.map f).Nodup := by
  unfold List.Nodup
  rw [List.pairwise_map]
  refine List.Pairwise.imp_of_mem ?_ h1
  intro a c ha hc ne e
  exact ne (h2 a ha c hc e)
theorem falls_nodup (b : Int) : ∀ h, (falls b h).Nodup
  | 0 => by
    show ([[]] : List (List Int)).Nodup
    simp
  | h + 1 => by
    refine nodup_flat (falls_nodup b h) (fun s _ => ?_) (fun s _ t _ x hx hy => ?_)
    · refine nodup_map List.nodup_range fun i _ j _ e => ?_
      have := (List.append_inj' e rfl).2
      simp at this
      omega
    · obtain ⟨i, _, rfl⟩ := List.mem_map.mp hx
      obtain ⟨j, _, e⟩ := List.mem_map.mp hy
      exact (List.append_inj' e rfl).1.symm
theorem falls_len {b : Int} (h0 : 2 ≤ b) (hb : b ≤ 12) {h : Nat} (hh : h ≤ 4) : (falls b h).length ≤ 20736 := by
  have hs : falls b h ⊆ ddl b.toNat h := fun s hs => by
    obtain ⟨h1, h2⟩ := (falls_mem (by omega)).mp hs
    have := ddl_mem (b := b.toNat) (r := s) (by rw [Int.toNat_of_nonneg (by omega)]; exact h2.2)
    rw [h1] at this
    exact this
  have h1 := (falls_nodup b h).length_le_of_subset hs
  rw [ddl_len] at h1
  have h2 : b.toNat ^ h ≤ 12 ^ h := Nat.pow_le_pow_left (by omega) _
  have h3 : 12 ^ h ≤ 12 ^ 4 := Nat.pow_le_pow_right (by decide) (by omega)
  have h4 : (12 : Nat) ^ 4 = 20736 := by decide
  omega
/-! what a step makes of such differences, weight by weight -/
def wgt (b : Int) (L : Nat) (at_ : Nat) : Int := pw b (L - 1 - at_) - pw b at_
/-- the sum from the place a on -/
def dot (b : Int) (L : Nat) : Nat → List Int → Int
  | _, [] => 0
  | a, d :: ds => d * wgt b L a + dot b L (a + 1) ds
theorem dot_snoc (b : Int) (L : Nat) : ∀ (a : Nat) (ds : List Int) (d : Int), dot b L a (ds ++ [d]) = dot b L a ds + d * wgt b L (a + ds.length)
  | a, [], d => by
    show d * wgt b L a + 0 = 0 + d * wgt b L (a + 0)
    rw [Nat.add_zero]
    omega
  | a, x :: ds, d => by
    show x * wgt b L a + dot b L (a + 1) (ds ++ [d]) = x * wgt b L a + dot b L (a + 1) ds + d * wgt b L (a + (ds.length + 1))
    rw [dot_snoc b L (a + 1) ds d, show a + 1 + ds.length = a + (ds.length + 1) by omega]
    omega
theorem wgt_eq {b : Int} {L a : Nat} (h : 2 * a + 1 ≤ L) : wgt b L a = pw b a * (pw b (L - 1 - 2 * a) - 1) := by
  unfold wgt
  rw [Int.mul_sub, Int.mul_one, ← pw_add, show a + (L - 1 - 2 * a) = L - 1 - a by omega]
theorem wgt_pos {b : Int} (hb : 2 ≤ b) {L a : Nat} (h : 2 * a + 2 ≤ L) : 0 < wgt b L a := by
  rw [wgt_eq (by omega)]
  refine Int.mul_pos (pw_pos (by omega) a) ?_
  have h1 := pw_up (b := b) (by omega) (show 1 ≤ L - 1 - 2 * a by omega)
  have h2 : pw b 1 = 1 * b := rfl
  omega
theorem dot_mk {b : Int} {L : Nat} : ∀ (ds : List Int) (a : Nat), 2 * (a + ds.length) ≤ L → dot b L a ds = pw b a * mk b (L - 2 * a) ds
  | [], a, _ => by
    show (0 : Int) = pw b a * 0
    omega
  | d :: ds, a, h => by
    have h' : 2 * (a + (ds.length + 1)) ≤ L := h
    show d * wgt b L a + dot b L (a + 1) ds = pw b a * (d * (pw b (L - 2 * a - 1) - 1) + b * mk b (L - 2 * a - 2) ds)
    rw [dot_mk ds (a + 1) (by omega), wgt_eq (by omega), show L - 2 * (a + 1) = L - 2 * a - 2 by omega, show L - 1 - 2 * a = L - 2 * a - 1 by omega]
    show d * (pw b a * (pw b (L - 2 * a - 1) - 1)) + pw b a * b * mk b (L - 2 * a - 2) ds = _
    generalize mk b (L - 2 * a - 2) ds = M
    generalize pw b (L - 2 * a - 1) - 1 = W
    generalize pw b a = P
    rw [Int.mul_add, ← Int.mul_assoc, ← Int.mul_assoc, ← Int.mul_assoc, Int.mul_comm d P]
theorem mk_bound {b : Int} (hb : 2 ≤ b) : ∀ (ds : List Int) (L : Nat), 2 * ds.length ≤ L → Digs b ds → 0 ≤ mk b L ds ∧ mk b L ds < pw b L
  | [], L, _, _ => ⟨Int.le_refl _, pw_pos (by omega) L⟩
  | d :: ds, L, h, hd => by
    have h' : 2 * (ds.length + 1) ≤ L := h
    obtain ⟨⟨d0, d1⟩, hd2⟩ := hd.cons
    obtain ⟨i0, i1⟩ := mk_bound hb ds (L - 2) (by omega) hd2
    show 0 ≤ d * (pw b (L - 1) - 1) + b * mk b (L - 2) ds ∧ d * (pw b (L - 1) - 1) + b * mk b (L - 2) ds < pw b L
    have e1 : pw b L = b * pw b (L - 1) := by rw [← pw_succ', show L - 1 + 1 = L by omega]
    have e2 : pw b (L - 1) = b * pw b (L - 2) := by rw [← pw_succ', show L - 2 + 1 = L - 1 by omega]
    have p1 := pw_pos (b := b) (by omega) (L - 1)
    have a1 : d * (pw b (L - 1) - 1) ≤ (b - 1) * (pw b (L - 1) - 1) := Int.mul_le_mul_of_nonneg_right (by omega) (by omega)
    have a2 : 0 ≤ d * (pw b (L - 1) - 1) := Int.mul_nonneg d0 (by omega)
    have a3 : b * mk b (L - 2) ds ≤ b * (pw b (L - 2) - 1) := Int.mul_le_mul_of_nonneg_left (by omega) (by omega)
    have a4 : 0 ≤ b * mk b (L - 2) ds := Int.mul_nonneg (by omega) i0
    rw [Int.mul_sub, ← e2, Int.mul_one] at a3
    have a5 : (b - 1) * (pw b (L - 1) - 1) = pw b L - b - (pw b (L - 1) - 1) := by rw [Int.sub_mul, Int.mul_sub, ← e1, Int.mul_one, Int.one_mul]
    omega
/-! the weightiest first -/
def grd (b : Int) (L : Nat) : Nat → Nat → Int → List Int
  | 0, _, _ => []
  | k + 1, a, n => (n / wgt b L a) :: grd b L k (a + 1) (n % wgt b L a)
def rst (b : Int) (L : Nat) : Nat → Nat → Int → Int
  | 0, _, n => n
  | k + 1, a, n => rst b L k (a + 1) (n % wgt b L a)
theorem grd_len (b : Int) (L : Nat) : ∀ k a n, (grd b L k a n).length = k
  | 0, _, _ => rfl
  | k + 1, a, n => by
    show (grd b L k (a + 1) (n % wgt b L a)).length + 1 = k + 1
    rw [grd_len b L k]
theorem rst_snoc (b : Int) (L : Nat) : ∀ k a n, rst b L (k + 1) a n = rst b L k a n % wgt b L (a + k)
  | 0, a, n => rfl
  | k + 1, a, n => by
    show rst b L (k + 1) (a + 1) (n % wgt b L a) = rst b L k (a + 1) (n % wgt b L a) % wgt b L (a + (k + 1))
    rw [rst_snoc b L k (a + 1), show a + 1 + k = a + (k + 1) by omega]
theorem grd_snoc (b : Int) (L : Nat) : ∀ k a n, grd b L (k + 1) a n = grd b L k a n ++ [rst b L k a n / wgt b L (a + k)]
  | 0, a, n => rfl
  | k + 1, a, n => by
    show (n / wgt b L a) :: grd b L (k + 1) (a + 1) (n % wgt b L a) = ((n / wgt b L a) :: grd b L k (a + 1) (n % wgt b L a)) ++ [rst b L k (a + 1) (n % wgt b L a) / wgt b L (a + (k + 1))]
    rw [grd_snoc b L k (a + 1), show a + 1 + k = a + (k + 1) by omega]
    rfl
theorem grd_dot (b : Int) (L : Nat) : ∀ k a n, dot b L a (grd b L k a n) + rst b L k a n = n
  | 0, a, n => by
    show 0 + n = n
    omega
  | k + 1, a, n => by
    show (n / wgt b L a) * wgt b L a + dot b L (a + 1) (grd b L k (a + 1) (n % wgt b L a)) + rst b L k (a + 1) (n % wgt b L a) = n
    have := grd_dot b L k (a + 1) (n % wgt b L a)
    have e := Int.mul_ediv_add_emod n (wgt b L a)
    rw [Int.mul_comm] at e
    omega
/-- whatever differences make n are found -/
theorem grd_full {b : Int} (hb : 2 ≤ b) {L : Nat} : ∀ (ds : List Int) (a : Nat), 2 * (a + ds.length) ≤ L → Digs b ds → grd b L ds.length a (dot b L a ds) = ds ∧ rst b L ds.length a (dot b L a ds) = 0
  | [], a, _, _ => ⟨rfl, rfl⟩
  | d :: ds, a, h, hd => by
    have h' : 2 * (a + (ds.length + 1)) ≤ L := h
    obtain ⟨⟨d0, d1⟩, hd2⟩ := hd.cons
    have hw := wgt_pos (b := b) hb (L := L) (a := a) (by omega)
    have hr : 0 ≤ dot b L (a + 1) ds ∧ dot b L (a + 1) ds < wgt b L a := by
      obtain ⟨m0, m1⟩ := mk_bound hb ds (L - 2 * (a + 1)) (by omega) hd2
      rw [dot_mk ds (a + 1) (by omega), wgt_eq (by omega)]
      have p := pw_pos (b := b) (by omega) a
      show 0 ≤ pw b a * b * _ ∧ pw b a * b * mk b (L - 2 * (a + 1)) ds < _
      rw [Int.mul_assoc]
      refine ⟨Int.mul_nonneg (Int.le_of_lt p) (Int.mul_nonneg (by omega) m0), Int.mul_lt_mul_of_pos_left ?_ p⟩
      have a3 : b * mk b (L - 2 * (a + 1)) ds ≤ b * (pw b (L - 2 * (a + 1)) - 1) := Int.mul_le_mul_of_nonneg_left (by omega) (by omega)
      rw [Int.mul_sub, ← pw_succ', show L - 2 * (a + 1) + 1 = L - 1 - 2 * a by omega] at a3
      omega
    have e1 : (d * wgt b L a + dot b L (a + 1) ds) / wgt b L a = d := by
      rw [Int.add_comm, Int.add_mul_ediv_right _ _ (by omega), Int.ediv_eq_zero_of_lt hr.1 hr.2]
      omega
    have e2 : (d * wgt b L a + dot b L (a + 1) ds) % wgt b L a = dot b L (a + 1) ds := by
      rw [Int.add_comm, Int.add_mul_emod_self_right, Int.emod_eq_of_lt hr.1 hr.2]
    obtain ⟨i1, i2⟩ := grd_full hb (L := L) ds (a + 1) (by omega) hd2
    show (d * wgt b L a + dot b L (a + 1) ds) / wgt b L a :: grd b L ds.length (a + 1) ((d * wgt b L a + dot b L (a + 1) ds) % wgt b L a) = d :: ds ∧ rst b L ds.length (a + 1) ((d * wgt b L a + dot b L (a + 1) ds) % wgt b L a) = 0
    rw [e1, e2, i1]
    exact ⟨rfl, i2⟩
theorem mk_inj {b : Int} (hb : 2 ≤ b) {L : Nat} {ds es : List Int} (h : ds.length = es.length) (hL : 2 * ds.length ≤ L) (hd : Digs b ds) (he : Digs b es) (e : mk b L ds = mk b L es) : ds = es := by
  have d1 := dot_mk (b := b) (L := L) ds 0 (by omega)
  have d2 := dot_mk (b := b) (L := L) es 0 (by omega)
  have e2 : dot b L 0 ds = dot b L 0 es := by rw [d1, d2, Nat.mul_zero, Nat.sub_zero, e]
  have g1 := (grd_full hb (L := L) ds 0 (by omega) hd).1
  have g2 := (grd_full hb (L := L) es 0 (by omega) he).1
  rw [e2, h, g2] at g1
  exact g1.symm
theorem dot0 {b : Int} {L : Nat} {ds : List Int} (h : 2 * ds.length ≤ L) : dot b L 0 ds = mk b L ds := by
  rw [dot_mk ds 0 (by omega), Nat.mul_zero, Nat.sub_zero]
  show 1 * _ = _
  rw [Int.one_mul]
/-! a number of such differences: they themselves, then noughts -/
theorem difs_zeros : ∀ (L : Nat), difs (List.replicate L (0 : Int)) = List.replicate (L / 2) 0
  | 0 => rfl
  | 1 => rfl
  | L + 2 => by
    have e : List.replicate (L + 2) (0 : Int) = 0 :: (List.replicate L 0 ++ [0]) := by
      rw [List.replicate_succ, List.replicate_succ']
    rw [e, difs_peel, difs_zeros L, show (L + 2) / 2 = L / 2 + 1 by omega, List.replicate_succ]
    rfl
/-- noughts, then the differences from the least on -/
theorem difs_made : ∀ (ds : List Int) (z : Nat), ds.length ≤ z → z ≤ ds.length + 1 → difs (List.replicate z (0 : Int) ++ ds.reverse) = ds
  | [], z, _, h => by
    have : z = 0 ∨ z = 1 := by
      simp at h
      omega
    rcases this with rfl | rfl <;> rfl
  | d :: ds, z, h1, h2 => by
    simp at h1 h2
    obtain ⟨y, rfl⟩ : ∃ y, z = y + 1 := ⟨z - 1, by omega⟩
    have e : List.replicate (y + 1) (0 : Int) ++ (d :: ds).reverse = 0 :: ((List.replicate y 0 ++ ds.reverse) ++ [d]) := by
      rw [List.replicate_succ, List.reverse_cons]
      simp
    rw [e, difs_peel, difs_made ds y (by omega) (by omega), Int.sub_zero]
theorem made_step {b : Int} (hb : 2 ≤ b) {L : Nat} {ds : List Int} (hl : ds.length = L / 2) (hF : Fall b ds) :
    (0 ≤ wr b (ds ++ List.replicate (L - ds.length) 0) ∧ wr b (ds ++ List.replicate (L - ds.length) 0) < pw b L) ∧ stepM b L (wr b (ds ++ List.replicate (L - ds.length) 0)) = mk b L ds := by
  have hlen : (ds ++ List.replicate (L - ds.length) (0 : Int)).length = L := by
    simp
    omega
  have hD : Digs b (ds ++ List.replicate (L - ds.length) 0) := fun x hx => by
    rcases List.mem_append.mp hx with h | h
    · exact hF.2 x h
    · rw [(List.mem_replicate.mp h).2]
      omega
  have w := wr_bound (b := b) (by omega) hD
  rw [hlen] at w
  refine ⟨w, ?_⟩
  have hDr : Digs b (ds ++ List.replicate (L - ds.length) 0).reverse := hD.perm (List.reverse_perm _)
  have f := figs_wr (b := b) (by omega) hDr
  rw [List.reverse_reverse, List.length_reverse, hlen] at f
  rw [step_difs, f]
  congr 1
  have e : (ds ++ List.replicate (L - ds.length) (0 : Int)).reverse = List.replicate (L - ds.length) 0 ++ ds.reverse := by
    rw [List.reverse_append, List.reverse_replicate]
  have s : srt (ds ++ List.replicate (L - ds.length) (0 : Int)).reverse = List.replicate (L - ds.length) 0 ++ ds.reverse := by
    rw [e]
    refine (srt_of (List.Perm.refl _) (List.pairwise_append.mpr ⟨List.pairwise_replicate.mpr (.inr (Int.le_refl _)), ?_, fun x hx y hy => ?_⟩)).symm
    · rw [List.pairwise_reverse]
      exact hF.1
    · rw [(List.mem_replicate.mp hx).2]
      exact (hF.2 y (List.mem_reverse.mp hy)).1
  rw [s]
  exact difs_made ds _ (by omega) (by omega)
theorem fall_of_step {b : Int} (hb : 0 < b) (L : Nat) (n : Int) : difs (srt (figs b L n)) ∈ falls b (L / 2) := by
  have d0 : Digs b (srt (figs b L n)) := (figs_digs hb L n).perm (srt_perm _)
  refine (falls_mem (by omega)).mpr ⟨by rw [difs_len, srt_length, figs_length], difs_falls _ (srt_sorted _) d0⟩
/-- numbers from one up to another -/
def rng (lo hi : Int) : List Int := (List.range (hi - lo).toNat).map fun (i : Nat) => lo + (i : Int)
theorem rng_mem {lo hi x : Int} : x ∈ rng lo hi ↔ lo ≤ x ∧ x < hi := by
  unfold rng
  rw [List.mem_map]
  constructor
  · rintro ⟨i, hi, rfl⟩
    have := List.mem_range.mp hi
    omega
  · rintro ⟨h1, h2⟩
    exact ⟨(x - lo).toNat, List.mem_range.mpr (by omega), by omega⟩
theorem rng_nodup (lo hi : Int) : (rng lo hi).Nodup := nodup_map List.nodup_range fun i _ j _ e => by omega
end Sl
namespace Sl
/-! ### how many numbers have given differences -/
def fct : Nat → Nat
  | 0 => 1
  | n + 1 => fct n * (n + 1)
theorem fct_pos : ∀ n, 0 < fct n
  | 0 => by decide
  | n + 1 => Nat.mul_pos (fct_pos n) (Nat.succ_pos n)
/-- how often each figure is there: the product of their factorials -/
def pf (l : List Int) : Nat → Nat
  | 0 => 1
  | k + 1 => pf l k * fct (l.count (k : Int))
theorem pf_pos (l : List Int) : ∀ k, 0 < pf l k
  | 0 => Nat.one_pos
  | k + 1 => Nat.mul_pos (pf_pos l k) (fct_pos _)
theorem pf_perm {l r : List Int} (p : l.Perm r) : ∀ k, pf l k = pf r k
  | 0 => rfl
  | k + 1 => by
    show pf l k * fct (l.count (k : Int)) = pf r k * fct (r.count (k : Int))
    rw [pf_perm p k, p.count_eq]
theorem pf_cons_out (d : Int) (l : List Int) : ∀ k : Nat, ¬ (0 ≤ d ∧ d < (k : Int)) → pf (d :: l) k = pf l k
  | 0, _ => rfl
  | k + 1, h => by
    show pf (d :: l) k * fct ((d :: l).count (k : Int)) = pf l k * fct (l.count (k : Int))
    rw [pf_cons_out d l k (by omega), List.count_cons_of_ne (by omega)]
theorem pf_cons (d : Int) (l : List Int) : ∀ k : Nat, 0 ≤ d → d < (k : Int) → pf (d :: l) k = pf l k * (d :: l).count d
  | 0, h0, h1 => by omega
  | k + 1, h0, h1 => by
    show pf (d :: l) k * fct ((d :: l).count (k : Int)) = pf l k * fct (l.count (k : Int)) * (d :: l).count d
    by_cases e : d = (k : Int)
    · subst e
      rw [pf_cons_out _ l k (by omega), List.count_cons_self]
      show pf l k * (fct (l.count (k : Int)) * (l.count (k : Int) + 1)) = _
      rw [Nat.mul_assoc]
    · rw [pf_cons d l k h0 (by omega), List.count_cons_of_ne (b := d) (a := (k : Int)) (by omega), Nat.mul_assoc, Nat.mul_assoc, Nat.mul_comm (fct _)]
/-- how many rows of so many figures are those of r in some turn -/
def cnt (b L : Nat) (r : List Int) : Nat := (ddl b L).countP fun l => l.isPerm r
theorem countP_congr' {α : Type} {p q : α → Bool} {l : List α} (h : ∀ x ∈ l, p x = q x) : l.countP p = l.countP q := by
  induction l with
  | nil => rfl
  | cons a l ih =>
    rw [List.countP_cons, List.countP_cons, h a (by simp), ih fun x hx => h x (by simp [hx])]
theorem cnt_succ (b L : Nat) (r : List Int) : cnt b (L + 1) r = ((List.range b).map fun (d : Nat) => if r.contains (d : Int) then cnt b L (r.erase (d : Int)) else 0).sum := by
  unfold cnt
  show List.countP _ ((List.range b).flatMap fun (d : Nat) => (ddl b L).map fun r => (d : Int) :: r) = _
  rw [List.countP_flatMap]
  congr 1
  refine List.map_congr_left fun d _ => ?_
  show List.countP _ ((ddl b L).map fun r => (d : Int) :: r) = _
  rw [List.countP_map]
  by_cases h : (d : Int) ∈ r
  · rw [if_pos (by simpa using h)]
    refine countP_congr' fun l _ => ?_
    show ((d : Int) :: l).isPerm r = l.isPerm (r.erase (d : Int))
    show (r.contains (d : Int) && l.isPerm (r.erase (d : Int))) = _
    rw [show r.contains (d : Int) = true by simpa using h, Bool.true_and]
  · rw [if_neg (by simpa using h)]
    rw [List.countP_eq_zero]
    intro l _
    show ¬ (r.contains (d : Int) && l.isPerm (r.erase (d : Int))) = true
    rw [show r.contains (d : Int) = false by simpa using h]
    simp
theorem sum_counts {b : Nat} {r : List Int} (h : Digs b r) : ((List.range b).map fun (d : Nat) => r.count (d : Int)).sum = r.length := by
  have e := (List.perm_iff_count.mpr fun d => lup_count h d : (lup b r).Perm r).length_eq
  unfold lup at e
  rw [List.length_flatMap] at e
  simpa using e
theorem sum_mul {c : Nat} (g : Nat → Nat) : ∀ l : List Nat, (l.map g).sum * c = (l.map fun d => g d * c).sum
  | [] => by simp
  | a :: l => by
    rw [List.map_cons, List.map_cons, List.sum_cons, List.sum_cons, Nat.add_mul, sum_mul g l]
theorem cnt_fct {b : Nat} : ∀ (L : Nat) (r : List Int), r.length = L → Digs b r → cnt b L r * pf r b = fct L
  | 0, r, h, _ => by
    have : r = [] := List.length_eq_zero_iff.mp h
    subst this
    have : ∀ k, pf [] k = 1 := fun k => by
      induction k with
      | zero => rfl
      | succ k ih =>
        show pf [] k * fct 0 = 1
        rw [ih]
        rfl
    rw [this]
    rfl
  | L + 1, r, h, hd => by
    rw [cnt_succ, sum_mul]
    have e : ((List.range b).map fun (d : Nat) => (if r.contains (d : Int) then cnt b L (r.erase (d : Int)) else 0) * pf r b) = (List.range b).map fun (d : Nat) => r.count (d : Int) * fct L := by
      refine List.map_congr_left fun d hdb => ?_
      have hlt := List.mem_range.mp hdb
      by_cases hm : (d : Int) ∈ r
      · rw [if_pos (by simpa using hm)]
        have p := List.perm_cons_erase hm
        have ih := cnt_fct L (r.erase (d : Int)) (by rw [List.length_erase_of_mem hm, h]; omega) (fun x hx => hd x (List.mem_of_mem_erase hx))
        rw [pf_perm p b, pf_cons _ _ b (by omega) (by omega), ← p.count_eq, ← Nat.mul_assoc, ih, Nat.mul_comm]
      · rw [if_neg (by simpa using hm), List.count_eq_zero.mpr hm, Nat.zero_mul, Nat.zero_mul]
    rw [e, ← sum_mul, sum_counts hd, h, Nat.mul_comm]
    rfl
theorem cnt_perm {b L : Nat} {r s : List Int} (p : r.Perm s) : cnt b L r = cnt b L s := by
  refine countP_congr' fun l _ => ?_
  have : l.isPerm r = true ↔ l.isPerm s = true := by
    rw [List.isPerm_iff, List.isPerm_iff]
    exact ⟨fun h => h.trans p, fun h => h.trans p.symm⟩
  cases h1 : l.isPerm r <;> cases h2 : l.isPerm s <;> simp_all
/-! turn by turn, from the end -/
def alkR : List Int → Nat
  | [] => 0
  | [_] => 1
  | x :: y :: l => if y = x then alkR (y :: l) + 1 else 1
def trnR : List Int → Int
  | [] => 1
  | x :: l => trnR l * ((l.length : Int) + 1) / (alkR (x :: l) : Int)
def trn (l : List Int) : Int := trnR l.reverse
theorem alk_count : ∀ {l : List Int} {x : Int}, (x :: l).Pairwise (· ≥ ·) → alkR (x :: l) = (x :: l).count x
  | [], x, _ => by simp [alkR]
  | y :: l, x, h => by
    obtain ⟨h1, h2⟩ := List.pairwise_cons.mp h
    show (if y = x then alkR (y :: l) + 1 else 1) = _
    by_cases e : y = x
    · subst e
      rw [if_pos rfl, alk_count h2, List.count_cons_self, List.count_cons_self (a := y) (l := y :: l), List.count_cons_self]
    · rw [if_neg e, List.count_cons_self]
      have hz : (y :: l).count x = 0 := List.count_eq_zero.mpr fun hm => by
        have g1 := h1 y (by simp)
        rcases List.mem_cons.mp hm with g | g
        · exact e g.symm
        · have := (List.pairwise_cons.mp h2).1 x g
          exact e (Int.le_antisymm g1 this)
      rw [hz]
theorem trn_cnt {b : Nat} : ∀ (l : List Int), l.Pairwise (· ≥ ·) → Digs b l → trnR l = (cnt b l.length l : Int)
  | [], _, _ => by
    have := cnt_fct (b := b) 0 [] rfl (fun _ h => nomatch h)
    show (1 : Int) = _
    have p := pf_pos [] b
    have : cnt b 0 [] = 1 := by
      show List.countP _ [[]] = 1
      rfl
    rw [show ([] : List Int).length = 0 from rfl, this]
    rfl
  | x :: l, h, hd => by
    obtain ⟨h1, h2⟩ := List.pairwise_cons.mp h
    obtain ⟨⟨x0, x1⟩, hd2⟩ := hd.cons
    have ih := trn_cnt l h2 hd2
    have c1 := cnt_fct (b := b) l.length l rfl hd2
    have c2 := cnt_fct (b := b) (l.length + 1) (x :: l) rfl hd
    have p := pf_pos l b
    rw [pf_cons x l b x0 x1, ← alk_count h] at c2
    have e : cnt b (l.length + 1) (x :: l) * alkR (x :: l) = cnt b l.length l * (l.length + 1) := by
      refine Nat.eq_of_mul_eq_mul_right p ?_
      rw [Nat.mul_assoc, Nat.mul_comm (alkR (x :: l)), c2]
      show fct l.length * (l.length + 1) = _
      rw [← c1, Nat.mul_assoc, Nat.mul_assoc, Nat.mul_comm (pf l b)]
    have a0 : 0 < alkR (x :: l) := by
      rw [alk_count h, List.count_cons_self]
      omega
    show trnR l * ((l.length : Int) + 1) / (alkR (x :: l) : Int) = (cnt b (l.length + 1) (x :: l) : Int)
    rw [ih]
    have e2 : ((cnt b l.length l : Nat) : Int) * ((l.length : Int) + 1) = ((cnt b (l.length + 1) (x :: l) : Nat) : Int) * ((alkR (x :: l) : Nat) : Int) := by
      exact_mod_cast e.symm
    rw [e2, Int.mul_ediv_cancel _ (by omega)]
theorem trn_eq {b : Nat} {r : List Int} (h : r.Pairwise (· ≤ ·)) (hd : Digs b r) : trn r = (cnt b r.length r : Int) := by
  unfold trn
  rw [trn_cnt (b := b) r.reverse (by rw [List.pairwise_reverse]; exact h) (hd.perm (List.reverse_perm _)), List.length_reverse, cnt_perm (List.reverse_perm _)]
/-! numbers and rows -/
theorem figs_inj {b : Int} (hb : 0 < b) {L : Nat} {n m : Int} (hn : 0 ≤ n ∧ n < pw b L) (hm : 0 ≤ m ∧ m < pw b L) (e : figs b L n = figs b L m) : n = m := by
  rw [← wr_figs hb L n hn.1 hn.2, e, wr_figs hb L m hm.1 hm.2]
theorem ddl_nodup (b : Nat) : ∀ h, (ddl b h).Nodup
  | 0 => by
    show ([[]] : List (List Int)).Nodup
    simp
  | h + 1 => by
    refine nodup_flat List.nodup_range (fun d _ => ?_) (fun d _ e _ x hx hy => ?_)
    · exact nodup_map (ddl_nodup b h) fun r _ s _ e => (List.cons.inj e).2
    · obtain ⟨r, _, rfl⟩ := List.mem_map.mp hx
      obtain ⟨s, _, q⟩ := List.mem_map.mp hy
      have := (List.cons.inj q).1
      omega
theorem ddl_iff {b : Nat} : ∀ {h : Nat} {r : List Int}, r ∈ ddl b h ↔ r.length = h ∧ Digs b r
  | 0, r => by
    constructor
    · intro hr
      have : r = [] := by simpa [ddl] using hr
      subst this
      exact ⟨rfl, fun _ h => nomatch h⟩
    · rintro ⟨h, _⟩
      rw [List.length_eq_zero_iff.mp h]
      simp [ddl]
  | h + 1, r => by
    constructor
    · intro hr
      have hr' : r ∈ (List.range b).flatMap fun (d : Nat) => (ddl b h).map fun r => (d : Int) :: r := hr
      rw [List.mem_flatMap] at hr'
      obtain ⟨d, hd, hr2⟩ := hr'
      obtain ⟨s, hs, rfl⟩ := List.mem_map.mp hr2
      obtain ⟨h1, h2⟩ := ddl_iff.mp hs
      have := List.mem_range.mp hd
      refine ⟨by simp [h1], fun x hx => ?_⟩
      rcases List.mem_cons.mp hx with e | hx
      · omega
      · exact h2 x hx
    · rintro ⟨h1, h2⟩
      have := ddl_mem h2
      rw [h1] at this
      exact this
theorem pw_nat (b : Nat) : ∀ L, pw (b : Int) L = ((b ^ L : Nat) : Int)
  | 0 => rfl
  | L + 1 => by
    show pw (b : Int) L * (b : Int) = _
    rw [pw_nat b L, Nat.pow_succ]
    omega
/-- all numbers of a base and a length -/
def nums (b L : Nat) : List Int := (List.range (b ^ L)).map fun (n : Nat) => (n : Int)
theorem nums_mem {b L : Nat} {n : Int} : n ∈ nums b L ↔ 0 ≤ n ∧ n < pw (b : Int) L := by
  rw [pw_nat]
  unfold nums
  rw [List.mem_map]
  constructor
  · rintro ⟨k, hk, rfl⟩
    have := List.mem_range.mp hk
    omega
  · rintro ⟨h0, h1⟩
    exact ⟨n.toNat, List.mem_range.mpr (by omega), by omega⟩
theorem nums_nodup (b L : Nat) : (nums b L).Nodup := nodup_map List.nodup_range fun i _ j _ e => by omega
theorem nums_len (b L : Nat) : (nums b L).length = b ^ L := by simp [nums]
theorem nums_figs {b : Nat} (hb : 0 < b) (L : Nat) : ((nums b L).map (figs b L)).Perm (ddl b L) := by
  refine (List.perm_ext_iff_of_nodup (nodup_map (nums_nodup b L) fun n hn m hm e => figs_inj (by omega) (nums_mem.mp hn) (nums_mem.mp hm) e) (ddl_nodup b L)).mpr fun r => ?_
  rw [List.mem_map, ddl_iff]
  constructor
  · rintro ⟨n, _, rfl⟩
    exact ⟨figs_length _ _ _, figs_digs (by omega) _ _⟩
  · rintro ⟨h1, h2⟩
    refine ⟨wr b r.reverse, nums_mem.mpr ?_, ?_⟩
    · have := wr_bound (b := (b : Int)) (by omega) (h2.perm (List.reverse_perm _))
      rw [List.length_reverse, h1] at this
      exact this
    · have := figs_wr (b := (b : Int)) (by omega) h2
      rw [h1] at this
      exact this
theorem count_nums {b : Nat} (hb : 0 < b) (L : Nat) (p : List Int → Bool) : ((nums b L).countP fun n => p (figs b L n)) = (ddl b L).countP p := by
  rw [← (nums_figs hb L).countP_eq p, List.countP_map]
  rfl
/-- rows gathered by what sorting makes of them -/
theorem count_rows {p : List Int → Bool} {R : List (List Int)} (hR : R.Nodup) : ∀ (D : List (List Int)), (∀ l ∈ D, p (srt l) = true ↔ srt l ∈ R) →
    (D.countP fun l => p (srt l)) = (R.map fun r => D.countP fun l => decide (srt l = r)).sum
  | [], _ => by
    have : ∀ R : List (List Int), (R.map fun _ => 0).sum = 0 := fun R => by
      induction R with
      | nil => rfl
      | cons a R ih => rw [List.map_cons, List.sum_cons, ih]
    show 0 = _
    exact (this R).symm
  | l :: D, h => by
    have ih := count_rows hR D fun x hx => h x (by simp [hx])
    have hl := h l (by simp)
    rw [List.countP_cons, ih]
    have e : (R.map fun r => (l :: D).countP fun l => decide (srt l = r)) = R.map fun r => (D.countP fun l => decide (srt l = r)) + (if decide (srt l = r) = true then 1 else 0) := by
      refine List.map_congr_left fun r _ => ?_
      rw [List.countP_cons]
    rw [e]
    have add : ∀ (g k : List Int → Nat) (R : List (List Int)), (R.map fun r => g r + k r).sum = (R.map g).sum + (R.map k).sum := fun g k R => by
      induction R with
      | nil => rfl
      | cons a R ih =>
        rw [List.map_cons, List.map_cons, List.map_cons, List.sum_cons, List.sum_cons, List.sum_cons, ih]
        omega
    rw [add]
    congr 1
    have one : ∀ R : List (List Int), R.Nodup → (R.map fun r => if decide (srt l = r) = true then 1 else 0).sum = if srt l ∈ R then 1 else 0 := fun R => by
      induction R with
      | nil => intro _; simp
      | cons a R ih =>
        intro hn
        obtain ⟨n1, n2⟩ := List.nodup_cons.mp hn
        rw [List.map_cons, List.sum_cons, ih n2]
        by_cases e : srt l = a
        · rw [e, if_pos (by simp), if_neg n1, if_pos (by simp)]
        · rw [if_neg (by simpa using e)]
          by_cases m : srt l ∈ R
          · rw [if_pos m, if_pos (by simp [m])]
          · rw [if_neg m, if_neg (by simp [m, e])]
    rw [one R hR]
    by_cases g : p (srt l) = true
    · rw [if_pos g, if_pos (hl.mp g)]
    · rw [if_neg g, if_neg fun q => g (hl.mpr q)]
theorem srt_isPerm {l r : List Int} (hr : r.Pairwise (· ≤ ·)) : decide (srt l = r) = l.isPerm r := by
  by_cases h : srt l = r
  · rw [decide_eq_true h]
    exact (List.isPerm_iff.mpr (h ▸ (srt_perm l).symm)).symm
  · rw [decide_eq_false h]
    cases e : l.isPerm r with
    | false => rfl
    | true => exact absurd (srt_of (List.isPerm_iff.mp e).symm hr).symm h
/-- of how many numbers the sorted figures are one of R -/
theorem count_trn {b : Nat} (hb : 0 < b) {L : Nat} {p : List Int → Bool} {R : List (List Int)} (hR : R.Nodup) (h : ∀ r, r ∈ R ↔ (r.length = L ∧ r.Pairwise (· ≤ ·) ∧ Digs b r) ∧ p r = true) :
    (((nums b L).countP fun n => p (srt (figs b L n)) : Nat) : Int) = (R.map trn).sum := by
  rw [count_nums hb L fun l => p (srt l)]
  rw [count_rows hR (ddl b L) fun l hl => ?_]
  · have e : ∀ Q : List (List Int), (∀ r ∈ Q, r ∈ R) → (((Q.map fun r => (ddl b L).countP fun l => decide (srt l = r)).sum : Nat) : Int) = (Q.map trn).sum := fun Q => by
      induction Q with
      | nil => intro _; rfl
      | cons r Q ih =>
        intro hQ
        obtain ⟨⟨r1, r2, r3⟩, _⟩ := (h r).mp (hQ r (by simp))
        rw [List.map_cons, List.sum_cons, List.map_cons, List.sum_cons, ← ih fun x hx => hQ x (by simp [hx]), trn_eq r2 r3, Int.natCast_add]
        congr 1
        rw [r1]
        unfold cnt
        congr 1
        exact countP_congr' fun l _ => srt_isPerm r2
    exact e R fun _ h => h
  · obtain ⟨h1, h2⟩ := ddl_iff.mp hl
    rw [h (srt l)]
    exact ⟨fun g => ⟨⟨by rw [srt_length, h1], srt_sorted l, h2.perm (srt_perm l)⟩, g⟩, fun g => g.2⟩
end Sl
namespace Sl
/-! ### rows by their low figures and differences -/
def highs (s ds : List Int) : List Int := List.zipWith (· + ·) s ds
theorem highs_snoc {s ds : List Int} (h : s.length = ds.length) (x d : Int) : highs (s ++ [x]) (ds ++ [d]) = highs s ds ++ [x + d] := by
  unfold highs
  rw [List.zipWith_append h]
  rfl
theorem highs_len {s ds : List Int} (h : s.length = ds.length) : (highs s ds).length = s.length := by
  unfold highs
  rw [List.length_zipWith]
  omega
structure Lows (b : Int) (ds s : List Int) : Prop where
  len : s.length = ds.length
  up : s.Pairwise (· ≤ ·)
  down : (highs s ds).Pairwise (· ≥ ·)
  lo : Digs b s
  hi : Digs b (highs s ds)
/-- where the next low figure begins; where the next high one ends -/
def lowOf (s : List Int) : Int := s.getLast?.getD 0
def highOf (b : Int) (s ds : List Int) : Int := (highs s ds).getLast?.getD (b - 1)
theorem last_ge {s : List Int} {x y : Int} (hp : s.Pairwise (· ≤ ·)) (hl : s.getLast? = some y) (hx : x ∈ s) : x ≤ y := by
  rcases List.eq_nil_or_concat s with e | ⟨m, z, e⟩
  · rw [e] at hx
    cases hx
  · rw [List.concat_eq_append] at e
    subst e
    rw [List.getLast?_concat] at hl
    cases hl
    rcases List.mem_append.mp hx with h | h
    · exact (List.pairwise_append.mp hp).2.2 x h y (by simp)
    · have : x = y := by simpa using h
      omega
theorem lowOf_le {b : Int} {s : List Int} (hp : s.Pairwise (· ≤ ·)) (hd : Digs b s) {x : Int} (h : lowOf s ≤ x) : 0 ≤ x ∧ ∀ y ∈ s, y ≤ x := by
  unfold lowOf at h
  cases e : s.getLast? with
  | none =>
    rw [e] at h
    refine ⟨h, fun y hy => ?_⟩
    rw [List.getLast?_eq_none_iff.mp e] at hy
    cases hy
  | some z =>
    rw [e] at h
    have h' : z ≤ x := h
    have := hd z (List.mem_of_getLast? e)
    exact ⟨by omega, fun y hy => by have := last_ge hp e hy; omega⟩
theorem le_lowOf {s : List Int} {x : Int} (h0 : 0 ≤ x) (h : ∀ y ∈ s, y ≤ x) : lowOf s ≤ x := by
  unfold lowOf
  cases e : s.getLast? with
  | none => exact h0
  | some z => exact h z (List.mem_of_getLast? e)
theorem highOf_ge {b : Int} {t : List Int} (hp : t.Pairwise (· ≥ ·)) (hd : Digs b t) {x : Int} (h : x ≤ t.getLast?.getD (b - 1)) : x < b ∧ ∀ y ∈ t, x ≤ y := by
  cases e : t.getLast? with
  | none =>
    rw [e] at h
    have h' : x ≤ b - 1 := h
    refine ⟨by omega, fun y hy => ?_⟩
    rw [List.getLast?_eq_none_iff.mp e] at hy
    cases hy
  | some z =>
    rw [e] at h
    have h' : x ≤ z := h
    have := hd z (List.mem_of_getLast? e)
    exact ⟨by omega, fun y hy => by have := last_le hp e hy; omega⟩
theorem ge_highOf {b : Int} {t : List Int} {x : Int} (h0 : x < b) (h : ∀ y ∈ t, x ≤ y) : x ≤ t.getLast?.getD (b - 1) := by
  cases e : t.getLast? with
  | none => show x ≤ b - 1; omega
  | some z => exact h z (List.mem_of_getLast? e)
theorem pw_snoc {R : Int → Int → Prop} {s : List Int} {x : Int} : (s ++ [x]).Pairwise R ↔ s.Pairwise R ∧ ∀ y ∈ s, R y x := by
  rw [List.pairwise_append]
  constructor
  · rintro ⟨h1, _, h3⟩
    exact ⟨h1, fun y hy => h3 y hy x (by simp)⟩
  · rintro ⟨h1, h2⟩
    refine ⟨h1, List.pairwise_singleton _ _, fun y hy z hz => ?_⟩
    have : z = x := by simpa using hz
    rw [this]
    exact h2 y hy
theorem Digs.snoc {b : Int} {s : List Int} {x : Int} : Digs b (s ++ [x]) ↔ Digs b s ∧ 0 ≤ x ∧ x < b := by
  constructor
  · intro h
    exact ⟨fun y hy => h y (by simp [hy]), h x (by simp)⟩
  · rintro ⟨h1, h2⟩ y hy
    rcases List.mem_append.mp hy with h | h
    · exact h1 y h
    · have : y = x := by simpa using h
      rw [this]
      exact h2
theorem lows_snoc {b : Int} {ds s : List Int} {d x : Int} (hd : 0 ≤ d) (h : Lows b ds s) : Lows b (ds ++ [d]) (s ++ [x]) ↔ lowOf s ≤ x ∧ x ≤ highOf b s ds - d := by
  constructor
  · intro g
    have g1 := (pw_snoc.mp g.up).2
    have g2 := (Digs.snoc.mp g.lo).2
    have g3 := g.down
    have g4 := g.hi
    rw [highs_snoc h.len] at g3 g4
    have g5 := (pw_snoc.mp g3).2
    have g6 := (Digs.snoc.mp g4).2
    refine ⟨le_lowOf g2.1 g1, ?_⟩
    have := ge_highOf (b := b) (t := highs s ds) (x := x + d) g6.2 g5
    unfold highOf
    omega
  · rintro ⟨g1, g2⟩
    obtain ⟨a1, a2⟩ := lowOf_le h.up h.lo g1
    obtain ⟨c1, c2⟩ := highOf_ge (b := b) (t := highs s ds) (x := x + d) h.down h.hi (by unfold highOf at g2; omega)
    refine ⟨by simp [h.len], pw_snoc.mpr ⟨h.up, a2⟩, ?_, Digs.snoc.mpr ⟨h.lo, a1, by omega⟩, ?_⟩
    · rw [highs_snoc h.len]
      exact pw_snoc.mpr ⟨h.down, c2⟩
    · rw [highs_snoc h.len]
      exact Digs.snoc.mpr ⟨h.hi, by omega, c1⟩
/-- all lists of low figures for the first k differences -/
def lowsT (b : Int) (ds : List Int) : Nat → List (List Int)
  | 0 => [[]]
  | k + 1 => (lowsT b ds k).flatMap fun s => (rng (lowOf s) (highOf b s (ds.take k) - ds.getD k 0 + 1)).map fun x => s ++ [x]
theorem take_snoc {ds : List Int} {k : Nat} (h : k < ds.length) : ds.take (k + 1) = ds.take k ++ [ds.getD k 0] := by
  rw [List.take_add_one, List.getD_eq_getElem?_getD, List.getElem?_eq_getElem h]
  rfl
theorem lowsT_mem {b : Int} {ds : List Int} (hd : Digs b ds) : ∀ {k : Nat} {s : List Int}, k ≤ ds.length → (s ∈ lowsT b ds k ↔ Lows b (ds.take k) s)
  | 0, s, _ => by
    constructor
    · intro h
      have : s = [] := by simpa [lowsT] using h
      subst this
      exact ⟨by simp, List.Pairwise.nil, List.Pairwise.nil, (fun _ h => nomatch h), (fun _ h => nomatch h)⟩
    · intro h
      have : s = [] := List.length_eq_zero_iff.mp (by have := h.len; simpa using this)
      subst this
      simp [lowsT]
  | k + 1, s, hk => by
    have hdk : 0 ≤ ds.getD k 0 := by
      rw [List.getD_eq_getElem?_getD, List.getElem?_eq_getElem (by omega)]
      exact (hd _ (List.getElem_mem _)).1
    show s ∈ (lowsT b ds k).flatMap _ ↔ _
    rw [List.mem_flatMap, take_snoc (by omega)]
    constructor
    · rintro ⟨r, hr, hs⟩
      have hL := (lowsT_mem hd (by omega)).mp hr
      obtain ⟨x, hx, rfl⟩ := List.mem_map.mp hs
      have := rng_mem.mp hx
      exact (lows_snoc hdk hL).mpr ⟨this.1, by omega⟩
    · intro h
      rcases List.eq_nil_or_concat s with e | ⟨m, z, e⟩
      · have := h.len
        rw [e] at this
        simp at this
      · rw [List.concat_eq_append] at e
        subst e
        have hl : m.length = (ds.take k).length := by
          have := h.len
          simp at this ⊢
          omega
        have h3 := h.down
        have h4 := h.hi
        rw [highs_snoc hl] at h3 h4
        have hm : Lows b (ds.take k) m := ⟨hl, (pw_snoc.mp h.up).1, (pw_snoc.mp h3).1, (Digs.snoc.mp h.lo).1, (Digs.snoc.mp h4).1⟩
        have := (lows_snoc hdk hm).mp h
        exact ⟨m, (lowsT_mem hd (by omega)).mpr hm, List.mem_map.mpr ⟨z, rng_mem.mpr ⟨this.1, by omega⟩, rfl⟩⟩
theorem lowsT_nodup (b : Int) (ds : List Int) : ∀ k, (lowsT b ds k).Nodup
  | 0 => by
    show ([[]] : List (List Int)).Nodup
    simp
  | k + 1 => by
    refine nodup_flat (lowsT_nodup b ds k) (fun s _ => ?_) (fun s _ t _ x hx hy => ?_)
    · refine nodup_map (rng_nodup _ _) fun i _ j _ e => ?_
      have := (List.append_inj' e rfl).2
      simpa using this
    · obtain ⟨i, _, rfl⟩ := List.mem_map.mp hx
      obtain ⟨j, _, e⟩ := List.mem_map.mp hy
      exact (List.append_inj' e rfl).1.symm
theorem lowsT_len {b : Int} (h0 : 2 ≤ b) (hb : b ≤ 12) {ds : List Int} (hd : Digs b ds) {k : Nat} (hk : k ≤ ds.length) (hh : k ≤ 4) : (lowsT b ds k).length ≤ 20736 := by
  have hs : lowsT b ds k ⊆ ddl b.toNat k := fun s hs => by
    have h := (lowsT_mem hd hk).mp hs
    have := ddl_mem (b := b.toNat) (r := s) (by rw [Int.toNat_of_nonneg (by omega)]; exact h.lo)
    rw [h.len, List.length_take, show min k ds.length = k by omega] at this
    exact this
  have h1 := (lowsT_nodup b ds k).length_le_of_subset hs
  rw [ddl_len] at h1
  have h2 : b.toNat ^ k ≤ 12 ^ k := Nat.pow_le_pow_left (by omega) _
  have h3 : 12 ^ k ≤ 12 ^ 4 := Nat.pow_le_pow_right (by decide) (by omega)
  have h4 : (12 : Nat) ^ 4 = 20736 := by decide
  omega
/-- the rows of given low figures -/
def rowsOf (b : Int) (L : Nat) (ds s : List Int) : List (List Int) :=
  if L % 2 = 0 then [s ++ (highs s ds).reverse] else (rng (lowOf s) (highOf b s ds + 1)).map fun x => s ++ [x] ++ (highs s ds).reverse
def manyM (b : Int) (L : Nat) (ds : List Int) : Int := ((lowsT b ds ds.length).map fun s => ((rowsOf b L ds s).map trn).sum).sum
def rows (b : Int) (L : Nat) (ds : List Int) : List (List Int) := (lowsT b ds ds.length).flatMap fun s => rowsOf b L ds s
theorem many_rows (b : Int) (L : Nat) (ds : List Int) : manyM b L ds = ((rows b L ds).map trn).sum := by
  unfold manyM rows
  induction lowsT b ds ds.length with
  | nil => rfl
  | cons s l ih =>
    rw [List.map_cons, List.sum_cons, List.flatMap_cons, List.map_append, List.sum_append, ih]
/-- rows from the outside -/
theorem row_difs : ∀ (s ds mid : List Int), s.length = ds.length → mid.length ≤ 1 → difs (s ++ mid ++ (highs s ds).reverse) = ds
  | [], [], mid, _, hm => by
    have : mid = [] ∨ ∃ x, mid = [x] := by
      cases mid with
      | nil => exact .inl rfl
      | cons x r =>
        cases r with
        | nil => exact .inr ⟨x, rfl⟩
        | cons y r => simp at hm
    rcases this with rfl | ⟨x, rfl⟩
    · rfl
    · simp [difs, highs]
  | [], d :: ds, _, h, _ => by cases h
  | x :: s, [], _, h, _ => by cases h
  | x :: s, d :: ds, mid, h, hm => by
    have e : x :: s ++ mid ++ (highs (x :: s) (d :: ds)).reverse = x :: ((s ++ mid ++ (highs s ds).reverse) ++ [x + d]) := by
      show x :: s ++ mid ++ ((x + d) :: highs s ds).reverse = _
      rw [List.reverse_cons]
      simp
    rw [e, difs_peel, row_difs s ds mid (by simpa using h) hm]
    congr 1
    omega
theorem row_ex (r : List Int) : ∃ s mid, s.length = r.length / 2 ∧ mid.length = r.length % 2 ∧ r = s ++ mid ++ (highs s (difs r)).reverse := by
  induction r using ends_ind with
  | h0 => exact ⟨[], [], rfl, rfl, rfl⟩
  | h1 x => exact ⟨[], [x], by simp, by simp, by simp [highs, difs]⟩
  | h2 x m y ih =>
    obtain ⟨s, mid, h1, h2, h3⟩ := ih
    refine ⟨x :: s, mid, ?_, ?_, ?_⟩
    · simp
      omega
    · simp
      omega
    · rw [difs_peel]
      show _ = x :: s ++ mid ++ ((x + (y - x)) :: highs s (difs m)).reverse
      rw [List.reverse_cons, show x + (y - x) = y by omega]
      conv => lhs; rw [h3]
      simp
theorem rows_mem {b : Int} {L : Nat} {ds : List Int} (hl : ds.length = L / 2) (hF : Fall b ds) (r : List Int) :
    r ∈ rows b L ds ↔ (r.length = L ∧ r.Pairwise (· ≤ ·) ∧ Digs b r) ∧ difs r = ds := by
  have hmem : ∀ s, s ∈ lowsT b ds ds.length ↔ Lows b ds s := fun s => by
    rw [lowsT_mem hF.2 (Nat.le_refl _), List.take_length]
  -- what a row of low figures, a middle and high ones is
  have key : ∀ s mid, Lows b ds s → mid.length = L % 2 → (∀ x ∈ mid, lowOf s ≤ x ∧ x ≤ highOf b s ds) → ((s ++ mid ++ (highs s ds).reverse).length = L ∧ (s ++ mid ++ (highs s ds).reverse).Pairwise (· ≤ ·) ∧ Digs b (s ++ mid ++ (highs s ds).reverse)) := fun s mid h hm hx => by
    have hlen := highs_len h.len
    have cross : ∀ x ∈ s, ∀ y ∈ highs s ds, x ≤ y := by
      -- by the innermost pair
      intro x hxs y hy
      rcases List.eq_nil_or_concat s with e | ⟨m, z, e⟩
      · rw [e] at hxs
        cases hxs
      · rw [List.concat_eq_append] at e
        rcases List.eq_nil_or_concat ds with e2 | ⟨dm, d, e2⟩
        · have := h.len
          rw [e, e2] at this
          simp at this
        · rw [List.concat_eq_append] at e2
          have hml : m.length = dm.length := by
            have := h.len
            rw [e, e2] at this
            simpa using this
          have hd := (hF.2 d (by rw [e2]; simp)).1
          have e3 : highs s ds = highs m dm ++ [z + d] := by rw [e, e2, highs_snoc hml]
          have u := h.up
          have dn := h.down
          rw [e] at u hxs
          rw [e3] at dn hy
          have x1 : x ≤ z := by
            rcases List.mem_append.mp hxs with g | g
            · exact (pw_snoc.mp u).2 x g
            · have : x = z := by simpa using g
              omega
          have y1 : z + d ≤ y := by
            rcases List.mem_append.mp hy with g | g
            · exact (pw_snoc.mp dn).2 y g
            · have : y = z + d := by simpa using g
              omega
          omega
    refine ⟨?_, ?_, ?_⟩
    · simp [hlen, hm]
      have := h.len
      omega
    · refine List.pairwise_append.mpr ⟨List.pairwise_append.mpr ⟨h.up, ?_, ?_⟩, ?_, ?_⟩
      · cases mid with
        | nil => exact List.Pairwise.nil
        | cons x r =>
          cases r with
          | nil => exact List.pairwise_singleton _ _
          | cons y r =>
            simp at hm
            omega
      · intro x hxs y hy
        exact (lowOf_le h.up h.lo (hx y hy).1).2 x hxs
      · rw [List.pairwise_reverse]
        exact h.down
      · intro x hxs y hy
        have hy := List.mem_reverse.mp hy
        rcases List.mem_append.mp hxs with g | g
        · exact cross x g y hy
        · exact (highOf_ge h.down h.hi (hx x g).2).2 y hy
    · intro x hxs
      rcases List.mem_append.mp hxs with g | g
      · rcases List.mem_append.mp g with g | g
        · exact h.lo x g
        · have a1 := (lowOf_le h.up h.lo (hx x g).1).1
          have a2 := (highOf_ge h.down h.hi (hx x g).2).1
          exact ⟨a1, a2⟩
      · exact h.hi x (List.mem_reverse.mp g)
  unfold rows
  rw [List.mem_flatMap]
  constructor
  · rintro ⟨s, hs, hr⟩
    have h := (hmem s).mp hs
    unfold rowsOf at hr
    by_cases e : L % 2 = 0
    · rw [if_pos e] at hr
      have : r = s ++ [] ++ (highs s ds).reverse := by simpa using hr
      subst this
      exact ⟨key s [] h (by rw [e]; rfl) (fun _ h => nomatch h), row_difs s ds [] h.len (by simp)⟩
    · rw [if_neg e] at hr
      obtain ⟨x, hx, rfl⟩ := List.mem_map.mp hr
      have hx := rng_mem.mp hx
      refine ⟨key s [x] h (by simp; omega) (fun y hy => ?_), row_difs s ds [x] h.len (by simp)⟩
      have : y = x := by simpa using hy
      rw [this]
      exact ⟨hx.1, by omega⟩
  · rintro ⟨⟨h1, h2, h3⟩, h4⟩
    obtain ⟨s, mid, e1, e2, e3⟩ := row_ex r
    rw [h4] at e3
    rw [h1] at e1 e2
    have hlen : s.length = ds.length := by omega
    have q := h2
    have d3 := h3
    rw [e3] at q d3
    obtain ⟨q1, q2, q3⟩ := List.pairwise_append.mp q
    obtain ⟨q4, q5, q6⟩ := List.pairwise_append.mp q1
    rw [List.pairwise_reverse] at q2
    have hL : Lows b ds s := ⟨hlen, q4, q2, fun x hx => d3 x (by simp [hx]), fun x hx => d3 x (by simp [hx])⟩
    refine ⟨s, (hmem s).mpr hL, ?_⟩
    unfold rowsOf
    by_cases e : L % 2 = 0
    · rw [if_pos e]
      have : mid = [] := List.length_eq_zero_iff.mp (by omega)
      subst this
      simpa using e3
    · rw [if_neg e]
      obtain ⟨x, rfl⟩ : ∃ x, mid = [x] := by
        cases mid with
        | nil => simp at e2; omega
        | cons x m =>
          cases m with
          | nil => exact ⟨x, rfl⟩
          | cons y m => simp at e2; omega
      refine List.mem_map.mpr ⟨x, rng_mem.mpr ⟨le_lowOf (d3 x (by simp)).1 fun y hy => q6 y hy x (by simp), ?_⟩, e3.symm⟩
      have := ge_highOf (b := b) (t := highs s ds) (x := x) (d3 x (by simp)).2 fun y hy => q3 x (by simp) y (List.mem_reverse.mpr hy)
      unfold highOf
      omega
theorem rows_nodup {b : Int} {L : Nat} {ds : List Int} (hF : Fall b ds) : (rows b L ds).Nodup := by
  have hlen : ∀ s ∈ lowsT b ds ds.length, s.length = ds.length := fun s hs => by
    have := ((lowsT_mem hF.2 (Nat.le_refl _)).mp hs).len
    rw [List.take_length] at this
    exact this
  refine nodup_flat (lowsT_nodup b ds _) (fun s _ => ?_) (fun s hs t ht x hx hy => ?_)
  · unfold rowsOf
    split
    · simp
    · refine nodup_map (rng_nodup _ _) fun i _ j _ e => ?_
      have := (List.append_inj (List.append_inj' e rfl).1 rfl).2
      simpa using this
  · have pre : ∀ s x, s ∈ lowsT b ds ds.length → x ∈ rowsOf b L ds s → x.take ds.length = s := fun s x hs hx => by
      have hl := hlen s hs
      unfold rowsOf at hx
      split at hx
      · have : x = s ++ (highs s ds).reverse := by simpa using hx
        rw [this, ← hl, List.take_left]
      · obtain ⟨y, _, rfl⟩ := List.mem_map.mp hx
        rw [List.append_assoc, ← hl, List.take_left]
    rw [← pre s x hs hx, pre t x ht hy]
/-- how many numbers have such differences -/
theorem many_eq {b : Nat} (hb : 0 < b) {L : Nat} {ds : List Int} (hl : ds.length = L / 2) (hF : Fall b ds) :
    manyM b L ds = (((nums b L).countP fun n => decide (difs (srt (figs b L n)) = ds) : Nat) : Int) := by
  rw [many_rows, ← count_trn hb (L := L) (p := fun r => decide (difs r = ds)) (rows_nodup hF)]
  intro r
  rw [rows_mem hl hF, decide_eq_true_iff]
theorem many_step {b : Nat} (hb : 2 ≤ b) {L : Nat} {ds : List Int} (hl : ds.length = L / 2) (hF : Fall b ds) :
    manyM b L ds = (((nums b L).countP fun n => decide (stepM b L n = mk b L ds) : Nat) : Int) := by
  rw [many_eq (by omega) hl hF]
  congr 1
  refine countP_congr' fun n _ => ?_
  have h := (falls_mem (b := (b : Int)) (by omega)).mp (fall_of_step (b := (b : Int)) (by omega) L n)
  by_cases e : difs (srt (figs b L n)) = ds
  · rw [decide_eq_true e, decide_eq_true]
    rw [step_difs, e]
  · rw [decide_eq_false e, decide_eq_false]
    intro q
    rw [step_difs] at q
    exact e (mk_inj (by omega) (h.1.trans hl.symm) (by omega) h.2.2 hF.2 q)
end Sl
namespace Sl
/-! ### all rounds -/
open Classical in
/-- how many steps till a number comes again -/
noncomputable def perC (f : Int → Int) (r : Int) : Nat := if h : ∃ m, ∃ c, Course f r m c then h.choose else 0
theorem perC_eq {f : Int → Int} {r : Int} {m c : Nat} (h : Course f r m c) : perC f r = m := by
  have hx : ∃ m, ∃ c, Course f r m c := ⟨m, c, h⟩
  unfold perC
  rw [dif_pos hx]
  obtain ⟨c', h'⟩ := hx.choose_spec
  exact (h'.one h).1
noncomputable def rnd (f : Int → Int) (r : Int) : List Int := orb f r (perC f r)
theorem rnd_eq {f : Int → Int} {r : Int} {m c : Nat} (h : Course f r m c) : rnd f r = orb f r m := by
  unfold rnd
  rw [perC_eq h]
/-- the least ones of what some come to -/
structure LsM {α : Type} (f : Int → Int) (g : α → Int) (ss : List α) (ls : List Int) : Prop where
  nd : ls.Nodup
  mem : ∀ r, r ∈ ls ↔ ∃ s ∈ ss, IsLst f (g s) r
theorem LsM.nil {α : Type} {f : Int → Int} {g : α → Int} : LsM f g [] [] := ⟨by simp, fun r => by simp⟩
theorem LsM.add {α : Type} {f : Int → Int} {g : α → Int} {ss : List α} {ls : List Int} (h : LsM f g ss ls) {s : α} {r : Int} (hr : IsLst f (g s) r) : LsM f g (ss ++ [s]) (if r ∈ ls then ls else ls ++ [r]) := by
  have key : ∀ x, (∃ t ∈ ss ++ [s], IsLst f (g t) x) ↔ x ∈ ls ∨ x = r := fun x => by
    rw [h.mem]
    constructor
    · rintro ⟨t, ht, hx⟩
      rcases List.mem_append.mp ht with q | q
      · exact .inl ⟨t, q, hx⟩
      · have : t = s := by simpa using q
        rw [this] at hx
        exact .inr (hx.one hr)
    · rintro (⟨t, ht, hx⟩ | e)
      · exact ⟨t, by simp [ht], hx⟩
      · rw [e]
        exact ⟨s, by simp, hr⟩
  by_cases m : r ∈ ls
  · rw [if_pos m]
    refine ⟨h.nd, fun x => ?_⟩
    rw [key]
    constructor
    · exact .inl
    · rintro (q | q)
      · exact q
      · rw [q]
        exact m
  · rw [if_neg m]
    refine ⟨?_, fun x => ?_⟩
    · rw [List.nodup_append]
      refine ⟨h.nd, by simp, fun a ha c hc e => ?_⟩
      have : c = r := by simpa using hc
      rw [← this, ← e] at m
      exact m ha
    · rw [key, List.mem_append, List.mem_singleton]
theorem IsLst.img {f : Int → Int} {S : List Int} (hS : ∀ x, f x ∈ S) {n r : Int} (h : IsLst f n r) : r ∈ S := by
  obtain ⟨p, hp, hb⟩ := h.back
  obtain ⟨k, rfl⟩ : ∃ k, p = k + 1 := ⟨p - 1, by omega⟩
  rw [← hb]
  exact hS _
theorem LsM.sub {α : Type} {f : Int → Int} {g : α → Int} {ss : List α} {ls S : List Int} (hS : ∀ x, f x ∈ S) (h : LsM f g ss ls) : ls.length ≤ S.length :=
  h.nd.length_le_of_subset fun r hr => by
    obtain ⟨s, _, q⟩ := (h.mem r).mp hr
    exact q.img hS
/-- all the least ones of rounds, from the least on -/
structure Lsts (b : Int) (L : Nat) (rs : List Int) : Prop where
  up : rs.Pairwise (· < ·)
  mem : ∀ r, r ∈ rs ↔ ∃ n, (0 ≤ n ∧ n < pw b L) ∧ IsLst (stepM b L) n r
theorem lt_sort {ls : List Int} (h : ls.Nodup) : (srt ls).Pairwise (· < ·) := by
  have h1 := srt_sorted ls
  have h2 : (srt ls).Nodup := (srt_perm ls).nodup_iff.mpr h
  refine List.Pairwise.imp₂ ?_ h1 h2
  intro a c h3 h4
  omega
theorem Lsts.of {b : Int} (hb : 2 ≤ b) {L : Nat} {ls : List Int} (h : LsM (stepM b L) (Sl.mk b L) (falls b (L / 2)) ls) : Lsts b L (srt ls) := by
  refine ⟨lt_sort h.nd, fun r => ?_⟩
  rw [(srt_perm ls).mem_iff, h.mem]
  constructor
  · rintro ⟨s, hs, hr⟩
    obtain ⟨h1, h2⟩ := (falls_mem (by omega)).mp hs
    obtain ⟨q1, q2⟩ := made_step hb h1 h2
    refine ⟨_, q1, IsLst.up ?_⟩
    rw [q2]
    exact hr
  · rintro ⟨n, _, hr⟩
    refine ⟨_, fall_of_step (by omega) L n, ?_⟩
    rw [← step_difs]
    exact hr.down
theorem Lsts.ofN {b : Nat} {L : Nat} {ls : List Int} (h : LsM (stepM b L) (fun n => n) (nums b L) ls) : Lsts b L (srt ls) := by
  refine ⟨lt_sort h.nd, fun r => ?_⟩
  rw [(srt_perm ls).mem_iff, h.mem]
  constructor
  · rintro ⟨n, hn, hr⟩
    exact ⟨n, nums_mem.mp hn, hr⟩
  · rintro ⟨n, hn, hr⟩
    exact ⟨n, nums_mem.mpr hn, hr⟩
theorem Lsts.one {b : Int} {L : Nat} {rs ss : List Int} (h : Lsts b L rs) (g : Lsts b L ss) : rs = ss := by
  have n1 : rs.Nodup := h.up.imp fun q => Int.ne_of_lt q
  have n2 : ss.Nodup := g.up.imp fun q => Int.ne_of_lt q
  refine List.Perm.eq_of_pairwise (le := (· < ·)) (fun a c _ _ h1 h2 => absurd h1 (Int.not_lt.mpr (Int.le_of_lt h2))) h.up g.up ?_
  exact (List.perm_ext_iff_of_nodup n1 n2).mpr fun r => by rw [h.mem, g.mem]
theorem Lsts.self {b : Int} {L : Nat} {rs : List Int} (h : Lsts b L rs) {r : Int} (hr : r ∈ rs) : IsLst (stepM b L) r r := by
  obtain ⟨n, _, q⟩ := (h.mem r).mp hr
  exact q.self
/-- 0 is one by itself -/
theorem step_zero {b : Int} (hb : 2 ≤ b) (L : Nat) : stepM b L 0 = 0 := by
  have h := (step_alike hb L (Int.le_refl 0) (by omega)).2
  rw [Int.mul_zero] at h
  exact h
theorem lst_zero {b : Int} (hb : 2 ≤ b) (L : Nat) : IsLst (stepM b L) 0 0 := ⟨⟨0, rfl⟩, ⟨1, by omega, step_zero hb L⟩, fun j => by rw [it_fix (step_zero hb L)]; omega⟩
theorem rnd_zero {b : Int} (hb : 2 ≤ b) (L : Nat) : rnd (stepM b L) 0 = [0] := by
  have : Course (stepM b L) 0 1 0 := ⟨by omega, step_zero hb L, fun i j hi hj _ => by omega⟩
  rw [rnd_eq this]
  rfl
theorem Lsts.zero {b : Int} (hb : 2 ≤ b) {L : Nat} {rs : List Int} (h : Lsts b L rs) : ∃ rs', rs = 0 :: rs' := by
  have h0 : (0 : Int) ∈ rs := (h.mem 0).mpr ⟨0, ⟨by omega, pw_pos (by omega) L⟩, lst_zero hb L⟩
  have hp : ∀ r ∈ rs, 0 ≤ r := fun r hr => by
    obtain ⟨n, _, q⟩ := (h.mem r).mp hr
    obtain ⟨p, hp, hb2⟩ := q.back
    obtain ⟨k, rfl⟩ : ∃ k, p = k + 1 := ⟨p - 1, by omega⟩
    rw [← hb2]
    exact (step_bound hb L _).1
  cases rs with
  | nil => cases h0
  | cons r rs =>
    rcases List.mem_cons.mp h0 with e | h0
    · exact ⟨rs, by rw [e]⟩
    · have h1 := (List.pairwise_cons.mp h.up).1 0 h0
      have h2 := hp r (by simp)
      omega
end Sl
namespace Sl
theorem LsM.ex {α : Type} {f : Int → Int} {g : α → Int} (hf : ∀ n, ∃ r, IsLst f n r) (ss : List α) : ∃ ls, LsM f g ss ls := by
  have key : ∀ n, n ≤ ss.length → ∃ ls, LsM f g (ss.take n) ls := fun n => by
    induction n with
    | zero =>
      intro _
      exact ⟨[], by rw [List.take_zero]; exact LsM.nil⟩
    | succ n ih =>
      intro hn
      obtain ⟨ls, hl⟩ := ih (by omega)
      obtain ⟨r, hr⟩ := hf (g (ss[n]'(by omega)))
      refine ⟨if r ∈ ls then ls else ls ++ [r], ?_⟩
      rw [List.take_add_one, List.getElem?_eq_getElem (by omega)]
      exact hl.add hr
  obtain ⟨ls, hl⟩ := key ss.length (Nat.le_refl _)
  rw [List.take_length] at hl
  exact ⟨ls, hl⟩
theorem Lsts.ex {b l : Int} (h : 2 ≤ b ∧ b ≤ 12 ∧ 1 ≤ l ∧ l ≤ 8) : ∃ rs, Lsts b l.toNat rs := by
  obtain ⟨ls, hl⟩ := LsM.ex (f := stepM b l.toNat) (g := Sl.mk b l.toNat) (fun n => step_lst h n) (falls b (l.toNat / 2))
  exact ⟨_, Lsts.of h.1 hl⟩
theorem IsLst.of_course {f : Int → Int} {r : Int} {m : Nat} (h : Course f r m 0) (hm : lmin (orb f r m) = r) : IsLst f r r := by
  have g := h.lst
  unfold Sl.ring at g
  rw [List.drop_zero, hm] at g
  exact g
end Sl
namespace Sl
/-! ### whether differences make a number -/
/-- none rises above the one ahead -/
def sinkB : Int → List Int → Bool
  | _, [] => true
  | t, d :: ds => decide (d ≤ t) && sinkB d ds
theorem sink_snoc (t : Int) : ∀ (xs : List Int) (d : Int), sinkB t (xs ++ [d]) = (sinkB t xs && decide (d ≤ xs.getLast?.getD t))
  | [], d => by
    show (decide (d ≤ t) && true) = (true && decide (d ≤ t))
    rw [Bool.and_true, Bool.true_and]
  | x :: xs, d => by
    show (decide (x ≤ t) && sinkB x (xs ++ [d])) = (decide (x ≤ t) && sinkB x xs && _)
    rw [sink_snoc x xs d, Bool.and_assoc]
    congr 2
    rw [List.getLast?_cons]
    rfl
theorem sink_prefix {t : Int} : ∀ {xs ys : List Int}, sinkB t (xs ++ ys) = true → sinkB t xs = true
  | [], _, _ => rfl
  | x :: xs, ys, h => by
    have h' : (decide (x ≤ t) && sinkB x (xs ++ ys)) = true := h
    rw [Bool.and_eq_true] at h'
    show (decide (x ≤ t) && sinkB x xs) = true
    rw [Bool.and_eq_true]
    exact ⟨h'.1, sink_prefix h'.2⟩
theorem sink_fall {b : Int} : ∀ {t : Int} {ds : List Int}, t < b → (∀ d ∈ ds, 0 ≤ d) → sinkB t ds = true → Fall b ds ∧ ∀ d ∈ ds, d ≤ t
  | t, [], _, _, _ => ⟨⟨List.Pairwise.nil, fun _ h => nomatch h⟩, fun _ h => nomatch h⟩
  | t, d :: ds, ht, h0, h => by
    have h' : (decide (d ≤ t) && sinkB d ds) = true := h
    rw [Bool.and_eq_true] at h'
    have hd := of_decide_eq_true h'.1
    obtain ⟨⟨i1, i2⟩, i3⟩ := sink_fall (b := b) (t := d) (by omega) (fun x hx => h0 x (by simp [hx])) h'.2
    refine ⟨⟨List.pairwise_cons.mpr ⟨fun x hx => i3 x hx, i1⟩, fun x hx => ?_⟩, fun x hx => ?_⟩
    · rcases List.mem_cons.mp hx with e | hx
      · have := h0 d (by simp)
        omega
      · exact i2 x hx
    · rcases List.mem_cons.mp hx with e | hx
      · omega
      · have := i3 x hx
        omega
theorem fall_sink {b : Int} : ∀ {t : Int} {ds : List Int}, Fall b ds → (∀ d ∈ ds, d ≤ t) → sinkB t ds = true
  | _, [], _, _ => rfl
  | t, d :: ds, h, ht => by
    show (decide (d ≤ t) && sinkB d ds) = true
    rw [Bool.and_eq_true]
    obtain ⟨h1, h2⟩ := List.pairwise_cons.mp h.1
    exact ⟨decide_eq_true (ht d (by simp)), fall_sink (b := b) ⟨h2, fun x hx => h.2 x (by simp [hx])⟩ fun x hx => h1 x hx⟩
/-- adjacent ones, side by side -/
theorem sink_zip : ∀ (t : Int) (ds : List Int), (List.zipWith (fun x y => decide (y ≤ x)) (t :: ds) ds).all id = sinkB t ds
  | _, [] => rfl
  | t, d :: ds => by
    show (decide (d ≤ t) && (List.zipWith (fun x y => decide (y ≤ x)) (d :: ds) ds).all id) = _
    rw [sink_zip d ds]
    rfl
/-- differences that don't rise make n -/
def difB (b : Int) (L : Nat) (n : Int) : Bool := decide (rst b L (L / 2) 0 n = 0) && sinkB (b - 1) (grd b L (L / 2) 0 n)
def dif (b : Int) (L : Nat) (n : Int) : List Int := grd b L (L / 2) 0 n
theorem grd_nn {b : Int} (hb : 2 ≤ b) {L : Nat} : ∀ (k a : Nat) (n : Int), 0 ≤ n → 2 * (a + k) ≤ L → (∀ d ∈ grd b L k a n, 0 ≤ d) ∧ 0 ≤ rst b L k a n
  | 0, a, n, h, _ => ⟨(fun _ h => nomatch h), h⟩
  | k + 1, a, n, h, hk => by
    have hw := wgt_pos (b := b) hb (L := L) (a := a) (by omega)
    obtain ⟨i1, i2⟩ := grd_nn hb (L := L) k (a + 1) (n % wgt b L a) (Int.emod_nonneg _ (by omega)) (by omega)
    refine ⟨fun d hd => ?_, i2⟩
    have hd' : d ∈ (n / wgt b L a) :: grd b L k (a + 1) (n % wgt b L a) := hd
    rcases List.mem_cons.mp hd' with e | hd'
    · rw [e]
      exact Int.ediv_nonneg h (Int.le_of_lt hw)
    · exact i1 d hd'
theorem dif_ok {b : Int} (hb : 2 ≤ b) {L : Nat} {n : Int} (h0 : 0 ≤ n) (h : difB b L n = true) : (dif b L n).length = L / 2 ∧ Fall b (dif b L n) ∧ mk b L (dif b L n) = n := by
  unfold difB at h
  rw [Bool.and_eq_true, decide_eq_true_iff] at h
  obtain ⟨h1, h2⟩ := h
  have hl : (dif b L n).length = L / 2 := grd_len b L (L / 2) 0 n
  have hn := grd_nn hb (L := L) (L / 2) 0 n h0 (by omega)
  refine ⟨hl, (sink_fall (by omega) hn.1 h2).1, ?_⟩
  have g := grd_dot b L (L / 2) 0 n
  rw [h1, Int.add_zero] at g
  rw [← dot0 (by rw [hl]; omega)]
  exact g
theorem dif_full {b : Int} (hb : 2 ≤ b) {L : Nat} {ds : List Int} (hl : ds.length = L / 2) (hF : Fall b ds) : difB b L (mk b L ds) = true ∧ dif b L (mk b L ds) = ds := by
  have g := grd_full hb (L := L) ds 0 (by omega) hF.2
  rw [dot0 (by omega), hl] at g
  unfold difB dif
  rw [g.1, g.2]
  refine ⟨?_, rfl⟩
  rw [decide_eq_true rfl, Bool.true_and]
  exact fall_sink hF fun d hd => by
    have := hF.2 d hd
    omega
theorem dif_step {b : Int} (hb : 2 ≤ b) (L : Nat) (n : Int) : difB b L (stepM b L n) = true := by
  have h := (falls_mem (b := b) (by omega)).mp (fall_of_step (by omega) L n)
  rw [step_difs]
  exact (dif_full hb h.1 h.2).1
theorem grd_take (b : Int) (L : Nat) : ∀ (m k a : Nat) (n : Int), grd b L (k + m) a n = grd b L k a n ++ grd b L m (a + k) (rst b L k a n)
  | m, 0, a, n => by
    rw [Nat.zero_add]
    rfl
  | m, k + 1, a, n => by
    rw [show k + 1 + m = (k + m) + 1 by omega]
    show (n / wgt b L a) :: grd b L (k + m) (a + 1) (n % wgt b L a) = (n / wgt b L a) :: grd b L k (a + 1) (n % wgt b L a) ++ grd b L m (a + (k + 1)) (rst b L k (a + 1) (n % wgt b L a))
    rw [grd_take b L m k (a + 1), show a + 1 + k = a + (k + 1) by omega]
    rfl
theorem sink_part {b : Int} {L : Nat} {n : Int} {k : Nat} (hk : k ≤ L / 2) (h : sinkB (b - 1) (grd b L k 0 n) = false) : difB b L n = false := by
  unfold difB
  cases e : sinkB (b - 1) (grd b L (L / 2) 0 n) with
  | false => rw [Bool.and_false]
  | true =>
    rw [show L / 2 = k + (L / 2 - k) by omega, grd_take] at e
    rw [sink_prefix e] at h
    cases h
theorem wgt_le {b : Int} (h0 : 2 ≤ b) (h : b ≤ 12) {L a : Nat} (hL : L ≤ 8) : wgt b L a ≤ 429981696 := by
  have h1 := pw_le h0 h (k := L - 1 - a) (by omega)
  have h2 := pw_pos (b := b) (by omega) a
  unfold wgt
  omega
end Sl
namespace Sl
open PySem PySem.Spec PyProof.Rows L2 Evl
/-! ### support: a def by its name, promises by shape, further evaluations -/
/-- the def named x stands in the module and keeps the promise sp -/
structure Fn (P : Program) (w : World) (K : PySem.W.Frag) (mg : Str → Option Value) (base : Heap) (k : Nat) (x : Str) (ps : List Str) (sp : Sp) : Prop where
  ex : ∃ (f : Addr) (fd : FuncData), mg x = some (.ref f) ∧ FnOk P w K mg base CX0 k f fd ps sp ∧ PySem.W.keepIn K (.ref f) = true ∧ Binds K fd ps []
theorem Fn.mono {P : Program} {w : World} {K : PySem.W.Frag} {mg : Str → Option Value} {base : Heap} {j k : Nat} {x : Str} {ps : List Str} {sp : Sp} (h : Fn P w K mg base j x ps sp) (hk : j ≤ k) : Fn P w K mg base k x ps sp := by
  obtain ⟨f, fd, a, b, c, d⟩ := h.ex
  exact ⟨f, fd, a, b.mono hk, c, d⟩
theorem pe_fn {X : Cx} {k : Nat} {x : Str} {ps : List Str} {sp : Sp} {e : Expr} {es : List Expr} {t : TA} {p pos : Pos} (h : Fn X.prog X.w X.K X.mg X.base k x ps sp) (hr : Room k X.A) (hg : Gl X x) (ha : PA X (e :: es) t)
    (hdb : (x == ("__debug__" : Str)) = false := by decide) (he : starEach (e :: es) X.env = (false, eval e X.env) :: starEach es X.env := by rfl) (hpl : (backTo pos (starEach es X.env)).any (·.1) = false := by rfl) :
    PE X (.Call (.Name x p) (e :: es) [] pos) (tCall sp [] E0 t) := by
  obtain ⟨f, fd, a, b, c, d⟩ := h.ex
  exact pe_call b hr hg a c d .nil pass0 ha hdb he hpl
/-! promises -/
def sp1 (pre : Int → Prop) (f : Int → V) : Sp := fun vs H Q _ => ∃ a, vs = [.int a] ∧ pre a ∧ RetV (f a) H Q
def sp2 (pre : Int → Int → Prop) (f : Int → Int → V) : Sp := fun vs H Q _ => ∃ a b, vs = [.int a, .int b] ∧ pre a b ∧ RetV (f a b) H Q
def sp3 (pre : Int → Int → Int → Prop) (f : Int → Int → Int → V) : Sp := fun vs H Q _ => ∃ a b c, vs = [.int a, .int b, .int c] ∧ pre a b c ∧ RetV (f a b c) H Q
def sp4 (pre : Int → Int → Int → Int → Prop) (f : Int → Int → Int → Int → V) : Sp := fun vs H Q _ => ∃ a b c d, vs = [.int a, .int b, .int c, .int d] ∧ pre a b c d ∧ RetV (f a b c d) H Q
def sp3L (pre : Int → Int → Int → Prop) (f : Int → Int → Int → List Int) : Sp := fun vs H Q _ => ∃ a b c, vs = [.int a, .int b, .int c] ∧ pre a b c ∧ RetL ((f a b c).map V.int) H Q
section
variable {K : PySem.W.Frag} {σ : L2.St} {H H' : Hp} {ta tb tc te tx : TE} {t u : TT} {x y z v : V} {r r' : R2}
theorem sp1_v {pre : Int → Prop} {f : Int → V} {a : Int} (h : pre a) : SpV (sp1 pre f) [.int a] H (f a) := fun _ _ _ q _ => ⟨a, rfl, h, q⟩
theorem sp2_v {pre : Int → Int → Prop} {f : Int → Int → V} {a b : Int} (h : pre a b) : SpV (sp2 pre f) [.int a, .int b] H (f a b) := fun _ _ _ q _ => ⟨a, b, rfl, h, q⟩
theorem sp3_v {pre : Int → Int → Int → Prop} {f : Int → Int → Int → V} {a b c : Int} (h : pre a b c) : SpV (sp3 pre f) [.int a, .int b, .int c] H (f a b c) := fun _ _ _ q _ => ⟨a, b, c, rfl, h, q⟩
theorem sp4_v {pre : Int → Int → Int → Int → Prop} {f : Int → Int → Int → Int → V} {a b c d : Int} (h : pre a b c d) : SpV (sp4 pre f) [.int a, .int b, .int c, .int d] H (f a b c d) := fun _ _ _ q _ => ⟨a, b, c, d, rfl, h, q⟩
theorem sp3L_l {pre : Int → Int → Int → Prop} {f : Int → Int → Int → List Int} {a b c : Int} (h : pre a b c) : SpL (sp3L pre f) [.int a, .int b, .int c] H ((f a b c).map V.int) := fun _ _ _ q _ => ⟨a, b, c, rfl, h, q⟩
/-! evaluations -/
/-- a two-sided comparison -/
theorem ev_chain {b1 : Bool} (ha : Ev ta σ H x) (hb : Ev tb σ H y) (h1 : RV r x y H (.bl b1)) (hc : Ev tc σ H z) {b2 : Bool} (h2 : RV r' y z H (.bl b2)) : Ev (tChain r r' ta tb tc) σ H (.bl (b1 && b2)) := fun H1 e Q q =>
  ha H1 e _ fun H2 e2 => hb H2 (e.trans e2) _ fun H3 e3 => h1 H3 ((e.trans e2).trans e3) _ fun H4 e4 => ⟨b1, rfl, by
    cases b1 with
    | true =>
      show tc σ H4 fun w' H5 => r' y w' H5 Q
      exact hc H4 (((e.trans e2).trans e3).trans e4) _ fun H5 e5 => h2 H5 ((((e.trans e2).trans e3).trans e4).trans e5) Q fun H6 e6 => q H6 ((((e2.trans e3).trans e4).trans e5).trans e6)
    | false =>
      show Q (.bl false) H4
      exact q H4 ((e2.trans e3).trans e4)⟩
/-- isinstance(an int, int), (an int, bool) -/
theorem rc_isi {c : V} {w0 u0 : Value} {b : Bool} {x : V} (k : ClsV c u0) (ty : ∀ H1, Ex H H1 → TyX K H1 x w0) (e : PySem.W.kitOne K w0 u0 = some b) : RC (rIsi K) [x, c] H (.bl b) := fun H1 e1 _ q => ⟨x, c, w0, u0, b, rfl, k, ty H1 e1, e, q H1 (Ex.refl H1)⟩
theorem rc_isi_int {i : Int} : RC (rIsi K) [.int i, .ty "int"] H (.bl true) := rc_isi (.ty "int") (fun _ _ => .base (.int i)) (kit_ty (by decide +kernel))
theorem rc_isi_bool {i : Int} : RC (rIsi K) [.int i, .ty "bool"] H (.bl false) := rc_isi (.ty "bool") (fun _ _ => .base (.int i)) (kit_ty (by decide +kernel))
end
end Sl
namespace Sl
open PySem PySem.Spec PyProof.Rows L2 Evl
/-- a module's int -/
def ConI (mg : Str → Option Value) (x : Str) (i : Int) : Prop := ∃ t, mg x = some (.int i t)
theorem pe_conI {X : Cx} {x : Str} {i : Int} {pos : Pos} (h : ConI X.mg x i) (hg : Gl X x) (hd : (x == ("__debug__" : Str)) = false := by decide) : PE X (.Name x pos) (tC (.int i)) := by
  obtain ⟨t, e⟩ := h
  exact pe_glob hg e ⟨t, rfl⟩ hd
section
variable {K : PySem.W.Frag} {σ : L2.St} {H H' : Hp} {ta tb tc te tx : TE} {t u : TT} {x y z v : V} {r r' : R2}
/-- sorted(a new list), sorted(a list) -/
theorem el_sortedN {ns : List Int} (h : EvL ta σ H (ns.map V.int)) : EvL (tCB (rSortedI K) (tCons ta tNil)) σ H ((srt ns).map V.int) := fun H1 e Q q =>
  h H1 e _ fun p H2 np e2 hp => ⟨p, ns, rfl, sq_of hp, fun ns' p' perm rising np' => by
    have e3 := srt_of perm rising
    subst e3
    exact q p' _ (fresh_back e2 np') (e2.trans (Ex.new np')) upd_same⟩
theorem el_sorted {ns : List Int} {a : Addr} (h : Ev ta σ H (.ref a)) (hs : SqL K H a (ns.map V.int)) : EvL (tCB (rSortedI K) (tCons ta tNil)) σ H ((srt ns).map V.int) := fun H1 e Q q =>
  h H1 e _ fun H2 e2 => ⟨a, ns, rfl, ex_l (e.trans e2) hs, fun ns' p' perm rising np' => by
    have e3 := srt_of perm rising
    subst e3
    exact q p' _ (fresh_back e2 np') (e2.trans (Ex.new np')) upd_same⟩
/-- xs[::-1] -/
theorem el_rev {a : Addr} {xs : List V} (h : Ev te σ H (.ref a)) (hs : SqL K H a xs) : EvL (tRevL K te) σ H xs.reverse := fun H1 e Q q =>
  h H1 e _ fun H2 e2 => ⟨a, xs, rfl, ex_l (e.trans e2) hs, fun p hp => q p _ (fresh_back e2 hp) (e2.trans (Ex.new hp)) upd_same⟩
/-- f(x, a new list) -/
theorem ev_call2L {sp : Sp} {E : XK} {xs : List V} (ha : Ev ta σ H x) (hb : EvL tb σ H xs) (hs : ∀ p H1, Ex H H1 → H1 p = some (.lst xs) → SpV sp [x, .ref p] H1 z) : Ev (tCall sp [] E (tCons ta (tCons tb tNil))) σ H z := fun H1 e Q q =>
  ha H1 e _ fun H2 e2 => hb H2 (e.trans e2) _ fun p H3 _ e3 hp => hs p H3 ((e.trans e2).trans e3) hp H3 (Ex.refl H3) Q (fun H4 e4 => q H4 ((e2.trans e3).trans e4)) E
theorem ex_set {H H1 H2 : Hp} {p : Addr} {o : HO} (e : Ex H H1) (e2 : Ex H1 H2) (np : H p = none) : Ex H (upd H2 p o) := Ex.mut (e.trans e2) np
theorem rv_isB {a b : Bool} : RV rIsB (.bl a) (.bl b) H (.bl (decide (a = b))) := fun H1 _ _ q => ⟨a, b, rfl, rfl, q H1 (Ex.refl H1)⟩
theorem rv_notB {a b : Bool} : RV rNotB (.bl a) (.bl b) H (.bl (!decide (a = b))) := fun H1 _ _ q => ⟨a, b, rfl, rfl, q H1 (Ex.refl H1)⟩
theorem rv_isN : RV (fun x y H Q => y = .non ∧ Q (.bl (decide (x = .non))) H) x .non H (.bl (decide (x = .non))) := fun H1 _ _ q => ⟨rfl, q H1 (Ex.refl H1)⟩
theorem rv_notN : RV (fun x y H Q => y = .non ∧ Q (.bl (!decide (x = .non))) H) x .non H (.bl (!decide (x = .non))) := fun H1 _ _ q => ⟨rfl, q H1 (Ex.refl H1)⟩
end
end Sl
namespace Sl
open PySem PySem.Spec PyProof.Rows L2 Evl
/-- an expression that comes to some value of which P holds -/
def EvP (te : TE) (σ : L2.St) (H : Hp) (P : V → Hp → Prop) : Prop := ∀ H1, Ex H H1 → ∀ Q : VK, (∀ v H2, Ex H1 H2 → P v H2 → Q v H2) → te σ H1 Q
/-- ranges with a step -/
theorem rgc {j c : Int} (hj : 0 ≤ j ∧ j ≤ 1000) (hc : 1 ≤ c ∧ c ≤ 1000) : ∃ n : Nat, RgC 0 j c n := by
  have hq : 0 ≤ (j - 0 - 1) / c + 1 ∨ ¬ 0 < j := by
    by_cases h : 0 < j
    · left
      have := Int.ediv_nonneg (a := j - 0 - 1) (b := c) (by omega) (by omega)
      omega
    · right
      exact h
  have hq2 : 0 < j → (j - 0 - 1) / c ≤ j := fun h => by
    have := Int.ediv_le_self (a := j - 0 - 1) c (by omega)
    omega
  refine ⟨(Builtin.Range.rangeSize 0 j c).toNat, by omega, by omega, ?_, ?_⟩
  · unfold Builtin.Range.small Builtin.Range.rangeSize
    rw [if_pos (show c > 0 by omega)]
    generalize (j - 0 - 1) / c = q at hq hq2
    simp only [Builtin.Range.rangeFitsLong, Bool.and_eq_true, Bool.or_eq_true, decide_eq_true_eq, beq_iff_eq, show c > 0 by omega, if_true]
    split <;> omega
  · unfold Builtin.Range.rangeSize
    rw [if_pos (show c > 0 by omega)]
    generalize (j - 0 - 1) / c = q at hq hq2
    split <;> omega
section
variable {K : PySem.W.Frag} {σ : L2.St} {H H' : Hp} {ta tb tc te tx tl : TE} {t u : TT} {x y z v : V} {r r' : R2} {D : Ends} {tu tw tz : TS} {g : TG}
theorem q_par {ta : TA} {i j : Nat} (h : EvA ta σ H [x, y]) (k : ∀ H1, Ex H H1 → tz D ((σ.set i (some x)).set j (some y)) H1) : tSeq (tPar i j ta) tz D σ H := h H (Ex.refl H) _ fun H1 e => ⟨x, y, rfl, k H1 e⟩
theorem s_par {ta : TA} {i j : Nat} (h : EvA ta σ H [x, y]) (k : ∀ H1, Ex H H1 → D.nx ((σ.set i (some x)).set j (some y)) H1) : tPar i j ta D σ H := h H (Ex.refl H) _ fun H1 e => ⟨x, y, rfl, k H1 e⟩
/-- a, b, c = what comes as a tuple of three -/
theorem q_asg3 {i j l : Nat} {R : V → V → V → Hp → Prop} (h : EvP te σ H fun v H2 => ∃ p a b c, v = .ref p ∧ H2 p = some (.tup [a, b, c]) ∧ R a b c H2)
    (k : ∀ a b c H1, Ex H H1 → R a b c H1 → tz D (((σ.set i (some a)).set j (some b)).set l (some c)) H1) : tSeq (tAsg te (gTup K 3 (gCons (gName i) (gCons (gName j) (gCons (gName l) gNil))))) tz D σ H :=
  h H (Ex.refl H) _ fun v H1 e ⟨p, a, b, c, ev, hp, hR⟩ => ⟨p, [a, b, c], ev, st_of hp, rfl, a, _, rfl, b, _, rfl, c, _, rfl, rfl, k a b c H1 e hR⟩
theorem q_asg2 {i j : Nat} {R : V → V → Hp → Prop} (h : EvP te σ H fun v H2 => ∃ p a b, v = .ref p ∧ H2 p = some (.tup [a, b]) ∧ R a b H2)
    (k : ∀ a b H1, Ex H H1 → R a b H1 → tz D ((σ.set i (some a)).set j (some b)) H1) : tSeq (tAsg te (gTup K 2 (gCons (gName i) (gCons (gName j) gNil)))) tz D σ H :=
  h H (Ex.refl H) _ fun v H1 e ⟨p, a, b, ev, hp, hR⟩ => ⟨p, [a, b], ev, st_of hp, rfl, a, _, rfl, b, _, rfl, rfl, k a b H1 e hR⟩
theorem q_asgU2 {i j : Nat} (h : EvU te σ H [x, y]) (k : ∀ H1, Ex H H1 → tz D ((σ.set i (some x)).set j (some y)) H1) : tSeq (tAsg te (gTup K 2 (gCons (gName i) (gCons (gName j) gNil)))) tz D σ H :=
  h H (Ex.refl H) _ fun p H1 _ e hp => ⟨p, _, rfl, st_of hp, rfl, x, _, rfl, y, _, rfl, rfl, k H1 e⟩
/-- [..] * n -/
theorem el_rep {xs : List V} {n : Int} (ha : EvL ta σ H xs) (hb : Ev tb σ H (.int n)) (hn : 0 ≤ n ∧ n ≤ 1000) (hx : xs.length ≤ 10) : EvL (tOp rRep ta tb) σ H (List.replicate n.toNat xs).flatten := fun H1 e Q q =>
  ha H1 e _ fun p H2 np e2 hp => hb H2 (e.trans e2) _ fun H3 e3 => ⟨p, n, xs, rfl, rfl, e3 p _ hp, by omega, by omega, by
    have h1 : xs.length * n.toNat ≤ 10 * 1000 := Nat.mul_le_mul hx (by omega)
    exact Nat.le_trans h1 (by decide), fun p' hp' => q p' _ (fresh_back (e2.trans e3) hp') ((e2.trans e3).trans (Ex.new hp')) upd_same⟩
/-- for x in range(0, j, c) -/
theorem q_forR3 {ta : TA} {j : Nat} {m c : Int} (h : EvA ta σ H [.int 0, .int m, .int c]) (hm : 0 ≤ m ∧ m ≤ 1000) (hc : 1 ≤ c ∧ c ≤ 1000) (Pv : L2.St → Hp → Prop) (h0 : ∀ H1, Ex H H1 → Pv σ H1)
    (hs : ∀ (i : Int) σ' H', 0 ≤ i → Pv σ' H' → tu { D with nx := Pv, ct := Pv, bk := tz D } (σ'.set j (some (.int i))) H') (hd : ∀ σ' H', Pv σ' H' → tz D σ' H') : tSeq (tFor (iRng3 ta) (gName j) tu) tz D σ H := by
  obtain ⟨n, hn⟩ := rgc hm hc
  refine h H (Ex.refl H) _ fun H1 e => ⟨0, m, c, n, rfl, hn, for_rangeC (lo := 0) (c := c) (n := n) (fun _ => Pv) (h0 H1 e) (fun i σ' H' hi p => ?_) hd⟩
  refine hs _ σ' H' ?_ p
  have := Int.mul_nonneg (Int.natCast_nonneg i) (show 0 ≤ c by omega)
  omega
/-- for x in (a, b, ..): the word speaks of the slots alone, the heap grows -/
theorem q_forNT {xs : List V} {j : Nat} (h : EvU tl σ H xs) (Pv : Nat → L2.St → Prop) (h0 : Pv 0 σ)
    (hs : ∀ Hp, Ex H Hp → ∀ i x σ' H', xs[i]? = some x → Ex Hp H' → Pv i σ' → tu { D with nx := fun σ2 H2 => Ex Hp H2 ∧ Pv (i + 1) σ2, ct := fun σ2 H2 => Ex Hp H2 ∧ Pv (i + 1) σ2, bk := tz D } (σ'.set j (some x)) H')
    (hd : ∀ σ' H', Ex H H' → Pv xs.length σ' → tz D σ' H') : tSeq (tFor (iTup K tl) (gName j) tu) tz D σ H :=
  h H (Ex.refl H) _ fun p H1 _ e hp => ⟨p, rfl, ⟨xs, st_of hp⟩, for_tup (fun i σ' H' => Ex H1 H' ∧ Pv i σ') ⟨Ex.refl H1, h0⟩ (fun i σ' H' _ q => st_of (q.1 p _ hp)) (fun i x σ' H' hi q => hs H1 e i x σ' H' hi q.1 q.2) (fun σ' H' q => hd σ' H' (e.trans q.1) q.2)⟩
theorem s_forNT {xs : List V} {j : Nat} (h : EvU tl σ H xs) (Pv : Nat → L2.St → Prop) (h0 : Pv 0 σ)
    (hs : ∀ Hp, Ex H Hp → ∀ i x σ' H', xs[i]? = some x → Ex Hp H' → Pv i σ' → tu { D with nx := fun σ2 H2 => Ex Hp H2 ∧ Pv (i + 1) σ2, ct := fun σ2 H2 => Ex Hp H2 ∧ Pv (i + 1) σ2, bk := D.nx } (σ'.set j (some x)) H')
    (hd : ∀ σ' H', Ex H H' → Pv xs.length σ' → D.nx σ' H') : tFor (iTup K tl) (gName j) tu D σ H :=
  h H (Ex.refl H) _ fun p H1 _ e hp => ⟨p, rfl, ⟨xs, st_of hp⟩, for_tup (fun i σ' H' => Ex H1 H' ∧ Pv i σ') ⟨Ex.refl H1, h0⟩ (fun i σ' H' _ q => st_of (q.1 p _ hp)) (fun i x σ' H' hi q => hs H1 e i x σ' H' hi q.1 q.2) (fun σ' H' q => hd σ' H' (e.trans q.1) q.2)⟩
end
end Sl
namespace Sl
open PySem PySem.Spec PyProof.Rows L2 Evl
/-- at most so many bits -/
def Bt (z : Int) : Prop := ∃ n : Nat, n ≤ 1048577 ∧ z.natAbs < 2 ^ n
theorem Bt.of {z : Int} (h : Builtin.Int.intBits z ≤ 1048576) : Bt z := by
  refine ⟨Builtin.Int.intBits z, by omega, ?_⟩
  unfold Builtin.Int.intBits
  split
  · rename_i e
    have : z = 0 := by simpa using e
    subst this
    decide
  · exact Nat.lt_log2_self
theorem Bt.zero : Bt 0 := ⟨0, by decide, by decide⟩
theorem Bt.add {z k : Int} (h : Bt z) (hk : k.natAbs ≤ 1000000) : ∃ n : Nat, n ≤ 1048598 ∧ (z + k).natAbs < 2 ^ n := by
  obtain ⟨n, h1, h2⟩ := h
  refine ⟨n + 21, by omega, ?_⟩
  rw [Nat.pow_add]
  have hp : 0 < 2 ^ n := Nat.two_pow_pos n
  generalize 2 ^ n = P at h2 hp
  have : (2 : Nat) ^ 21 = 2097152 := by decide
  rw [this]
  omega
theorem mulx_of {x y : Int} (hx : ∃ n : Nat, n ≤ 1048598 ∧ x.natAbs < 2 ^ n) (hy : ∃ n : Nat, n ≤ 1048598 ∧ y.natAbs < 2 ^ n) : CMulX x y := by
  obtain ⟨n, h1, h2⟩ := hx
  obtain ⟨m, h3, h4⟩ := hy
  exact mulx_ok h2 h4 (by omega)
/-- the law's promise -/
def SpLaw (K : PySem.W.Frag) : Sp := fun vs H Q _ => ∃ (a : Addr) (ns : List Int), vs = [.ref a] ∧ SqL K H a (ns.map V.int) ∧ ns.length ≤ 63 ∧ (∀ z ∈ ns, Bt z) ∧ ∀ H', Q (.bl true) H'
theorem cut_script {xs : List V} (h : xs.length ≤ 63) : cutV xs none (some 63) = xs := by
  unfold cutV
  rw [HT.sIx_none, show HT.sIx xs.length xs.length (some 63) = min 63 xs.length from HT.sIx_nat xs.length xs.length 63]
  rw [show min 63 xs.length - 0 = xs.length by omega]
  exact List.take_length
end Sl
namespace Sl
open PySem PySem.Spec PyProof.Rows L2 Evl
/-! ### dicts with int keys -/
theorem valV_none {kvs : List (Key × V)} {k : Key} (h : ∀ kv ∈ kvs, kv.1 ≠ k) : valV kvs k = none := by
  unfold valV
  rw [List.find?_eq_none.mpr fun x hx => by simpa using h x hx]
  rfl
theorem valV_mem {kvs : List (Key × V)} {k : Key} {v : V} (h : (k, v) ∈ kvs) (u : ∀ v', (k, v') ∈ kvs → v' = v) : valV kvs k = some v := by
  unfold valV
  cases e : kvs.find? fun kv => decide (kv.1 = k) with
  | none =>
    have := List.find?_eq_none.mp e (k, v) h
    simp at this
  | some x =>
    have h1 := List.find?_some e
    have h2 := List.mem_of_find?_eq_some e
    have h3 : x.1 = k := by simpa using h1
    obtain ⟨a, c⟩ := x
    have h3' : a = k := h3
    subst h3'
    show some c = some v
    rw [u c h2]
theorem valV_inv {kvs : List (Key × V)} {k : Key} {v : V} (h : valV kvs k = some v) : (k, v) ∈ kvs := by
  unfold valV at h
  cases e : kvs.find? fun kv => decide (kv.1 = k) with
  | none =>
    rw [e] at h
    cases h
  | some x =>
    rw [e] at h
    have h1 := List.find?_some e
    have h2 := List.mem_of_find?_eq_some e
    have h3 : x.1 = k := by simpa using h1
    have h4 : x.2 = v := Option.some.inj h
    rw [← h3, ← h4]
    exact h2
section
variable {K : PySem.W.Frag} {σ : L2.St} {H H' : Hp} {ta tb tc te tx tl td ty tv : TE} {t u : TT} {x y z v : V} {r r' : R2} {D : Ends} {tu tw tz : TS} {g : TG} {d : Addr} {kvs : List (Key × V)} {k : Int}
theorem ev_din (hy : Ev ty σ H (.int k)) (hd : Ev td σ H (.ref d)) (h : H d = some (.dK kvs)) : Ev (tDIn ty td) σ H (.bl (valV kvs (.inl k)).isSome) := fun H1 e Q q =>
  hy H1 e _ fun H2 e2 => hd H2 (e.trans e2) _ fun H3 e3 => ⟨d, _, rfl, DGet.k (k := Sum.inl k) (((e.trans e2).trans e3) d _ h), q H3 (e2.trans e3)⟩
theorem ev_dnotin (hy : Ev ty σ H (.int k)) (hd : Ev td σ H (.ref d)) (h : H d = some (.dK kvs)) : Ev (tDNotIn ty td) σ H (.bl (!(valV kvs (.inl k)).isSome)) := fun H1 e Q q =>
  hy H1 e _ fun H2 e2 => hd H2 (e.trans e2) _ fun H3 e3 => ⟨d, _, rfl, DGet.k (k := Sum.inl k) (((e.trans e2).trans e3) d _ h), q H3 (e2.trans e3)⟩
theorem ev_dget (hd : Ev td σ H (.ref d)) (hy : Ev ty σ H (.int k)) (h : H d = some (.dK kvs)) (hv : valV kvs (.inl k) = some v) : Ev (tDGet td ty) σ H v := fun H1 e Q q =>
  hd H1 e _ fun H2 e2 => hy H2 (e.trans e2) _ fun H3 e3 => ⟨d, v, rfl, hv ▸ DGet.k (k := Sum.inl k) (((e.trans e2).trans e3) d _ h), q H3 (e2.trans e3)⟩
theorem ev_dget2 (hd : Ev td σ H (.ref d)) (hy : Ev ty σ H (.int k)) (hx : Ev tx σ H z) (h : H d = some (.dK kvs)) : Ev (tDGet2 td ty tx) σ H ((valV kvs (.inl k)).getD z) := fun H1 e Q q =>
  hd H1 e _ fun H2 e2 => ⟨d, rfl, .inl ⟨kvs, .inl ((e.trans e2) d _ h)⟩, hy H2 (e.trans e2) _ fun H3 e3 => hx H3 ((e.trans e2).trans e3) _ fun H4 e4 => ⟨_, DGet.k (k := Sum.inl k) ((((e.trans e2).trans e3).trans e4) d _ h), q H4 ((e2.trans e3).trans e4)⟩⟩
theorem s_dput (hv : Ev tv σ H v) (hd : Ev td σ H (.ref d)) (hy : Ev ty σ H (.int k)) (h : H d = some (.dK kvs)) (hl : kvs.length < 100000) (q : ∀ H1, Ex H H1 → D.nx σ (upd H1 d (.dK (putK kvs (.inl k) v)))) : sDPut td ty tv D σ H :=
  hv H (Ex.refl H) _ fun H1 e1 => hd H1 e1 _ fun H2 e2 => hy H2 (e1.trans e2) _ fun H3 e3 => ⟨d, _, rfl, DPut.k (k := Sum.inl k) (((e1.trans e2).trans e3) d _ h) (sz_lt hl), q H3 ((e1.trans e2).trans e3)⟩
theorem q_dput (hv : Ev tv σ H v) (hd : Ev td σ H (.ref d)) (hy : Ev ty σ H (.int k)) (h : H d = some (.dK kvs)) (hl : kvs.length < 100000) (q : ∀ H1, Ex H H1 → tz D σ (upd H1 d (.dK (putK kvs (.inl k) v)))) : tSeq (sDPut td ty tv) tz D σ H :=
  s_dput (D := { D with nx := tz D }) hv hd hy h hl q
/-- a, b = [], {} -/
theorem q_parLD {i j : Nat} (q : ∀ p d H1, H p = none → H d = none → p ≠ d → Ex H H1 → H1 p = some (.lst []) → H1 d = some (.dK []) → tz D ((σ.set i (some (.ref p))).set j (some (.ref d))) H1) : tSeq (tPar i j (tCons (tLst tNil) (tCons tDNewK tNil))) tz D σ H :=
  ⟨Nat.zero_le _, fun p hp d hd => ⟨_, _, rfl, by
    have npd : p ≠ d := fun e => by
      rw [← e, upd_same] at hd
      cases hd
    have hd0 : H d = none := by
      rw [upd_ne npd.symm] at hd
      exact hd
    exact q p d _ hp hd0 npd ((Ex.new hp).trans (Ex.new hd)) (by rw [upd_ne npd, upd_same]) upd_same⟩⟩
end
/-! ### courses in a heap -/
/-- the places so far -/
def plc (f : Int → Int) (n : Int) (m : Nat) : List (Key × V) := (List.range m).map fun (j : Nat) => (Sum.inl (it f j n), V.int (j : Int))
theorem plc_succ (f : Int → Int) (n : Int) (m : Nat) : plc f n (m + 1) = plc f n m ++ [(Sum.inl (it f m n), V.int (m : Int))] := by simp [plc, List.range_succ]
theorem plc_len (f : Int → Int) (n : Int) (m : Nat) : (plc f n m).length = m := by simp [plc]
theorem plc_out {f : Int → Int} {n : Int} {m : Nat} (h : valV (plc f n m) (.inl (it f m n)) = none) : ∀ c, c < m → it f m n ≠ it f c n := fun c hc e => by
  refine valV_not h ?_
  simp only [plc, List.map_map, List.mem_map, List.mem_range]
  exact ⟨c, hc, by show Sum.inl (it f c n) = _; rw [e]⟩
theorem plc_in {f : Int → Int} {n : Int} {m : Nat} {v : V} (h : valV (plc f n m) (.inl (it f m n)) = some v) : ∃ c, c < m ∧ it f m n = it f c n ∧ v = .int (c : Int) := by
  have h2 := valV_inv h
  simp only [plc, List.mem_map, List.mem_range, Prod.mk.injEq, Sum.inl.injEq] at h2
  obtain ⟨c, hc, e1, e2⟩ := h2
  exact ⟨c, hc, e1.symm, e2.symm⟩
/-- the promise of a course: a new tuple of a new list and a place -/
def SpCourse : Sp := fun vs H Q _ => ∃ (b l n : Int), vs = [.int b, .int l, .int n] ∧ (2 ≤ b ∧ b ≤ 12 ∧ 1 ≤ l ∧ l ≤ 8) ∧
  ∀ (t a : Addr) (H2 : Hp) (m c : Nat), Course (stepM b l.toNat) n m c → m ≤ 20737 → H a = none → Ex H H2 → H2 a = some (.lst ((orb (stepM b l.toNat) n m).map V.int)) → H2 t = some (.tup [.ref a, .int (c : Int)]) → Q (.ref t) H2
theorem sp_course_p {σ : L2.St} {E : XK} {ta : TA} {b l n : Int} {H : Hp} (h : 2 ≤ b ∧ b ≤ 12 ∧ 1 ≤ l ∧ l ≤ 8) (ha : EvA ta σ H [.int b, .int l, .int n]) :
    EvP (tCall SpCourse [] E ta) σ H fun v H2 => ∃ p x y, v = .ref p ∧ H2 p = some (.tup [x, y]) ∧ ∃ (a : Addr) (m c : Nat), x = .ref a ∧ y = .int (c : Int) ∧ H a = none ∧ Course (stepM b l.toNat) n m c ∧ m ≤ 20737 ∧ H2 a = some (.lst ((orb (stepM b l.toNat) n m).map V.int)) :=
  fun H1 e Q q => ha H1 e _ fun H2 e2 => ⟨b, l, n, rfl, h, fun t a H3 m c hC hm na e3 h1 h2 => q _ H3 (e2.trans e3) ⟨t, _, _, rfl, h2, a, m, c, rfl, rfl, fresh_back (e.trans e2) na, hC, hm, h1⟩⟩
end Sl
namespace Sl
open PySem PySem.Spec PyProof.Rows L2 Evl
/-! ### comprehensions without a test -/
section
variable {K : PySem.W.Frag} {σ : L2.St} {H H' : Hp} {te tl : TE} {j : Nat} {vs : List Nat} {xs : List V} {g : V → V}
theorem lc_word {H1 : Hp} {Dl : Addr} {i : Nat} {x : V} {σ2 : L2.St} (hx : xs[i]? = some x) (hz : xs.length ≤ 40000) (p : H1 Dl = none ∧ Ex H1 H' ∧ H' Dl = some (.lst ((xs.take i).map g))) (he : ∀ H2, Ex H1 H2 → Ev te σ2 H2 (g x)) :
    tYes σ2 H' fun b H3 => if b = true then te σ2 H3 fun y H4 => ∃ acc, H4 Dl = some (.lst acc) ∧ acc.length < sizeLine ∧ (H1 Dl = none ∧ Ex H1 (upd H4 Dl (.lst (acc ++ [y]))) ∧ (upd H4 Dl (.lst (acc ++ [y]))) Dl = some (.lst ((xs.take (i + 1)).map g))) else (H1 Dl = none ∧ Ex H1 H3 ∧ H3 Dl = some (.lst ((xs.take (i + 1)).map g))) := by
  obtain ⟨p1, p2, p3⟩ := p
  unfold tYes
  refine iteT ?_
  refine he H' p2 H' (Ex.refl H') _ fun H4 e4 => ⟨_, e4 Dl _ p3, sz_lt ?_, p1, Ex.mut (p2.trans e4) p1, ?_⟩
  · rw [List.length_map, List.length_take]
    omega
  · rw [upd_same, List.take_add_one, hx, List.map_append] <;> rfl
/-- over a new tuple -/
theorem el_mapT (h : EvU tl σ H xs) (hz : xs.length ≤ 40000) (hw : ∀ x, wipe ((wipe σ vs).set j (some x)) vs = wipe σ vs) (he : ∀ x ∈ xs, ∀ H1, Ex H H1 → Ev te ((wipe σ vs).set j (some x)) H1 (g x)) :
    EvL (tLc (iTup K tl) (gName j) tYes te vs) σ H (xs.map g) := fun H0 e Q q => h H0 e _ fun a H1 ha e1 hx => ⟨a, rfl, ⟨xs, st_of hx⟩, fun Dl hD =>
  lc_tup (xs := xs) (fun i H' => H1 Dl = none ∧ Ex H1 H' ∧ H' Dl = some (.lst ((xs.take i).map g))) ⟨hD, Ex.new hD, upd_same⟩ (fun i H' _ p => st_of (p.2.1 a _ hx))
    (fun i x H' hi p => ⟨hw x, lc_word hi hz p fun H2 e2 => he x (List.mem_of_getElem? hi) H2 ((e.trans e1).trans e2)⟩)
    (fun H' p => q Dl H' (fresh_back e1 p.1) (e1.trans p.2.1) (by rw [p.2.2, List.take_length]))⟩
/-- over a tuple -/
theorem el_mapTt {a : Addr} (h : Ev tl σ H (.ref a)) (hx : SqT K H a xs) (hz : xs.length ≤ 40000) (hw : ∀ x, wipe ((wipe σ vs).set j (some x)) vs = wipe σ vs) (he : ∀ x ∈ xs, ∀ H1, Ex H H1 → Ev te ((wipe σ vs).set j (some x)) H1 (g x)) :
    EvL (tLc (iTup K tl) (gName j) tYes te vs) σ H (xs.map g) := fun H0 e Q q => h H0 e _ fun H1 e1 => ⟨a, rfl, ⟨xs, ex_t (e.trans e1) hx⟩, fun Dl hD =>
  lc_tup (xs := xs) (fun i H' => H1 Dl = none ∧ Ex H1 H' ∧ H' Dl = some (.lst ((xs.take i).map g))) ⟨hD, Ex.new hD, upd_same⟩ (fun i H' _ p => ex_t ((e.trans e1).trans p.2.1) hx)
    (fun i x H' hi p => ⟨hw x, lc_word hi hz p fun H2 e2 => he x (List.mem_of_getElem? hi) H2 ((e.trans e1).trans e2)⟩)
    (fun H' p => q Dl H' (fresh_back e1 p.1) (e1.trans p.2.1) (by rw [p.2.2, List.take_length]))⟩
/-- over a list -/
theorem el_mapL {a : Addr} (h : Ev tl σ H (.ref a)) (hx : SqL K H a xs) (hz : xs.length ≤ 40000) (hw : ∀ x, wipe ((wipe σ vs).set j (some x)) vs = wipe σ vs) (he : ∀ x ∈ xs, ∀ H1, Ex H H1 → Ev te ((wipe σ vs).set j (some x)) H1 (g x)) :
    EvL (tLc (iList K tl) (gName j) tYes te vs) σ H (xs.map g) := fun H0 e Q q => h H0 e _ fun H1 e1 => ⟨a, rfl, ⟨xs, ex_l (e.trans e1) hx⟩, fun Dl hD =>
  lc_list (xs := xs) (fun i H' => H1 Dl = none ∧ Ex H1 H' ∧ H' Dl = some (.lst ((xs.take i).map g))) ⟨hD, Ex.new hD, upd_same⟩ (fun i H' _ p => ex_l ((e.trans e1).trans p.2.1) hx)
    (fun i x H' hi p => ⟨hw x, lc_word hi hz p fun H2 e2 => he x (List.mem_of_getElem? hi) H2 ((e.trans e1).trans e2)⟩)
    (fun H' p => q Dl H' (fresh_back e1 p.1) (e1.trans p.2.1) (by rw [p.2.2, List.take_length]))⟩
/-- over a new list -/
theorem el_mapNL (h : EvL tl σ H xs) (hz : xs.length ≤ 40000) (hw : ∀ x, wipe ((wipe σ vs).set j (some x)) vs = wipe σ vs) (he : ∀ x ∈ xs, ∀ H1, Ex H H1 → Ev te ((wipe σ vs).set j (some x)) H1 (g x)) :
    EvL (tLc (iList K tl) (gName j) tYes te vs) σ H (xs.map g) := fun H0 e Q q => h H0 e _ fun a H1 ha e1 hx => ⟨a, rfl, ⟨xs, sq_of hx⟩, fun Dl hD =>
  lc_list (xs := xs) (fun i H' => H1 Dl = none ∧ Ex H1 H' ∧ H' Dl = some (.lst ((xs.take i).map g))) ⟨hD, Ex.new hD, upd_same⟩ (fun i H' _ p => sq_of (p.2.1 a _ hx))
    (fun i x H' hi p => ⟨hw x, lc_word hi hz p fun H2 e2 => he x (List.mem_of_getElem? hi) H2 ((e.trans e1).trans e2)⟩)
    (fun H' p => q Dl H' (fresh_back e1 p.1) (e1.trans p.2.1) (by rw [p.2.2, List.take_length]))⟩
end
end Sl
namespace Sl
open PySem PySem.Spec PyProof.Rows L2 Evl
/-! ### slices, least ones, data compared -/
theorem cut_drop {xs : List V} {c : Nat} (h : c ≤ xs.length) : cutV xs (some (c : Int)) none = xs.drop c := by
  unfold cutV
  rw [HT.sIx_none, HT.sIx_nat, Nat.min_eq_left h]
  exact List.take_of_length_le (by rw [List.length_drop]; omega)
theorem cut_take {xs : List V} {c : Nat} (h : c ≤ xs.length) : cutV xs none (some (c : Int)) = xs.take c := by
  unfold cutV
  rw [HT.sIx_none, HT.sIx_nat, Nat.min_eq_left h]
  rfl
theorem map_drop_int (ns : List Int) (c : Nat) : (ns.map V.int).drop c = (ns.drop c).map V.int := by rw [List.map_drop]
/-- data -/
def pI (ns : List Int) : List PyData := ns.map PyData.int
def pLL (xss : List (List Int)) : List PyData := xss.map fun ns => PyData.list (pI ns)
theorem eqv_ints : ∀ ns ms : List Int, PyData.eqvAll (pI ns) (pI ms) = decide (ns = ms)
  | [], [] => by simp [pI, PyData.eqvAll]
  | [], m :: ms => by simp [pI, PyData.eqvAll]
  | n :: ns, [] => by simp [pI, PyData.eqvAll]
  | n :: ns, m :: ms => by
    have ih := eqv_ints ns ms
    unfold pI at ih
    simp only [pI, List.map_cons, PyData.eqvAll, PyData.eqv, ih]
    by_cases h1 : n = m
    · by_cases h2 : ns = ms
      · simp [h1, h2]
      · simp [h1, h2]
    · simp [h1]
theorem eqv_lists : ∀ xs ys : List (List Int), PyData.eqvAll (pLL xs) (pLL ys) = decide (xs = ys)
  | [], [] => by simp [pLL, PyData.eqvAll]
  | [], m :: ms => by simp [pLL, PyData.eqvAll]
  | n :: ns, [] => by simp [pLL, PyData.eqvAll]
  | n :: ns, m :: ms => by
    have ih := eqv_lists ns ms
    unfold pLL at ih
    simp only [pLL, List.map_cons, PyData.eqvAll, PyData.eqv, ih, eqv_ints]
    by_cases h1 : n = m
    · by_cases h2 : ns = ms
      · simp [h1, h2]
      · simp [h1, h2]
    · simp [h1]
theorem can_ints : ∀ ns : List Int, PyData.canLayAll0 (pI ns) = true ∧ PyData.depthAll (pI ns) = 0
  | [] => by simp [pI, PyData.canLayAll0, PyData.depthAll]
  | n :: ns => by
    have ih := can_ints ns
    unfold pI at ih
    simp [pI, PyData.canLayAll0, PyData.canLay0, PyData.depthAll, PyData.depth, ih.1, ih.2]
theorem can_lists : ∀ xs : List (List Int), PyData.canLayAll0 (pLL xs) = true ∧ PyData.depthAll (pLL xs) ≤ 1
  | [] => by simp [pLL, PyData.canLayAll0, PyData.depthAll]
  | n :: ns => by
    have ih := can_lists ns
    have i1 := can_ints n
    unfold pLL at ih
    simp [pLL, PyData.canLayAll0, PyData.canLay0, PyData.depthAll, PyData.depth, ih.1, ih.2, i1.1, i1.2]
theorem shaped_lst (ns : List Int) : SeqAt.shaped (.list (pI ns)) = true := by
  have h := can_ints ns
  simp [SeqAt.shaped, PyData.canLay0, PyData.depth, h.1, h.2]
theorem shaped_tup (ns : List Int) : SeqAt.shaped (.tuple (pI ns)) = true := by
  have h := can_ints ns
  simp [SeqAt.shaped, PyData.canLay0, PyData.depth, h.1, h.2]
theorem shaped_ll (xs : List (List Int)) : SeqAt.shaped (.list (pLL xs)) = true := by
  have h := can_lists xs
  simp [SeqAt.shaped, PyData.canLay0, PyData.depth, h.1]
  omega
theorem dp_ints {K : PySem.W.Frag} {H : Hp} : ∀ ns : List Int, DpAll K H (ns.map V.int) (pI ns)
  | [] => .nil
  | n :: ns => .cons (.int n) (dp_ints ns)
/-- lists of ints at addresses -/
def Nest (K : PySem.W.Frag) (H : Hp) : List V → List (List Int) → Prop
  | [], [] => True
  | v :: vs, ns :: xss => (∃ a, v = .ref a ∧ SqL K H a (ns.map V.int)) ∧ Nest K H vs xss
  | _, _ => False
theorem Nest.ex {K : PySem.W.Frag} {H H' : Hp} (e : Ex H H') : ∀ {vs : List V} {xss : List (List Int)}, Nest K H vs xss → Nest K H' vs xss
  | [], [], _ => True.intro
  | v :: vs, ns :: xss, ⟨⟨a, h1, h2⟩, h3⟩ => ⟨⟨a, h1, ex_l e h2⟩, Nest.ex e h3⟩
  | [], _ :: _, h => nomatch h
  | _ :: _, [], h => nomatch h
theorem Nest.dp {K : PySem.W.Frag} {H : Hp} : ∀ {vs : List V} {xss : List (List Int)}, Nest K H vs xss → DpAll K H vs (pLL xss)
  | [], [], _ => .nil
  | v :: vs, ns :: xss, ⟨⟨a, h1, h2⟩, h3⟩ => by
    subst h1
    exact .cons (.lst h2 (dp_ints ns)) (Nest.dp h3)
  | [], _ :: _, h => nomatch h
  | _ :: _, [], h => nomatch h
theorem Nest.len {K : PySem.W.Frag} {H : Hp} : ∀ {vs : List V} {xss : List (List Int)}, Nest K H vs xss → vs.length = xss.length
  | [], [], _ => rfl
  | v :: vs, ns :: xss, ⟨_, h3⟩ => by rw [List.length_cons, List.length_cons, Nest.len h3]
  | [], _ :: _, h => nomatch h
  | _ :: _, [], h => nomatch h
theorem Nest.get {K : PySem.W.Frag} {H : Hp} : ∀ {vs : List V} {xss : List (List Int)} {i : Nat} {v : V}, Nest K H vs xss → vs[i]? = some v → ∃ a ns, v = .ref a ∧ xss[i]? = some ns ∧ SqL K H a (ns.map V.int)
  | [], _, _, _, _, e => nomatch e
  | _ :: _, [], _, _, h, _ => nomatch h
  | w :: vs, ns :: xss, 0, v, ⟨⟨a, h1, h2⟩, _⟩, e => by
    have : w = v := Option.some.inj e
    subst this
    exact ⟨a, ns, h1, rfl, h2⟩
  | w :: vs, ns :: xss, i + 1, v, ⟨_, h3⟩, e => Nest.get (i := i) h3 e
theorem Nest.append {K : PySem.W.Frag} {H : Hp} : ∀ {vs ws : List V} {xss yss : List (List Int)}, Nest K H vs xss → Nest K H ws yss → Nest K H (vs ++ ws) (xss ++ yss)
  | [], _, [], _, _, h => h
  | v :: vs, _, ns :: xss, _, ⟨h1, h3⟩, h => ⟨h1, Nest.append h3 h⟩
  | [], _, _ :: _, _, h, _ => nomatch h
  | _ :: _, _, [], _, h, _ => nomatch h
section
variable {K : PySem.W.Frag} {σ : L2.St} {H H' : Hp} {ta tb tc te tx tl : TE} {t u : TT} {x y z v : V} {r r' : R2} {D : Ends} {tu tw tz : TS}
theorem rv_eqD {d e : PyData} (hx : ∀ H1, Ex H H1 → Dp K H1 x d) (hy : ∀ H1, Ex H H1 → Dp K H1 y e) (sd : SeqAt.shaped d = true) (se : SeqAt.shaped e = true) {b : Bool} (hb : PyData.eqv d e = b) : RV (rEqD K) x y H (.bl b) := fun H1 e1 _ q =>
  ⟨d, e, hx H1 e1, hy H1 e1, sd, se, by rw [hb]; exact q H1 (Ex.refl H1)⟩
theorem rv_neD {d e : PyData} (hx : ∀ H1, Ex H H1 → Dp K H1 x d) (hy : ∀ H1, Ex H H1 → Dp K H1 y e) (sd : SeqAt.shaped d = true) (se : SeqAt.shaped e = true) {b : Bool} (hb : PyData.eqv d e = b) : RV (rNeD K) x y H (.bl (!b)) := fun H1 e1 _ q =>
  ⟨d, e, hx H1 e1, hy H1 e1, sd, se, by rw [hb]; exact q H1 (Ex.refl H1)⟩
theorem rv_eqL {p q : Addr} {ns ms : List Int} (h1 : SqL K H p (ns.map V.int)) (h2 : SqL K H q (ms.map V.int)) : RV (rEqD K) (.ref p) (.ref q) H (.bl (decide (ns = ms))) :=
  rv_eqD (fun _ e => .lst (ex_l e h1) (dp_ints ns)) (fun _ e => .lst (ex_l e h2) (dp_ints ms)) (shaped_lst ns) (shaped_lst ms) (by rw [← eqv_ints]; rfl)
theorem rv_neL {p q : Addr} {ns ms : List Int} (h1 : SqL K H p (ns.map V.int)) (h2 : SqL K H q (ms.map V.int)) : RV (rNeD K) (.ref p) (.ref q) H (.bl (!decide (ns = ms))) :=
  rv_neD (fun _ e => .lst (ex_l e h1) (dp_ints ns)) (fun _ e => .lst (ex_l e h2) (dp_ints ms)) (shaped_lst ns) (shaped_lst ms) (by rw [← eqv_ints]; rfl)
theorem rv_eqT {p q : Addr} {ns ms : List Int} (h1 : SqT K H p (ns.map V.int)) (h2 : SqT K H q (ms.map V.int)) : RV (rEqD K) (.ref p) (.ref q) H (.bl (decide (ns = ms))) :=
  rv_eqD (fun _ e => .tup (ex_t e h1) (dp_ints ns)) (fun _ e => .tup (ex_t e h2) (dp_ints ms)) (shaped_tup ns) (shaped_tup ms) (by rw [← eqv_ints]; rfl)
theorem rv_neT {p q : Addr} {ns ms : List Int} (h1 : SqT K H p (ns.map V.int)) (h2 : SqT K H q (ms.map V.int)) : RV (rNeD K) (.ref p) (.ref q) H (.bl (!decide (ns = ms))) :=
  rv_neD (fun _ e => .tup (ex_t e h1) (dp_ints ns)) (fun _ e => .tup (ex_t e h2) (dp_ints ms)) (shaped_tup ns) (shaped_tup ms) (by rw [← eqv_ints]; rfl)
theorem rv_eqLL {p q : Addr} {vs ws : List V} {xs ys : List (List Int)} (h1 : SqL K H p vs) (n1 : Nest K H vs xs) (h2 : SqL K H q ws) (n2 : Nest K H ws ys) : RV (rEqD K) (.ref p) (.ref q) H (.bl (decide (xs = ys))) :=
  rv_eqD (fun _ e => .lst (ex_l e h1) (n1.ex e).dp) (fun _ e => .lst (ex_l e h2) (n2.ex e).dp) (shaped_ll xs) (shaped_ll ys) (by rw [← eqv_lists]; rfl)
theorem rv_neLL {p q : Addr} {vs ws : List V} {xs ys : List (List Int)} (h1 : SqL K H p vs) (n1 : Nest K H vs xs) (h2 : SqL K H q ws) (n2 : Nest K H ws ys) : RV (rNeD K) (.ref p) (.ref q) H (.bl (!decide (xs = ys))) :=
  rv_neD (fun _ e => .lst (ex_l e h1) (n1.ex e).dp) (fun _ e => .lst (ex_l e h2) (n2.ex e).dp) (shaped_ll xs) (shaped_ll ys) (by rw [← eqv_lists]; rfl)
/-- xs == [], xs != [] -/
theorem ev_neNil {p : Addr} {ns : List Int} (ha : Ev ta σ H (.ref p)) (h : SqL K H p (ns.map V.int)) : Ev (tOp (rNeD K) ta (tLst tNil)) σ H (.bl (!decide (ns = []))) :=
  ev_opL ha (el_lst ea_nil (Nat.zero_le _)) fun _ _ hq e => rv_neL (ms := []) (ex_l e h) (sq_of hq)
/-- min(xs) -/
theorem ev_minN {ns : List Int} (ha : EvL ta σ H (ns.map V.int)) (hn : 0 < ns.length) : Ev (tCB (rMin K) (tCons ta tNil)) σ H (.int (lmin ns)) := fun H1 e Q q =>
  ha H1 e _ fun p H2 _ e2 h2 => ⟨p, ns, rfl, sq_of h2, hn, fun m hm hl => by rw [lmin_eq hm hl]; exact q H2 e2⟩
theorem ev_min {p : Addr} {ns : List Int} (ha : Ev ta σ H (.ref p)) (h : SqL K H p (ns.map V.int)) (hn : 0 < ns.length) : Ev (tCB (rMin K) (tCons ta tNil)) σ H (.int (lmin ns)) := fun H1 e Q q =>
  ha H1 e _ fun H2 e2 => ⟨p, ns, rfl, ex_l (e.trans e2) h, hn, fun m hm hl => by rw [lmin_eq hm hl]; exact q H2 e2⟩
theorem ev_sumN {ns : List Int} (ha : EvL ta σ H (ns.map V.int)) : Ev (tCB (rSum K) (tCons ta tNil)) σ H (.int ns.sum) := fun H1 e Q q =>
  ha H1 e _ fun p H2 _ e2 h2 => ⟨p, ns, rfl, sq_of h2, q H2 e2⟩
theorem ev_sum {p : Addr} {ns : List Int} (ha : Ev ta σ H (.ref p)) (h : SqL K H p (ns.map V.int)) : Ev (tCB (rSum K) (tCons ta tNil)) σ H (.int ns.sum) := fun H1 e Q q =>
  ha H1 e _ fun H2 e2 => ⟨p, ns, rfl, ex_l (e.trans e2) h, q H2 e2⟩
/-- all([..]), any([..]) -/
theorem ev_allN {bs : List Bool} (ha : EvL ta σ H (bs.map V.bl)) : Ev (tCB (rAll K) (tCons ta tNil)) σ H (.bl (bs.all id)) := fun H1 e Q q =>
  ha H1 e _ fun p H2 _ e2 h2 => ⟨p, bs, rfl, sq_of h2, q H2 e2⟩
theorem ev_anyN {bs : List Bool} (ha : EvL ta σ H (bs.map V.bl)) : Ev (tCB (rAny K) (tCons ta tNil)) σ H (.bl (bs.any id)) := fun H1 e Q q =>
  ha H1 e _ fun p H2 _ e2 h2 => ⟨p, bs, rfl, sq_of h2, q H2 e2⟩
theorem el_is {xs ys : List V} (h : EvL te σ H xs) (e : xs = ys) : EvL te σ H ys := by
  rw [← e]
  exact h
/-- isinstance of a list, a tuple -/
theorem rc_isi_tup {p : Addr} {xs : List V} (h : H p = some (.tup xs)) : RC (rIsi K) [.ref p, .ty "tuple"] H (.bl true) := rc_isi (.ty "tuple") (fun _ e => .base (.tup (e p _ h))) (kit_ty (by decide +kernel))
theorem rc_isi_lst {p : Addr} {xs : List V} (h : H p = some (.lst xs)) : RC (rIsi K) [.ref p, .ty "list"] H (.bl true) := rc_isi (.ty "list") (fun _ e => .base (.lst (e p _ h))) (kit_ty (by decide +kernel))
/-- what comes as some value, then the rest -/
theorem q_asgP {i : Nat} {R : V → Hp → Prop} (h : EvP te σ H R) (k : ∀ v H1, Ex H H1 → R v H1 → tz D (σ.set i (some v)) H1) : tSeq (tAsg te (gName i)) tz D σ H :=
  h H (Ex.refl H) _ fun v H1 e hR => k v H1 e hR
/-- the first operand some value -/
theorem ev_opP {R : V → Hp → Prop} (ha : EvP ta σ H R) (hb : ∀ v H1, Ex H H1 → R v H1 → ∀ H2, Ex H1 H2 → ∀ Q : VK, (∀ H3, Ex H2 H3 → Q z H3) → tb σ H2 fun y H3 => r v y H3 Q) : Ev (tOp r ta tb) σ H z := fun H1 e Q q =>
  ha H1 e _ fun v H2 e2 hR => hb v H2 (e.trans e2) hR H2 (Ex.refl H2) Q fun H3 e3 => q H3 (e2.trans e3)
end
end Sl
namespace Sl
open PySem PySem.Spec PyProof.Rows L2 Evl
section
variable {K : PySem.W.Frag} {σ : L2.St} {H H' : Hp} {ta tb tc te tx tl : TE} {x y z v : V}
theorem ev_lenI {p : Addr} {ns : List Int} (ha : Ev ta σ H (.ref p)) (h : SqL K H p (ns.map V.int)) : Ev (tCB (rLenS K) (tCons ta tNil)) σ H (.int (ns.length : Int)) := ev_is (ev_len ha h) (by rw [List.length_map])
theorem ev_lenO {p : Addr} {f : Int → Int} {n : Int} {m : Nat} (ha : Ev ta σ H (.ref p)) (h : SqL K H p ((orb f n m).map V.int)) : Ev (tCB (rLenS K) (tCons ta tNil)) σ H (.int (m : Int)) := ev_is (ev_len ha h) (by rw [List.length_map, orb_len])
theorem at_orb2 {f : Int → Int} {n : Int} {m : Nat} {k : Int} (h0 : 0 ≤ k) (h1 : k < m) : atI ((orb f n m).map V.int) k = some (.int (it f k.toNat n)) := by
  refine at_of (j := k.toNat) (by omega) ?_
  rw [List.getElem?_map, orb_get (by omega)] <;> rfl
theorem at_orb_last {f : Int → Int} {n : Int} {m : Nat} (h : 0 < m) : atI ((orb f n m).map V.int) (-1) = some (.int (it f (m - 1) n)) := by
  obtain ⟨k, rfl⟩ : ∃ k, m = k + 1 := ⟨m - 1, by omega⟩
  rw [orb_succ, List.map_append]
  exact atI_last _ _
end
theorem Course.of_check {f : Int → Int} {n : Int} {m c : Nat} (h : c < m) (hb : it f m n = it f c n) (hn : (orb f n m).Nodup) : Course f n m c := by
  refine ⟨h, hb, fun i j hi hj e => ?_⟩
  rw [List.nodup_iff_pairwise_ne] at hn
  have key : ∀ i j, i < j → j < m → it f i n ≠ it f j n := fun i j hij hj => by
    have g := List.pairwise_iff_getElem.mp hn i j (by rw [orb_len]; omega) (by rw [orb_len]; omega) hij
    have e1 := (List.getElem?_eq_some_iff.mp (orb_get (f := f) (n := n) (m := m) (i := i) (by omega))).2
    have e2 := (List.getElem?_eq_some_iff.mp (orb_get (f := f) (n := n) (m := m) (i := j) (by omega))).2
    rw [e1, e2] at g
    exact g
  rcases Nat.lt_trichotomy i j with h1 | h1 | h1
  · exact absurd e (key i j h1 hj)
  · exact h1
  · exact absurd e.symm (key j i h1 hi)
end Sl
namespace Sl
open PySem PySem.Spec PyProof.Rows L2 Evl
theorem ring_cut {f : Int → Int} {n : Int} {m c : Nat} (h : c ≤ m) : cutV ((orb f n m).map V.int) (some (c : Int)) none = (ring f n m c).map V.int := by
  rw [cut_drop (by rw [List.length_map, orb_len]; exact h), map_drop_int]
  rfl
theorem ring_pos {f : Int → Int} {n : Int} {m c : Nat} (h : c < m) : 0 < (ring f n m c).length := by
  unfold ring
  rw [List.length_drop, orb_len]
  omega
end Sl
namespace Sl
open PySem PySem.Spec PyProof.Rows L2 Evl
/-! ### new lists of new lists -/
structure Nst (H0 H : Hp) (p : Addr) (as : List Addr) (xss : List (List Int)) : Prop where
  top : H p = some (.lst (as.map V.ref))
  nd : (p :: as).Nodup
  new : ∀ a ∈ as, H0 a = none
  all : as.map H = xss.map fun ns => some (HO.lst (ns.map V.int))
theorem Nst.len {H0 H : Hp} {p : Addr} {as : List Addr} {xss : List (List Int)} (h : Nst H0 H p as xss) : as.length = xss.length := by
  have := congrArg List.length h.all
  simpa using this
theorem Nst.get {H0 H : Hp} {p : Addr} {as : List Addr} {xss : List (List Int)} (h : Nst H0 H p as xss) {i : Nat} {a : Addr} (e : as[i]? = some a) : ∃ ns, xss[i]? = some ns ∧ H a = some (.lst (ns.map V.int)) := by
  have := congrArg (fun l => l[i]?) h.all
  simp only [List.getElem?_map, e, Option.map_some] at this
  cases e2 : xss[i]? with
  | none =>
    rw [e2] at this
    cases this
  | some ns =>
    rw [e2] at this
    exact ⟨ns, rfl, Option.some.inj this⟩
theorem Nst.mem {H0 H : Hp} {p : Addr} {as : List Addr} {xss : List (List Int)} (h : Nst H0 H p as xss) {a : Addr} (e : a ∈ as) : ∃ ns, ns ∈ xss ∧ H a = some (.lst (ns.map V.int)) := by
  obtain ⟨i, hi⟩ := List.getElem?_of_mem e
  obtain ⟨ns, h1, h2⟩ := h.get hi
  exact ⟨ns, List.mem_of_getElem? h1, h2⟩
theorem map_ex {H H' : Hp} (e : Ex H H') : ∀ {as : List Addr} {xss : List (List Int)}, (as.map H = xss.map fun ns => some (HO.lst (ns.map V.int))) → (as.map H' = xss.map fun ns => some (HO.lst (ns.map V.int)))
  | [], [], _ => rfl
  | [], _ :: _, h => nomatch h
  | _ :: _, [], h => nomatch h
  | a :: as, ns :: xss, h => by
    rw [List.map_cons, List.map_cons] at h ⊢
    obtain ⟨h1, h2⟩ := List.cons.inj h
    rw [e a _ h1, map_ex e h2]
theorem Nst.ex {H0 H H' : Hp} {p : Addr} {as : List Addr} {xss : List (List Int)} (h : Nst H0 H p as xss) (e : Ex H H') : Nst H0 H' p as xss := ⟨e p _ h.top, h.nd, h.new, map_ex e h.all⟩
theorem nest_of {K : PySem.W.Frag} {H : Hp} : ∀ {as : List Addr} {xss : List (List Int)}, (as.map H = xss.map fun ns => some (HO.lst (ns.map V.int))) → Nest K H (as.map V.ref) xss
  | [], [], _ => True.intro
  | [], _ :: _, h => nomatch h
  | _ :: _, [], h => nomatch h
  | a :: as, ns :: xss, h => by
    rw [List.map_cons, List.map_cons] at h
    obtain ⟨h1, h2⟩ := List.cons.inj h
    exact ⟨⟨a, rfl, sq_of h1⟩, nest_of h2⟩
theorem Nst.nest {K : PySem.W.Frag} {H0 H : Hp} {p : Addr} {as : List Addr} {xss : List (List Int)} (h : Nst H0 H p as xss) : Nest K H (as.map V.ref) xss := nest_of h.all
def EvN (te : TE) (σ : L2.St) (H : Hp) (xss : List (List Int)) : Prop := ∀ H1, Ex H H1 → ∀ Q : VK, (∀ p as H2, H1 p = none → Ex H1 H2 → Nst H1 H2 p as xss → Q (.ref p) H2) → te σ H1 Q
def SpN (sp : Sp) (vs : List V) (H : Hp) (xss : List (List Int)) : Prop := ∀ H1, Ex H H1 → ∀ Q : VK, (∀ p as H2, H1 p = none → Ex H1 H2 → Nst H1 H2 p as xss → Q (.ref p) H2) → ∀ E : XK, sp vs H1 Q E
theorem Nst.back {H0 H1 H : Hp} {p : Addr} {as : List Addr} {xss : List (List Int)} (h : Nst H1 H p as xss) (e : Ex H0 H1) : Nst H0 H p as xss := ⟨h.top, h.nd, fun a ha => fresh_back e (h.new a ha), h.all⟩
/-- the word of a comprehension that makes such -/
def NW (H1 : Hp) (Dl : Addr) (xss : List (List Int)) (H' : Hp) : Prop := H1 Dl = none ∧ Ex H1 H' ∧ ∃ as, Nst H1 H' Dl as xss
section
variable {K : PySem.W.Frag} {σ : L2.St} {H H' : Hp} {ta tb tc te tx tl : TE} {t u : TT} {x y z v : V} {r r' : R2} {D : Ends} {tu tw tz : TS} {g : TG}
theorem nw_zero {Dl : Addr} (h : H Dl = none) : NW H Dl [] (upd H Dl (.lst [])) := ⟨h, Ex.new h, [], upd_same, by simp, (fun _ h => nomatch h), rfl⟩
theorem nw_turn {H1 : Hp} {Dl : Addr} {xss : List (List Int)} {ns : List Int} {σ2 : L2.St} (p : NW H1 Dl xss H') (hz : xss.length < 100000) (he : ∀ H2, Ex H1 H2 → EvL te σ2 H2 (ns.map V.int)) :
    tYes σ2 H' fun b H3 => if b = true then te σ2 H3 fun y H4 => ∃ acc, H4 Dl = some (.lst acc) ∧ acc.length < sizeLine ∧ NW H1 Dl (xss ++ [ns]) (upd H4 Dl (.lst (acc ++ [y]))) else NW H1 Dl (xss ++ [ns]) H3 := by
  obtain ⟨p1, p2, as, hN⟩ := p
  unfold tYes
  refine iteT ?_
  refine he H' p2 H' (Ex.refl H') _ fun q H4 nq e4 hq => ⟨as.map V.ref, e4 Dl _ hN.top, sz_lt ?_, p1, Ex.mut (p2.trans e4) p1, as ++ [q], ?_, ?_, ?_, ?_⟩
  · rw [List.length_map, hN.len]
    exact hz
  · rw [upd_same, List.map_append]
    rfl
  · have n1 := List.nodup_cons.mp hN.nd
    have qD : q ≠ Dl := fun e => by
      rw [e, hN.top] at nq
      cases nq
    have qa : q ∉ as := fun h => by
      obtain ⟨ns, _, h2⟩ := hN.mem h
      rw [h2] at nq
      cases nq
    refine List.nodup_cons.mpr ⟨fun h => ?_, ?_⟩
    · rcases List.mem_append.mp h with h | h
      · exact n1.1 h
      · exact qD (List.mem_singleton.mp h).symm
    · rw [List.nodup_append]
      refine ⟨n1.2, by simp, fun a ha b hb e => ?_⟩
      have : b = q := by simpa using hb
      rw [this] at e
      rw [e] at ha
      exact qa ha
  · intro a ha
    rcases List.mem_append.mp ha with h | h
    · exact hN.new a h
    · have : a = q := by simpa using h
      rw [this]
      exact fresh_back p2 nq
  · have hDn : ∀ a ∈ as ++ [q], upd H4 Dl (.lst (as.map V.ref ++ [.ref q])) a = H4 a := fun a ha => by
      refine upd_ne fun e => ?_
      rw [e] at ha
      rcases List.mem_append.mp ha with h | h
      · exact (List.nodup_cons.mp hN.nd).1 h
      · have e2 : Dl = q := by simpa using h
        rw [← e2, hN.top] at nq
        cases nq
    rw [List.map_congr_left hDn, List.map_append, List.map_append, map_ex e4 hN.all]
    simp [hq]
theorem wd {α : Type} {xs : List α} {i : Nat} {x : α} (h : xs[i]? = some x) : xs.take (i + 1) = xs.take i ++ [x] := by rw [List.take_add_one, h] <;> rfl
/-- over range(n) -/
theorem en_lcR1 {ta : TA} {j : Nat} {vs : List Nat} {n : Int} (xs : Nat → List Int) (h : EvA ta σ H [.int n]) (hn : 0 ≤ n ∧ n ≤ 40000) (hw : ∀ x, wipe ((wipe σ vs).set j (some x)) vs = wipe σ vs)
    (he : ∀ (i : Nat) H1, Ex H H1 → (i : Int) < n → EvL te ((wipe σ vs).set j (some (.int (i : Int)))) H1 ((xs i).map V.int)) :
    EvN (tLc (iRng1 ta) (gName j) tYes te vs) σ H ((List.range n.toNat).map xs) := fun H0 e Q q => h H0 e _ fun H1 e1 => ⟨n, rfl, by omega, by omega, fun Dl hD =>
  lc_range (lo := 0) (n := n.toNat) (fun i H' => NW H1 Dl ((List.range i).map xs) H') (nw_zero hD) (fun i H' hi p => by
    have e0 : (0 : Int) + (i : Int) = (i : Int) := Int.zero_add _
    show wipe ((wipe σ vs).set j (some (.int ((0 : Int) + (i : Int))))) vs = wipe σ vs ∧ tYes ((wipe σ vs).set j (some (.int ((0 : Int) + (i : Int))))) H' fun b H3 => if b = true then te ((wipe σ vs).set j (some (.int ((0 : Int) + (i : Int))))) H3 fun y H4 => ∃ acc, H4 Dl = some (.lst acc) ∧ acc.length < sizeLine ∧ NW H1 Dl ((List.range (i + 1)).map xs) (upd H4 Dl (.lst (acc ++ [y]))) else NW H1 Dl ((List.range (i + 1)).map xs) H3
    rw [e0, show (List.range (i + 1)).map xs = (List.range i).map xs ++ [xs i] by simp [List.range_succ]]
    exact ⟨hw _, nw_turn p (by simp; omega) fun H2 e2 => he i H2 ((e.trans e1).trans e2) (by omega)⟩) (fun H' p => by
    obtain ⟨p1, p2, as, hN⟩ := p
    exact q Dl as H' (fresh_back e1 p1) (e1.trans p2) (hN.back e1))⟩
/-- over range(lo, hi) -/
theorem en_lcR2 {ta : TA} {j : Nat} {vs : List Nat} {lo hi : Int} (xs : Int → List Int) (h : EvA ta σ H [.int lo, .int hi]) (hn : 0 ≤ lo ∧ lo ≤ 40000 ∧ -40000 ≤ hi ∧ hi ≤ 40000) (hw : ∀ x, wipe ((wipe σ vs).set j (some x)) vs = wipe σ vs)
    (he : ∀ (i : Int) H1, Ex H H1 → lo ≤ i → i < hi → EvL te ((wipe σ vs).set j (some (.int i))) H1 ((xs i).map V.int)) :
    EvN (tLc (iRng2 ta) (gName j) tYes te vs) σ H ((rng lo hi).map xs) := fun H0 e Q q => h H0 e _ fun H1 e1 => ⟨lo, hi, rfl, ⟨by omega, by omega, by omega, by omega⟩, fun Dl hD =>
  lc_range (lo := lo) (n := (hi - lo).toNat) (fun i H' => NW H1 Dl ((List.range i).map fun (k : Nat) => xs (lo + (k : Int))) H') (nw_zero hD) (fun i H' hi p => by
    show wipe ((wipe σ vs).set j (some (.int (lo + (i : Int))))) vs = wipe σ vs ∧ tYes ((wipe σ vs).set j (some (.int (lo + (i : Int))))) H' fun b H3 => if b = true then te ((wipe σ vs).set j (some (.int (lo + (i : Int))))) H3 fun y H4 => ∃ acc, H4 Dl = some (.lst acc) ∧ acc.length < sizeLine ∧ NW H1 Dl ((List.range (i + 1)).map fun (k : Nat) => xs (lo + (k : Int))) (upd H4 Dl (.lst (acc ++ [y]))) else NW H1 Dl ((List.range (i + 1)).map fun (k : Nat) => xs (lo + (k : Int))) H3
    rw [show ((List.range (i + 1)).map fun (k : Nat) => xs (lo + (k : Int))) = ((List.range i).map fun (k : Nat) => xs (lo + (k : Int))) ++ [xs (lo + (i : Int))] by simp [List.range_succ]]
    exact ⟨hw _, nw_turn p (by simp; omega) fun H2 e2 => he (lo + (i : Int)) H2 ((e.trans e1).trans e2) (by omega) (by omega)⟩) (fun H' p => by
    obtain ⟨p1, p2, as, hN⟩ := p
    have hN2 := hN.back e1
    rw [show ((List.range (hi - lo).toNat).map fun (k : Nat) => xs (lo + (k : Int))) = (rng lo hi).map xs by unfold rng; rw [List.map_map]; rfl] at hN2
    exact q Dl as H' (fresh_back e1 p1) (e1.trans p2) hN2)⟩
/-- over a new list of ints -/
theorem en_lcNL {ms : List Int} {j : Nat} {vs : List Nat} (xs : Int → List Int) (h : EvL tl σ H (ms.map V.int)) (hz : ms.length ≤ 40000) (hw : ∀ x, wipe ((wipe σ vs).set j (some x)) vs = wipe σ vs)
    (he : ∀ m ∈ ms, ∀ H1, Ex H H1 → EvL te ((wipe σ vs).set j (some (.int m))) H1 ((xs m).map V.int)) :
    EvN (tLc (iList K tl) (gName j) tYes te vs) σ H (ms.map xs) := fun H0 e Q q => h H0 e _ fun a H1 ha e1 hx => ⟨a, rfl, ⟨ms.map V.int, sq_of hx⟩, fun Dl hD =>
  lc_list (xs := ms.map V.int) (fun i H' => NW H1 Dl ((ms.take i).map xs) H') (nw_zero hD) (fun i H' _ p => sq_of (p.2.1 a _ hx))
    (fun i x H' hi p => by
      rw [List.getElem?_map] at hi
      cases em : ms[i]? with
      | none =>
        rw [em] at hi
        cases hi
      | some m =>
        rw [em] at hi
        have ex : V.int m = x := Option.some.inj hi
        subst ex
        have hlt := (List.getElem?_eq_some_iff.mp em).1
        rw [wd em, List.map_append]
        exact ⟨hw _, nw_turn (ns := xs m) p (by rw [List.length_map, List.length_take]; omega) fun H2 e2 => he m (List.mem_of_getElem? em) H2 ((e.trans e1).trans e2)⟩)
    (fun H' p => by
      obtain ⟨p1, p2, as, hN⟩ := p
      rw [List.length_map, List.take_length] at hN
      exact q Dl as H' (fresh_back e1 p1) (e1.trans p2) (hN.back e1))⟩
/-- [[]] -/
theorem en_one : EvN (tLst (tCons (tLst tNil) tNil)) σ H [[]] := fun H1 e Q q => ⟨Nat.zero_le _, fun a ha => ⟨by show 1 ≤ sizeLine; decide, fun p hp => by
  have hpa : p ≠ a := fun e => by
    rw [e, upd_same] at hp
    cases hp
  have hp0 : H1 p = none := by
    rw [upd_ne hpa] at hp
    exact hp
  refine q p [a] _ hp0 ((Ex.new ha).trans (Ex.new hp)) ⟨upd_same, by simpa using hpa, fun b hb => ?_, ?_⟩
  · have : b = a := by simpa using hb
    rw [this]
    exact ha
  · show [upd (upd H1 a (.lst [])) p _ a] = _
    rw [upd_ne hpa.symm, upd_same]
    rfl⟩⟩
theorem en_call {sp : Sp} {dvs vs : List V} {xss : List (List Int)} {E : XK} {ta : TA} (h : EvA ta σ H vs) (hs : SpN sp (vs ++ dvs) H xss) : EvN (tCall sp dvs E ta) σ H xss := fun H1 e Q q =>
  h H1 e _ fun H2 e2 => hs H2 (e.trans e2) Q (fun p as H3 hp e3 h3 => q p as H3 (fresh_back e2 hp) (e2.trans e3) (h3.back e2)) E
theorem en_is {xss yss : List (List Int)} (h : EvN te σ H xss) (e : xss = yss) : EvN te σ H yss := by
  rw [← e]
  exact h
theorem q_asgN {i : Nat} {xss : List (List Int)} (h : EvN te σ H xss) (k : ∀ p as H1, H p = none → Ex H H1 → Nst H H1 p as xss → tz D (σ.set i (some (.ref p))) H1) : tSeq (tAsg te (gName i)) tz D σ H := h H (Ex.refl H) _ fun p as H1 hp e h1 => k p as H1 hp e h1
theorem s_retN {xss : List (List Int)} (h : EvN te σ H xss) (k : ∀ p as H1, H p = none → Ex H H1 → Nst H H1 p as xss → D.rt (.ref p) H1) : tRet te D σ H := h H (Ex.refl H) _ k
theorem s_extN {l : Addr} {xs : List V} {yss : List (List Int)} (hl : H l = some (.lst xs)) (ha : Ev ta σ H (.ref l)) (h : EvN te σ H yss) (hz : xs.length + yss.length ≤ 100000) (k : ∀ p as H2, H p = none → Ex H H2 → Nst H H2 p as yss → D.nx σ (upd H2 l (.lst (xs ++ as.map V.ref)))) :
    tDrop (tBM K "list" rExtend ta (tCons te tNil)) D σ H := ha H (Ex.refl H) _ fun H1 e1 =>
  ⟨Or.inl ⟨rfl, xs, sq_of (e1 l _ hl)⟩, h H1 e1 _ fun p as H2 hp e2 hN => ⟨l, p, xs, as.map V.ref, rfl, rfl, e2 l _ (e1 l _ hl), hN.top, by
    have := hN.len
    refine sz_of ?_
    rw [List.length_map, this]
    exact hz, k p as H2 (fresh_back e1 hp) (e1.trans e2) (hN.back e1)⟩⟩
/-- what is walked comes as some value -/
theorem q_forLP {R : Addr → List V → Hp → Prop} {j : Nat} (h : EvP tl σ H fun v H1 => ∃ p xs, v = .ref p ∧ SqL K H1 p xs ∧ R p xs H1)
    (k : ∀ p xs H1, Ex H H1 → SqL K H1 p xs → R p xs H1 → tSeq (tFor (iList K (tC (.ref p))) (gName j) tu) tz D σ H1) : tSeq (tFor (iList K tl) (gName j) tu) tz D σ H :=
  h H (Ex.refl H) _ fun v H1 e ⟨p, xs, ev, hx, hR⟩ => by
    subst ev
    exact k p xs H1 e hx hR
theorem q_forN {xss : List (List Int)} {j : Nat} (h : EvN tl σ H xss) (k : ∀ p as H1, H p = none → Ex H H1 → Nst H H1 p as xss → tSeq (tFor (iList K (tC (.ref p))) (gName j) tu) tz D σ H1) : tSeq (tFor (iList K tl) (gName j) tu) tz D σ H :=
  h H (Ex.refl H) _ fun p as H1 hp e hN => k p as H1 hp e hN
theorem s_forN {xss : List (List Int)} {j : Nat} (h : EvN tl σ H xss) (k : ∀ p as H1, H p = none → Ex H H1 → Nst H H1 p as xss → tFor (iList K (tC (.ref p))) (gName j) tu D σ H1) : tFor (iList K tl) (gName j) tu D σ H :=
  h H (Ex.refl H) _ fun p as H1 hp e hN => k p as H1 hp e hN
/-- for i, x in enumerate(xs) -/
theorem q_forEnum {ta : TA} {i j : Nat} {a : Addr} {xs : List V} (h : EvA ta σ H [.ref a]) (hx : SqL K H a xs) (Pv : Nat → L2.St → Hp → Prop) (h0 : ∀ H1, Ex H H1 → Pv 0 σ H1) (hG : ∀ k σ' H', k ≤ xs.length → Pv k σ' H' → SqL K H' a xs)
    (hs : ∀ (k : Nat) x σ' H' H2, xs[k]? = some x → Pv k σ' H' → Ex H' H2 → tu { D with nx := Pv (k + 1), ct := Pv (k + 1), bk := tz D } ((σ'.set i (some (.int (k : Int)))).set j (some x)) H2) (hd : ∀ σ' H', Pv xs.length σ' H' → tz D σ' H') :
    tSeq (tFor (iEnum K ta) (gTup K 2 (gCons (gName i) (gCons (gName j) gNil))) tu) tz D σ H :=
  h H (Ex.refl H) _ fun H1 e => ⟨a, xs, rfl, ex_l e hx, for_it (D := { D with nx := tz D }) walk_enum Pv (h0 H1 e) hG (fun k x σ' H' H2 _ p y => by
    obtain ⟨T, v1, v2, e1, nT, e2, e3, e4⟩ := y
    subst e1 e2
    have e3' : V.int (k : Nat) = v1 := Option.some.inj e3
    subst e3'
    exact ⟨T, _, rfl, st_of upd_same, rfl, _, _, rfl, _, _, rfl, rfl, hs k v2 σ' H' _ e4 p (Ex.new nT)⟩) hd⟩
/-- l + r, both new lists | xs + r -/
theorem el_catNN {xs ys : List V} (ha : EvL ta σ H xs) (hb : EvL tb σ H ys) (hz : xs.length + ys.length ≤ 100000) : EvL (tOp rCat ta tb) σ H (xs ++ ys) := fun H1 e Q q =>
  ha H1 e _ fun p H2 np e2 hp => hb H2 (e.trans e2) _ fun r H3 _ e3 hr => ⟨p, r, xs, ys, rfl, rfl, e3 p _ hp, hr, sz_of hz, fun s hs => q s _ (fresh_back (e2.trans e3) hs) ((e2.trans e3).trans (Ex.new hs)) upd_same⟩
theorem el_catN {l : Addr} {xs ys : List V} (ha : Ev ta σ H (.ref l)) (hl : H l = some (.lst xs)) (hb : EvL tb σ H ys) (hz : xs.length + ys.length ≤ 100000) : EvL (tOp rCat ta tb) σ H (xs ++ ys) := fun H1 e Q q =>
  ha H1 e _ fun H2 e2 => hb H2 (e.trans e2) _ fun r H3 _ e3 hr => ⟨l, r, xs, ys, rfl, rfl, ((e.trans e2).trans e3) l _ hl, hr, sz_of hz, fun s hs => q s _ (fresh_back (e2.trans e3) hs) ((e2.trans e3).trans (Ex.new hs)) upd_same⟩
/-- xs.index(y), the first one -/
theorem ev_index {l : Addr} {ns : List Int} {m : Int} (ha : Ev ta σ H (.ref l)) (hl : SqL K H l (ns.map V.int)) (hb : Ev tb σ H (.int m)) {j : Nat} (hj : ns[j]? = some m) (hf : ∀ i k, i < j → ns[i]? = some k → k ≠ m) : Ev (tBM K "list" (rIndex K) ta (tCons tb tNil)) σ H (.int (j : Int)) := fun H1 e Q q =>
  ha H1 e _ fun H2 e2 => ⟨Or.inl ⟨rfl, _, ex_l (e.trans e2) hl⟩, hb H2 (e.trans e2) _ fun H3 e3 => ⟨l, ns.map V.int, .int m, j, .int m, rfl, rfl, ex_l ((e.trans e2).trans e3) hl, rfl, by
    rw [List.all_map]
    exact List.all_eq_true.mpr fun _ _ => rfl, by rw [List.getElem?_map, hj]; rfl, by simp [eqV], fun i z' hi hz => by
    rw [List.getElem?_map] at hz
    cases ek : ns[i]? with
    | none =>
      rw [ek] at hz
      cases hz
    | some k =>
      rw [ek] at hz
      have e5 : V.int k = z' := Option.some.inj hz
      subst e5
      have := hf i k hi ek
      simp [eqV, this], q H3 (e2.trans e3)⟩⟩
theorem flat_ints (ns : List Int) : (ns.map V.int).all flatV = true := by
  rw [List.all_map]
  exact List.all_eq_true.mpr fun _ _ => rfl
theorem in_ints {ns : List Int} {m : Int} : inV (.int m) (ns.map V.int) = decide (m ∈ ns) := by
  induction ns with
  | nil => simp [inV]
  | cons n ns ih =>
    unfold inV at ih ⊢
    rw [List.map_cons, List.any_cons, ih]
    by_cases h : m = n
    · subst h
      simp [eqV]
    · have h' : ¬ n = m := fun e => h e.symm
      simp [eqV, h, h']
end
end Sl
namespace Sl
open PySem PySem.Spec PyProof.Rows L2 Evl
theorem Nst.extend {H0 H H2 : Hp} {l p : Addr} {bs as : List Addr} {xss yss : List (List Int)} (h : Nst H0 H l bs xss) (e0 : Ex H0 H) (e : Ex H H2) (g : Nst H H2 p as yss) : Nst H0 (upd H2 l (.lst (bs.map V.ref ++ as.map V.ref))) l (bs ++ as) (xss ++ yss) := by
  have n1 := List.nodup_cons.mp h.nd
  have n2 := (List.nodup_cons.mp g.nd).2
  have la : l ∉ as := fun q => by
    have := g.new l q
    rw [h.top] at this
    cases this
  have hl : ∀ a ∈ bs ++ as, upd H2 l (.lst (bs.map V.ref ++ as.map V.ref)) a = H2 a := fun a ha => by
    refine upd_ne fun q => ?_
    rw [q] at ha
    rcases List.mem_append.mp ha with q | q
    · exact n1.1 q
    · exact la q
  refine ⟨by rw [upd_same, List.map_append], List.nodup_cons.mpr ⟨fun q => ?_, ?_⟩, fun a ha => ?_, ?_⟩
  · rcases List.mem_append.mp q with q | q
    · exact n1.1 q
    · exact la q
  · rw [List.nodup_append]
    refine ⟨n1.2, n2, fun a ha b hb q => ?_⟩
    obtain ⟨ns, _, h2⟩ := h.mem ha
    have := g.new b hb
    rw [← q, h2] at this
    cases this
  · rcases List.mem_append.mp ha with q | q
    · exact h.new a q
    · exact fresh_back e0 (g.new a q)
  · rw [List.map_congr_left hl, List.map_append, List.map_append, map_ex e h.all, g.all]
theorem last_at {s : List Int} {y : Int} (h : s.getLast? = some y) : atI (s.map V.int) (-1) = some (.int y) := by
  rcases List.eq_nil_or_concat s with e | ⟨m, z, e⟩
  · rw [e] at h
    cases h
  · rw [List.concat_eq_append] at e
    subst e
    rw [List.getLast?_concat] at h
    cases h
    rw [List.map_append]
    exact atI_last _ _
theorem getLast_ne {s : List Int} (h : s ≠ []) : ∃ y, s.getLast? = some y := by
  cases e : s.getLast? with
  | none => exact absurd (List.getLast?_eq_none_iff.mp e) h
  | some y => exact ⟨y, rfl⟩
end Sl
namespace Sl
open PySem PySem.Spec PyProof.Rows L2 Evl
theorem pe_revLK {X : Cx} {K : PySem.W.Frag} {e : Expr} {te : TE} {k : Nat} {p1 p2 p3 pos : Pos} (hK : X.K = K) (he : PE X e te) : PE X (.Subscript e (.Slice none none (some (.UnaryOp .USub (.Constant (.int 1) k p1) p2)) p3) pos) (tRevL K te) := by
  subst hK
  exact pe_revL he
theorem pi_listK {X : Cx} {K : PySem.W.Frag} {tg l : Expr} {tl : TE} (hK : X.K = K) (hl : PE X l tl) : PI X tg l (iList K tl) := by
  subst hK
  exact pi_list hl
end Sl
namespace Sl
open PySem PySem.Spec PyProof.Rows L2 Evl
/-! ### dicts by their int keys, in order -/
structure KI (kvs : List (Key × V)) (ks : List Int) : Prop where
  keys : kvs.map (·.1) = ks.map Sum.inl
  nd : ks.Nodup
theorem KI.nil : KI [] [] := ⟨rfl, by simp⟩
theorem KI.len {kvs : List (Key × V)} {ks : List Int} (h : KI kvs ks) : kvs.length = ks.length := by
  have := congrArg List.length h.keys
  simpa using this
theorem KI.vals {kvs : List (Key × V)} {ks : List Int} (h : KI kvs ks) : (kvs.map fun kv => kV kv.1) = ks.map V.int := by
  have e : (kvs.map fun kv => kV kv.1) = (kvs.map (·.1)).map kV := by rw [List.map_map]; rfl
  rw [e, h.keys, List.map_map]
  rfl
theorem KI.some_iff {kvs : List (Key × V)} {ks : List Int} (h : KI kvs ks) (k : Int) : (valV kvs (.inl k)).isSome = true ↔ k ∈ ks := by
  have e : (Sum.inl k : Key) ∈ kvs.map (·.1) ↔ k ∈ ks := by
    rw [h.keys, List.mem_map]
    constructor
    · rintro ⟨x, hx, q⟩
      cases q
      exact hx
    · intro hk
      exact ⟨k, hk, rfl⟩
  rw [← e]
  cases q : valV kvs (.inl k) with
  | none =>
    have := valV_not q
    simp [this]
  | some v =>
    have := valV_in q
    simp only [Option.isSome_some, true_iff]
    exact this
theorem KI.none_iff {kvs : List (Key × V)} {ks : List Int} (h : KI kvs ks) (k : Int) : valV kvs (.inl k) = none ↔ k ∉ ks := by
  rw [← h.some_iff k]
  cases valV kvs (.inl k) <;> simp
theorem KI.put {kvs : List (Key × V)} {ks : List Int} (h : KI kvs ks) (k : Int) (v : V) : KI (putK kvs (.inl k) v) (if k ∈ ks then ks else ks ++ [k]) := by
  by_cases hk : k ∈ ks
  · rw [if_pos hk]
    refine ⟨?_, h.nd⟩
    unfold putK
    rw [valV_any, if_pos ((h.some_iff k).mpr hk), List.map_map, ← h.keys]
    refine List.map_congr_left fun kv _ => ?_
    show (if kv.1 = Sum.inl k then (kv.1, v) else kv).1 = kv.1
    split <;> rfl
  · rw [if_neg hk, putK_new _ ((h.none_iff k).mpr hk)]
    refine ⟨?_, ?_⟩
    · rw [List.map_append, h.keys, List.map_append]
      rfl
    · rw [List.nodup_append]
      refine ⟨h.nd, by simp, fun a ha b hb e => ?_⟩
      have : b = k := by simpa using hb
      rw [← this, ← e] at hk
      exact hk ha
theorem valV_putI (kvs : List (Key × V)) (k j : Int) (v : V) : valV (putK kvs (.inl k) v) (.inl j) = if j = k then some v else valV kvs (.inl j) := by
  rw [valV_put]
  by_cases e : j = k
  · rw [if_pos (by rw [e]), if_pos e]
  · rw [if_neg (fun q => e (Sum.inl.inj q)), if_neg e]
/-- all but d stands as before -/
def ExB (d : Addr) (H H2 : Hp) : Prop := ∀ a o, a ≠ d → H a = some o → H2 a = some o
theorem Ex.exB {d : Addr} {H H2 : Hp} (e : Ex H H2) : ExB d H H2 := fun a o _ h => e a o h
theorem ExB.trans {d : Addr} {H H1 H2 : Hp} (e : ExB d H H1) (e2 : ExB d H1 H2) : ExB d H H2 := fun a o n h => e2 a o n (e a o n h)
theorem ExB.ex {d : Addr} {H H1 H2 : Hp} (e : ExB d H H1) (e2 : Ex H1 H2) : ExB d H H2 := fun a o n h => e2 a o (e a o n h)
theorem ExB.upd {d : Addr} {H H2 : Hp} {o : HO} (e : ExB d H H2) : ExB d H (upd H2 d o) := fun a u n h => by
  rw [upd_ne n]
  exact e a u n h
/-- of what H did not know d may change -/
theorem ExB.base {d : Addr} {H0 H H2 : Hp} (e0 : Ex H0 H) (e : ExB d H H2) (n : H0 d = none) : Ex H0 H2 := fun a o h => e a o (ne_of_none h n) (e0 a o h)
/-- each told number with the least one of its round -/
structure Snd (f : Int → Int) (S : List Int) (kvs : List (Key × V)) : Prop where
  ki : ∃ ks, KI kvs ks ∧ ∀ k ∈ ks, k ∈ S
  ok : ∀ k v, valV kvs (.inl k) = some v → ∃ r, v = .int r ∧ IsLst f k r
theorem Snd.nil {f : Int → Int} {S : List Int} : Snd f S [] := ⟨⟨[], KI.nil, fun _ h => nomatch h⟩, fun _ _ h => nomatch h⟩
theorem Snd.put {f : Int → Int} {S : List Int} {kvs : List (Key × V)} (h : Snd f S kvs) {k r : Int} (hk : k ∈ S) (hr : IsLst f k r) : Snd f S (putK kvs (.inl k) (.int r)) := by
  obtain ⟨ks, h1, h2⟩ := h.ki
  refine ⟨⟨_, h1.put k _, fun j hj => ?_⟩, fun j v hv => ?_⟩
  · split at hj
    · exact h2 j hj
    · rcases List.mem_append.mp hj with q | q
      · exact h2 j q
      · have : j = k := by simpa using q
        rw [this]
        exact hk
  · rw [valV_putI] at hv
    split at hv
    · rename_i e
      rw [e]
      exact ⟨r, (Option.some.inj hv).symm, hr⟩
    · exact h.ok j v hv
theorem Snd.len {f : Int → Int} {S : List Int} {kvs : List (Key × V)} (h : Snd f S kvs) : kvs.length ≤ S.length := by
  obtain ⟨ks, h1, h2⟩ := h.ki
  rw [h1.len]
  exact h1.nd.length_le_of_subset h2
end Sl
namespace Sl
open PySem PySem.Spec PyProof.Rows L2 Evl
/-! ### comprehensions, place by place -/
section
variable {K : PySem.W.Frag} {σ : L2.St} {H H' : Hp} {ta tb tc te tx tl td : TE} {t u : TT} {x y z v : V} {r r' : R2} {D : Ends} {tu tw tz : TS} {g : TG} {j : Nat} {vs : List Nat} {xs zs : List V}
/-- the word: so many of zs are there -/
def LW (H1 : Hp) (Dl : Addr) (zs : List V) (i : Nat) (H' : Hp) : Prop := H1 Dl = none ∧ Ex H1 H' ∧ H' Dl = some (.lst (zs.take i))
theorem lw_zero {H1 : Hp} {Dl : Addr} (h : H1 Dl = none) : LW H1 Dl zs 0 (upd H1 Dl (.lst [])) := ⟨h, Ex.new h, upd_same⟩
theorem lw_turn {H1 : Hp} {Dl : Addr} {i : Nat} {z : V} {σ2 : L2.St} (hz : zs[i]? = some z) (hl : zs.length ≤ 40000) (p : LW H1 Dl zs i H') (he : ∀ H2, Ex H1 H2 → Ev te σ2 H2 z) :
    tYes σ2 H' fun b H3 => if b = true then te σ2 H3 fun y H4 => ∃ acc, H4 Dl = some (.lst acc) ∧ acc.length < sizeLine ∧ LW H1 Dl zs (i + 1) (upd H4 Dl (.lst (acc ++ [y]))) else LW H1 Dl zs (i + 1) H3 := by
  obtain ⟨p1, p2, p3⟩ := p
  unfold tYes
  refine iteT ?_
  refine he H' p2 H' (Ex.refl H') _ fun H4 e4 => ⟨_, e4 Dl _ p3, sz_lt ?_, p1, Ex.mut (p2.trans e4) p1, ?_⟩
  · rw [List.length_take]
    omega
  · rw [upd_same, wd hz]
theorem get_of_len {i : Nat} {x : V} (hl : zs.length = xs.length) (h : xs[i]? = some x) : ∃ z, zs[i]? = some z := by
  have := (List.getElem?_eq_some_iff.mp h).1
  exact ⟨zs[i]'(by omega), List.getElem?_eq_getElem _⟩
/-- over a list -/
theorem el_zipL {a : Addr} (h : Ev tl σ H (.ref a)) (hx : SqL K H a xs) (hl : zs.length = xs.length) (hz : zs.length ≤ 40000) (hw : ∀ x, wipe ((wipe σ vs).set j (some x)) vs = wipe σ vs) (he : ∀ (i : Nat) x z, xs[i]? = some x → zs[i]? = some z → ∀ H1, Ex H H1 → Ev te ((wipe σ vs).set j (some x)) H1 z) :
    EvL (tLc (iList K tl) (gName j) tYes te vs) σ H zs := fun H0 e Q q => h H0 e _ fun H1 e1 => ⟨a, rfl, ⟨xs, ex_l (e.trans e1) hx⟩, fun Dl hD =>
  lc_list (xs := xs) (fun i H' => LW H1 Dl zs i H') (lw_zero hD) (fun i H' _ p => ex_l ((e.trans e1).trans p.2.1) hx)
    (fun i x H' hi p => by
      obtain ⟨z, ez⟩ := get_of_len hl hi
      exact ⟨hw x, lw_turn ez hz p fun H2 e2 => he i x z hi ez H2 ((e.trans e1).trans e2)⟩)
    (fun H' p => q Dl H' (fresh_back e1 p.1) (e1.trans p.2.1) (by rw [p.2.2, ← hl, List.take_length]))⟩
/-- over new lists -/
theorem el_zipN {xss : List (List Int)} (h : EvN tl σ H xss) (hl : zs.length = xss.length) (hz : zs.length ≤ 40000) (hw : ∀ x, wipe ((wipe σ vs).set j (some x)) vs = wipe σ vs) (he : ∀ (i : Nat) a ns z, xss[i]? = some ns → zs[i]? = some z → ∀ H1, Ex H H1 → H1 a = some (.lst (ns.map V.int)) → Ev te ((wipe σ vs).set j (some (.ref a))) H1 z) :
    EvL (tLc (iList K tl) (gName j) tYes te vs) σ H zs := fun H0 e Q q => h H0 e _ fun a as H1 ha e1 hN => ⟨a, rfl, ⟨_, sq_of hN.top⟩, fun Dl hD =>
  lc_list (xs := as.map V.ref) (fun i H' => LW H1 Dl zs i H') (lw_zero hD) (fun i H' _ p => sq_of (hN.ex p.2.1).top)
    (fun i x H' hi p => by
      obtain ⟨z, ez⟩ := get_of_len (zs := zs) (by rw [hl, List.length_map, hN.len]) hi
      rw [List.getElem?_map] at hi
      cases ea : as[i]? with
      | none =>
        rw [ea] at hi
        cases hi
      | some b =>
        rw [ea] at hi
        have ex : V.ref b = x := Option.some.inj hi
        subst ex
        obtain ⟨ns, en, hb⟩ := hN.get ea
        exact ⟨hw _, lw_turn ez hz p fun H2 e2 => he i b ns z en ez H2 ((e.trans e1).trans e2) (e2 b _ hb)⟩)
    (fun H' p => q Dl H' (fresh_back e1 p.1) (e1.trans p.2.1) (by rw [p.2.2, List.length_map, hN.len, ← hl, List.take_length]))⟩
/-- over a list of lists that stands -/
theorem el_zipA {a : Addr} {as : List Addr} {xss : List (List Int)} {Hb : Hp} (h : Ev tl σ H (.ref a)) (hN : Nst Hb H a as xss) (hl : zs.length = xss.length) (hz : zs.length ≤ 40000) (hw : ∀ x, wipe ((wipe σ vs).set j (some x)) vs = wipe σ vs) (he : ∀ (i : Nat) b ns z, xss[i]? = some ns → zs[i]? = some z → ∀ H1, Ex H H1 → H1 b = some (.lst (ns.map V.int)) → Ev te ((wipe σ vs).set j (some (.ref b))) H1 z) :
    EvL (tLc (iList K tl) (gName j) tYes te vs) σ H zs :=
  el_zipL h (sq_of hN.top) (by rw [hl, List.length_map, hN.len]) hz hw fun i x z hi ez H1 e1 => by
    rw [List.getElem?_map] at hi
    cases ea : as[i]? with
    | none =>
      rw [ea] at hi
      cases hi
    | some b =>
      rw [ea] at hi
      have ex : V.ref b = x := Option.some.inj hi
      subst ex
      obtain ⟨ns, en, hb⟩ := hN.get ea
      exact he i b ns z en ez H1 e1 (e1 b _ hb)
/-- two lists as arguments -/
def EvA2 (K : PySem.W.Frag) (ta : TA) (σ : L2.St) (H : Hp) (xs ys : List V) : Prop := ∀ H1, Ex H H1 → ∀ Q : List V → Hp → Prop, (∀ a b H2, Ex H1 H2 → SqL K H2 a xs → SqL K H2 b ys → Q [.ref a, .ref b] H2) → ta σ H1 Q
theorem e2_vv {a b : Addr} {xs ys : List V} (h1 : Ev ta σ H (.ref a)) (h2 : Ev tb σ H (.ref b)) (s1 : SqL K H a xs) (s2 : SqL K H b ys) : EvA2 K (tCons ta (tCons tb tNil)) σ H xs ys := fun H1 e Q q =>
  h1 H1 e _ fun H2 e2 => h2 H2 (e.trans e2) _ fun H3 e3 => q a b H3 (e2.trans e3) (ex_l ((e.trans e2).trans e3) s1) (ex_l ((e.trans e2).trans e3) s2)
theorem e2_vn {a : Addr} {xs ys : List V} (h1 : Ev ta σ H (.ref a)) (h2 : EvL tb σ H ys) (s1 : SqL K H a xs) : EvA2 K (tCons ta (tCons tb tNil)) σ H xs ys := fun H1 e Q q =>
  h1 H1 e _ fun H2 e2 => h2 H2 (e.trans e2) _ fun b H3 _ e3 hb => q a b H3 (e2.trans e3) (ex_l ((e.trans e2).trans e3) s1) (sq_of hb)
theorem e2_nv {b : Addr} {xs ys : List V} (h1 : EvL ta σ H xs) (h2 : Ev tb σ H (.ref b)) (s2 : SqL K H b ys) : EvA2 K (tCons ta (tCons tb tNil)) σ H xs ys := fun H1 e Q q =>
  h1 H1 e _ fun a H2 _ e2 ha => h2 H2 (e.trans e2) _ fun H3 e3 => q a b H3 (e2.trans e3) (sq_of (e3 a _ ha)) (ex_l ((e.trans e2).trans e3) s2)
/-- [e for a, b in zip(xs, ys)] -/
theorem el_zip2 {ta : TA} {i : Nat} {xs ys : List V} (h : EvA2 K ta σ H xs ys) (hl : zs.length = min xs.length ys.length) (hz : zs.length ≤ 40000) (hw : ∀ x y, wipe (((wipe σ vs).set i (some x)).set j (some y)) vs = wipe σ vs) (he : ∀ (k : Nat) x y z, xs[k]? = some x → ys[k]? = some y → zs[k]? = some z → ∀ H1, Ex H H1 → Ev te (((wipe σ vs).set i (some x)).set j (some y)) H1 z) :
    EvL (tLc (iZip K ta) (gTup K 2 (gCons (gName i) (gCons (gName j) gNil))) tYes te vs) σ H zs := fun H0 e Q q => h H0 e _ fun a b H1 e1 ha hb => ⟨a, b, xs, ys, rfl, ha, hb, fun Dl hD =>
  lc_it (walk_zip (xs := xs) (ys := ys) rfl) (fun k H' => LW H1 Dl zs k H') (lw_zero hD) (fun k H' _ p => ⟨ex_l p.2.1 ha, ex_l p.2.1 hb⟩)
    (fun k x H2 H3 hk p y => by
      obtain ⟨T, v1, v2, e1', nT, e2', e3', e4'⟩ := y
      subst e1' e2'
      obtain ⟨z, ez⟩ : ∃ z, zs[k]? = some z := ⟨zs[k]'(by omega), List.getElem?_eq_getElem _⟩
      refine ⟨T, _, rfl, st_of upd_same, rfl, _, _, rfl, _, _, rfl, rfl, hw _ _, ?_⟩
      have p' : LW H1 Dl zs k (upd H2 T (.tup [v1, v2])) := ⟨p.1, p.2.1.trans (Ex.new nT), by
        rw [upd_ne fun q => by rw [← q, p.2.2] at nT; cases nT]
        exact p.2.2⟩
      exact lw_turn ez hz p' fun H5 e5 => he k v1 v2 z e3' e4' ez H5 ((e.trans e1).trans e5))
    (fun H' p => q Dl H' (fresh_back e1 p.1) (e1.trans p.2.1) (by rw [p.2.2, ← hl, List.take_length]))⟩
/-- d = {} -/
theorem q_asgD {i : Nat} (k : ∀ d H1, H d = none → Ex H H1 → H1 d = some (.dK []) → tz D (σ.set i (some (.ref d))) H1) : tSeq (tAsg tDNewK (gName i)) tz D σ H := fun d hd => k d _ hd (Ex.new hd) upd_same
/-- a, b = {}, [] | {}, {} -/
theorem q_parDL {i j : Nat} (q : ∀ d p H1, H d = none → H p = none → p ≠ d → Ex H H1 → H1 d = some (.dK []) → H1 p = some (.lst []) → tz D ((σ.set i (some (.ref d))).set j (some (.ref p))) H1) : tSeq (tPar i j (tCons tDNewK (tCons (tLst tNil) tNil))) tz D σ H :=
  fun d hd => ⟨Nat.zero_le _, fun p hp => ⟨_, _, rfl, by
    have npd : p ≠ d := fun e => by
      rw [e, upd_same] at hp
      cases hp
    have hp0 : H p = none := by
      rw [upd_ne npd] at hp
      exact hp
    exact q d p _ hd hp0 npd ((Ex.new hd).trans (Ex.new hp)) (by rw [upd_ne npd.symm, upd_same]) upd_same⟩⟩
theorem q_parDD {i j : Nat} (q : ∀ d p H1, H d = none → H p = none → p ≠ d → Ex H H1 → H1 d = some (.dK []) → H1 p = some (.dK []) → tz D ((σ.set i (some (.ref d))).set j (some (.ref p))) H1) : tSeq (tPar i j (tCons tDNewK (tCons tDNewK tNil))) tz D σ H :=
  fun d hd p hp => ⟨_, _, rfl, by
    have npd : p ≠ d := fun e => by
      rw [e, upd_same] at hp
      cases hp
    have hp0 : H p = none := by
      rw [upd_ne npd] at hp
      exact hp
    exact q d p _ hd hp0 npd ((Ex.new hd).trans (Ex.new hp)) (by rw [upd_ne npd.symm, upd_same]) upd_same⟩
theorem et_yes : EvT tYes σ H true := fun H1 _ Q q => q H1 (Ex.refl H1)
end
/-- a course's numbers, then the first: the promise of least_first(course_of(..)[0]) -/
theorem hits_lst {f : Int → Int} {rs : List Int} (hr : ∀ r ∈ rs, IsLst f r r) : ∀ (k : Nat) (n : Int), (it f k n ∈ rs) → ∃ r ∈ rs, IsLst f n r := fun k n h => ⟨_, h, IsLst.ups (hr _ h)⟩
/-- within so many steps it is among rs -/
def hits (f : Int → Int) (rs : List Int) : Nat → Int → Bool
  | 0, n => rs.contains n
  | k + 1, n => rs.contains n || hits f rs k (f n)
theorem hits_of {f : Int → Int} {rs : List Int} (hr : ∀ r ∈ rs, IsLst f r r) : ∀ (k : Nat) (n : Int), hits f rs k n = true → ∃ r ∈ rs, IsLst f n r
  | 0, n, h => ⟨n, by simpa [hits] using h, hr n (by simpa [hits] using h)⟩
  | k + 1, n, h => by
    unfold hits at h
    rw [Bool.or_eq_true] at h
    rcases h with h | h
    · have : n ∈ rs := by simpa using h
      exact ⟨n, this, hr n this⟩
    · obtain ⟨r, h1, h2⟩ := hits_of hr k (f n) h
      exact ⟨r, h1, h2.up⟩
end Sl
namespace Sl
open PySem PySem.Spec PyProof.Rows L2 Evl
/-- list(d) -/
def rListDD : List V → Hp → VK → Prop := fun xs H Q => ∃ (a : Addr) (kvs : List (Key × V)), xs = [.ref a] ∧ Rd H a (.dK kvs) ∧ ∀ p, H p = none → Q (.ref p) (upd H p (.lst (kvs.map fun kv => kV kv.1)))
section
variable {K : PySem.W.Frag} {σ : L2.St} {H H' : Hp} {ta tb tc te tx tl td : TE} {x y z v : V} {r r' : R2}
theorem el_listD {d : Addr} {kvs : List (Key × V)} (ha : Ev ta σ H (.ref d)) (h : H d = some (.dK kvs)) : EvL (tCB rListDD (tCons ta tNil)) σ H (kvs.map fun kv => kV kv.1) := fun H1 e Q q =>
  ha H1 e _ fun H2 e2 => ⟨d, kvs, rfl, .inl ((e.trans e2) d _ h), fun l hl => q l _ (fresh_back e2 hl) (e2.trans (Ex.new hl)) upd_same⟩
theorem en_lst1 {ns : List Int} (h : EvL ta σ H (ns.map V.int)) : EvN (tLst (tCons ta tNil)) σ H [ns] := fun H1 e Q q => h H1 e _ fun a H2 na e2 ha => ⟨by show 1 ≤ sizeLine; decide, fun p hp => by
  have hpa : p ≠ a := fun e => by
    rw [e, ha] at hp
    cases hp
  refine q p [a] _ (fresh_back e2 hp) (e2.trans (Ex.new hp)) ⟨upd_same, by simpa using hpa, fun b hb => ?_, ?_⟩
  · have : b = a := by simpa using hb
    rw [this]
    exact na
  · show [upd H2 p _ a] = _
    rw [upd_ne hpa.symm, ha]
    rfl⟩
theorem en_lst2 {ns ms : List Int} (h : EvL ta σ H (ns.map V.int)) (g : EvL tb σ H (ms.map V.int)) : EvN (tLst (tCons ta (tCons tb tNil))) σ H [ns, ms] := fun H1 e Q q => h H1 e _ fun a H2 na e2 ha => g H2 (e.trans e2) _ fun c H3 nc e3 hc => ⟨by show 2 ≤ sizeLine; decide, fun p hp => by
  have hpa : p ≠ a := fun e => by
    rw [e, e3 a _ ha] at hp
    cases hp
  have hpc : p ≠ c := fun e => by
    rw [e, hc] at hp
    cases hp
  have hac : a ≠ c := fun e => by
    rw [← e, ha] at nc
    cases nc
  refine q p [a, c] _ (fresh_back (e2.trans e3) hp) ((e2.trans e3).trans (Ex.new hp)) ⟨upd_same, by simp [hpa, hpc, hac], fun b hb => ?_, ?_⟩
  · simp only [List.mem_cons, List.not_mem_nil, or_false] at hb
    rcases hb with rfl | rfl
    · exact na
    · exact fresh_back e2 nc
  · show [upd H3 p _ a, upd H3 p _ c] = _
    rw [upd_ne hpa.symm, upd_ne hpc.symm, e3 a _ ha, hc]
    rfl⟩
theorem ev_opNN {xs ys : List (List Int)} (ha : EvN ta σ H xs) (hb : EvN tb σ H ys) (hr : ∀ p q as bs Ha Hb H1, Nst Ha H1 p as xs → Nst Hb H1 q bs ys → Ex H H1 → RV r (.ref p) (.ref q) H1 z) : Ev (tOp r ta tb) σ H z := fun H1 e Q k =>
  ha H1 e _ fun p as H2 _ e2 hp => hb H2 (e.trans e2) _ fun q bs H3 _ e3 hq => hr p q as bs _ _ H3 (hp.ex e3) hq ((e.trans e2).trans e3) H3 (Ex.refl H3) Q fun H4 e4 => k H4 ((e2.trans e3).trans e4)
theorem ev_eqNN {xs ys : List (List Int)} (ha : EvN ta σ H xs) (hb : EvN tb σ H ys) : Ev (tOp (rEqD K) ta tb) σ H (.bl (decide (xs = ys))) := ev_opNN ha hb fun _ _ _ _ _ _ _ hp hq _ => rv_eqLL (sq_of hp.top) hp.nest (sq_of hq.top) hq.nest
theorem ev_neNN {xs ys : List (List Int)} (ha : EvN ta σ H xs) (hb : EvN tb σ H ys) : Ev (tOp (rNeD K) ta tb) σ H (.bl (!decide (xs = ys))) := ev_opNN ha hb fun _ _ _ _ _ _ _ hp hq _ => rv_neLL (sq_of hp.top) hp.nest (sq_of hq.top) hq.nest
end
theorem lsts_of {b : Int} (hb : 2 ≤ b) {L : Nat} {rs : List Int} (hup : rs.Pairwise (· < ·)) (hr : ∀ r ∈ rs, (0 ≤ r ∧ r < pw b L) ∧ IsLst (stepM b L) r r) {k : Nat} (hh : ∀ ds ∈ falls b (L / 2), hits (stepM b L) rs k (mk b L ds) = true) : Lsts b L rs := by
  refine ⟨hup, fun r => ⟨fun h => ⟨r, (hr r h).1, (hr r h).2⟩, ?_⟩⟩
  rintro ⟨n, _, q⟩
  have q2 := q.down
  rw [step_difs] at q2
  obtain ⟨s, h1, h2⟩ := hits_of (fun r h => (hr r h).2) k _ (hh _ (fall_of_step (by omega) L n))
  rw [q2.one h2]
  exact h1
end Sl
namespace Sl
open PySem PySem.Spec PyProof.Rows L2 Evl
def rSortedDD : List V → Hp → VK → Prop := fun xs H Q => ∃ (a : Addr) (kvs : List (Key × V)) (ks : List Int), xs = [.ref a] ∧ Rd H a (.dK kvs) ∧ kvs.map (·.1) = ks.map Sum.inl ∧ ks.length < 64 ∧
  ∀ (ys : List Int) (p : Addr), ys.Perm ks → ys.Pairwise (· ≤ ·) → H p = none → Q (.ref p) (upd H p (.lst (ys.map V.int)))
section
variable {K : PySem.W.Frag} {σ : L2.St} {H H' : Hp} {ta tb tc te tx tl td : TE} {t u : TT} {x y z v : V} {r r' : R2} {D : Ends} {tu tw tz : TS} {g : TG} {j : Nat} {vs : List Nat} {xs zs : List V}
/-- sorted(d) -/
theorem el_sortedD {d : Addr} {kvs : List (Key × V)} {ks : List Int} (ha : Ev ta σ H (.ref d)) (h : H d = some (.dK kvs)) (hk : KI kvs ks) (hl : ks.length < 64) : EvL (tCB rSortedDD (tCons ta tNil)) σ H ((srt ks).map V.int) := fun H1 e Q q =>
  ha H1 e _ fun H2 e2 => ⟨d, kvs, ks, rfl, .inl ((e.trans e2) d _ h), hk.keys, hl, fun ys p perm rising np => by
    have e3 := srt_of perm rising
    subst e3
    exact q p _ (fresh_back e2 np) (e2.trans (Ex.new np)) upd_same⟩
/-- [e for x in range(lo, hi)] -/
theorem el_rng2 {ta : TA} {lo hi : Int} (f : Int → V) (h : EvA ta σ H [.int lo, .int hi]) (hn : 0 ≤ lo ∧ lo ≤ 20000 ∧ -20000 ≤ hi ∧ hi ≤ 20000) (hw : ∀ x, wipe ((wipe σ vs).set j (some x)) vs = wipe σ vs)
    (he : ∀ (i : Int) H1, Ex H H1 → lo ≤ i → i < hi → Ev te ((wipe σ vs).set j (some (.int i))) H1 (f i)) :
    EvL (tLc (iRng2 ta) (gName j) tYes te vs) σ H ((rng lo hi).map f) := fun H0 e Q q => h H0 e _ fun H1 e1 => ⟨lo, hi, rfl, ⟨by omega, by omega, by omega, by omega⟩, fun Dl hD =>
  lc_range (lo := lo) (n := (hi - lo).toNat) (fun i H' => LW H1 Dl ((rng lo hi).map f) i H') (lw_zero hD) (fun i H' hi2 p => by
    have ez : ((rng lo hi).map f)[i]? = some (f (lo + (i : Int))) := by
      unfold rng
      rw [List.getElem?_map, List.getElem?_map, List.getElem?_range hi2]
      rfl
    exact ⟨hw _, lw_turn ez (by unfold rng; simp; omega) p fun H2 e2 => he (lo + (i : Int)) H2 ((e.trans e1).trans e2) (by omega) (by omega)⟩) (fun H' p => by
    refine q Dl H' (fresh_back e1 p.1) (e1.trans p.2.1) ?_
    have hl : ((rng lo hi).map f).length = (hi - lo).toNat := by unfold rng; simp
    rw [p.2.2, ← hl, List.take_length])⟩
/-- [e for x in range(n)] -/
theorem el_rng1 {ta : TA} {n : Int} (f : Nat → V) (h : EvA ta σ H [.int n]) (hn : 0 ≤ n ∧ n ≤ 20000) (hw : ∀ x, wipe ((wipe σ vs).set j (some x)) vs = wipe σ vs)
    (he : ∀ (i : Nat) H1, Ex H H1 → (i : Int) < n → Ev te ((wipe σ vs).set j (some (.int (i : Int)))) H1 (f i)) :
    EvL (tLc (iRng1 ta) (gName j) tYes te vs) σ H ((List.range n.toNat).map f) := fun H0 e Q q => h H0 e _ fun H1 e1 => ⟨n, rfl, by omega, by omega, fun Dl hD =>
  lc_range (lo := 0) (n := n.toNat) (fun i H' => LW H1 Dl ((List.range n.toNat).map f) i H') (lw_zero hD) (fun i H' hi p => by
    have e0 : (0 : Int) + (i : Int) = (i : Int) := Int.zero_add _
    show wipe ((wipe σ vs).set j (some (.int ((0 : Int) + (i : Int))))) vs = wipe σ vs ∧ tYes ((wipe σ vs).set j (some (.int ((0 : Int) + (i : Int))))) H' fun b H3 => if b = true then te ((wipe σ vs).set j (some (.int ((0 : Int) + (i : Int))))) H3 fun y H4 => ∃ acc, H4 Dl = some (.lst acc) ∧ acc.length < sizeLine ∧ LW H1 Dl ((List.range n.toNat).map f) (i + 1) (upd H4 Dl (.lst (acc ++ [y]))) else LW H1 Dl ((List.range n.toNat).map f) (i + 1) H3
    rw [e0]
    have ez : ((List.range n.toNat).map f)[i]? = some (f i) := by
      rw [List.getElem?_map, List.getElem?_range hi]
      rfl
    exact ⟨hw _, lw_turn ez (by simp; omega) p fun H2 e2 => he i H2 ((e.trans e1).trans e2) (by omega)⟩) (fun H' p => by
    refine q Dl H' (fresh_back e1 p.1) (e1.trans p.2.1) ?_
    rw [p.2.2, List.take_of_length_le (by simp)])⟩
/-- f(a new list) -/
theorem ev_call1L {sp : Sp} {E : XK} {xs : List V} (hb : EvL tb σ H xs) (hs : ∀ p H1, Ex H H1 → H1 p = some (.lst xs) → SpV sp [.ref p] H1 z) : Ev (tCall sp [] E (tCons tb tNil)) σ H z := fun H1 e Q q =>
  hb H1 e _ fun p H3 _ e3 hp => hs p H3 (e.trans e3) hp H3 (Ex.refl H3) Q (fun H4 e4 => q H4 (e3.trans e4)) E
end
end Sl
namespace Sl
open PySem PySem.Spec PyProof.Rows L2 Evl
/-- a, b = {}, {} by a tuple -/
theorem q_tupDD {K : PySem.W.Frag} {σ : L2.St} {H : Hp} {D : Ends} {tz : TS} {i j : Nat} (q : ∀ d p H1, H d = none → H p = none → p ≠ d → Ex H H1 → H1 d = some (.dK []) → H1 p = some (.dK []) → tz D ((σ.set i (some (.ref d))).set j (some (.ref p))) H1) :
    tSeq (tAsg (tTup (tCons tDNewK (tCons tDNewK tNil))) (gTup K 2 (gCons (gName i) (gCons (gName j) gNil)))) tz D σ H :=
  fun d hd p hp => ⟨by show 2 ≤ sizeLine; decide, fun t ht => by
    have npd : p ≠ d := fun e => by
      rw [e, upd_same] at hp
      cases hp
    have hp0 : H p = none := by
      rw [upd_ne npd] at hp
      exact hp
    have td : t ≠ d := fun e => by
      rw [e, upd_ne npd.symm, upd_same] at ht
      cases ht
    have tp : t ≠ p := fun e => by
      rw [e, upd_same] at ht
      cases ht
    refine ⟨t, [.ref d, .ref p], rfl, st_of upd_same, rfl, _, _, rfl, _, _, rfl, rfl, ?_⟩
    exact q d p _ hd hp0 npd (((Ex.new hd).trans (Ex.new hp)).trans (Ex.new ht)) (by rw [upd_ne td.symm, upd_ne npd.symm, upd_same]) (by rw [upd_ne tp.symm, upd_same])⟩
end Sl
namespace Sl
open PySem PySem.Spec PyProof.Rows L2 Evl
def trues (n : Nat) (c : Bool) : List V := (List.replicate n c).map V.bl
theorem trues_at {n : Nat} {c : Bool} {i : Nat} {z : V} (h : (trues n c)[i]? = some z) : z = .bl c := by
  unfold trues at h
  have := List.mem_of_getElem? h
  rw [List.map_replicate] at this
  exact (List.mem_replicate.mp this).2
theorem trues_len (n : Nat) (c : Bool) : (trues n c).length = n := by simp [trues]
end Sl
namespace Sl
open PySem PySem.Spec PyProof.Rows L2 Evl
/-! ### classes -/
/-- where the module's class stands -/
def cA (mg : Str → Option Value) (x : Str) : Addr := match mg x with
  | some (.ref a) => a
  | _ => 0
theorem cA_of {mg : Str → Option Value} {x : Str} {C : Addr} (h : mg x = some (.ref C)) : cA mg x = C := by
  unfold cA
  rw [h]
/-- one of two readings -/
def tOr2 (t u : TE) : TE := fun σ H Q => t σ H Q ∨ u σ H Q
theorem pe_or2 {X : Cx} {e : Expr} {t u : TE} (h1 : PE X e t) (h2 : PE X e u) : PE X e (tOr2 t u) := ⟨fun pins s σ H Q I h => by
  rcases h with h | h
  · exact h1.run pins s σ H Q I h
  · exact h2.run pins s σ H Q I h⟩
/-- C(), no __init__ but object's -/
def tMakeO (C : Addr) : TE := fun _ H Q => ∀ x dx, H x = none → H dx = none → dx ≠ x → Q (.ref x) (upd (upd H dx (.own x)) x (.ins C dx []))
structure MkO (K : PySem.W.Frag) (C : Addr) : Prop where
  makes : PySem.W.makesIn K C = true
  init : PySem.W.findIn K (.ref C) "__init__" = some (some (.builtin "object.__init__"))
  kp : PySem.W.keepIn K (.ref C) = true
theorem pe_makeO {X : Cx} {C : Addr} {x : Str} {p pos : Pos} (M : MkO X.K C) (hg : Gl X x) (hm : X.mg x = some (.ref C)) (hdb : (x == ("__debug__" : Str)) = false := by decide) : PE X (.Call (.Name x p) [] [] pos) (tMakeO C) := by
  refine ⟨fun pins s σ H Q I h => ?_⟩
  refine wpAny_Call_Name_kw (ld_glob I hg hm ?_ hdb)
  refine PySem.W.callWith_K0 I.kIn M.kp ?_
  have hq := h (s.heap.objs.size + 1) s.heap.objs.size (I.hok.fresh (Nat.le_succ _)) (I.hok.fresh (Nat.le_refl _)) (Nat.ne_of_lt (Nat.lt_succ_self _))
  have I2 := Inv.made (C := C) I
  have Y := PySem.W.makes_of (M := model X.prog X.w) I.kIn M.makes
  refine wpAny_call (make_map0 I.kIn M.makes M.init (fun self => PySem.W.Looks.of_pure (PySem.W.oi_bind self)) ?_)
  have hx : ((s.heap.push PySem.W.emptyDict).push (PySem.W.instObj C s.heap.objs.size)).get? (s.heap.objs.size + 1) = some (PySem.W.instObj C s.heap.objs.size) := by
    have := Heap.get?_push_size (s.heap.push PySem.W.emptyDict) (o := PySem.W.instObj C s.heap.objs.size) rfl
    rwa [Heap.size_push] at this
  have t1 : PySem.W.Looks (model X.prog X.w) ((s.heap.push PySem.W.emptyDict).push (PySem.W.instObj C s.heap.objs.size)) (typeOf (.ref (s.heap.objs.size + 1))) (.ref C) := (PySem.W.Looks.ld hx).andThen .now
  have t2 : PySem.W.Looks (model X.prog X.w) ((s.heap.push PySem.W.emptyDict).push (PySem.W.instObj C s.heap.objs.size)) (isInstance (.ref (s.heap.objs.size + 1)) (.type "object")) true := t1.andThen (Y.top.keeps fun b o e => Heap.get?_push_of_some _ (Heap.get?_push_of_some _ e))
  refine codeAny_call_builtin PySem.W.oi_plain PySem.W.entry_oi (@PySem.W.check_slot (model X.prog X.w) _ _ _ "object.__init__" "object" "__init__" (.ref (s.heap.objs.size + 1)) [] [] _ PySem.W.oi_kind PySem.W.oi_split t2 (PySem.W.oi_args (.ref (s.heap.objs.size + 1))) ?_)
  rw [PySem.W.oi_run]
  exact wpAny_pure (And.intro rfl ⟨V.ref (s.heap.objs.size + 1), _, I2, rfl, hq⟩)
/-- a class with its __init__, a method -/
structure Mkr (P : Program) (w : World) (K : PySem.W.Frag) (mg : Str → Option Value) (base : Heap) (k : Nat) (C : Addr) (ps : List Str) (sp : Sp) : Prop where
  ex : ∃ (f : Addr) (fd : FuncData), Mk K C f ∧ FnOk P w K mg base CX0 k f fd ps sp ∧ Binds K fd ps []
structure Mth (P : Program) (w : World) (K : PySem.W.Frag) (mg : Str → Option Value) (base : Heap) (k : Nat) (C : Addr) (m : Str) (ps : List Str) (sp : Sp) : Prop where
  ex : ∃ (f : Addr) (fd : FuncData), Meth K C m f ∧ FnOk P w K mg base CX0 k f fd ps sp ∧ Binds K fd ps []
theorem pe_mk {X : Cx} {k : Nat} {C : Addr} {x : Str} {ps : List Str} {sp : Sp} {e : Expr} {es : List Expr} {t : TA} {p pos : Pos} (h : Mkr X.prog X.w X.K X.mg X.base k C ps sp) (hr : Room (k + 1) X.A) (hg : Gl X x) (hm : X.mg x = some (.ref C)) (ha : PA X (e :: es) t)
    (hdb : (x == ("__debug__" : Str)) = false := by decide) (he : starEach (e :: es) X.env = (false, eval e X.env) :: starEach es X.env := by rfl) (hpl : (backTo pos (starEach es X.env)).any (·.1) = false := by rfl) : PE X (.Call (.Name x p) (e :: es) [] pos) (tMake C sp [] E0 t) := by
  obtain ⟨f, fd, a, b, c⟩ := h.ex
  exact pe_make a b hr hg hm c .nil pass0 ha hdb he hpl
theorem pe_mt {X : Cx} {k : Nat} {C : Addr} {m : Str} {ps : List Str} {sp : Sp} {o e : Expr} {es : List Expr} {ta : TE} {t : TA} {apos pos : Pos} {pl : Sem Bool} (h : Mth X.prog X.w X.K X.mg X.base k C m ps sp) (c : Cls X.K C) (hr : Room k X.A) (he : PE X o ta) (ha : PA X (e :: es) t)
    (hst : starEach (e :: es) X.env = (false, eval e X.env) :: starEach es X.env := by rfl) (hpl : (backTo pos (starEach es X.env)).any (·.1) = false := by rfl)
    (ht : eval (.Call (.Attribute o m apos) (e :: es) [] pos) X.env = (do
      let ov ← eval o X.env
      standAt apos.atName
      let (f, first) ← holding [ov] (getMethod ov m pl)
      callWith pos f first (backTo pos (starEach (e :: es) X.env)) (backToKw pos (keywordEach [] X.env))) := by rfl) : PE X (.Call (.Attribute o m apos) (e :: es) [] pos) (tMeth C m sp [] E0 ta t) := by
  obtain ⟨f, fd, a, b, d⟩ := h.ex
  exact pe_meth he c a b hr d .nil pass0 ha hst hpl ht
section
variable {K : PySem.W.Frag} {σ : L2.St} {H H' : Hp} {ta tb tc te tx tl td : TE} {t u : TA} {x y z v : V} {D : Ends} {tu tw tz : TS}
theorem ev_fld {p C dx : Addr} {fs : List (Str × V)} {f : Str} (ha : Ev ta σ H (.ref p)) (h : H p = some (.ins C dx fs)) (c : Cls K C) (n : NoAttr K C f) (l : fs.lookup f = some v) : Ev (tFld K ta f) σ H v := fun H1 e Q q =>
  ha H1 e _ fun H2 e2 => ⟨p, C, dx, fs, v, rfl, (e.trans e2) p _ h, c, n, l, q H2 e2⟩
theorem ev_meth {p C dx : Addr} {fs : List (Str × V)} {m : Str} {sp : Sp} {E : XK} {vs : List V} (ha : Ev ta σ H (.ref p)) (h : H p = some (.ins C dx fs)) (l : fs.lookup m = none) (hv : EvA t σ H vs) (hs : SpV sp (.ref p :: vs) H z) : Ev (tMeth C m sp [] E ta t) σ H z := fun H1 e Q q =>
  ha H1 e _ fun H2 e2 => ⟨p, dx, fs, rfl, (e.trans e2) p _ h, l, hv H2 (e.trans e2) _ fun H3 e3 => by
    rw [List.append_nil]
    exact hs H3 ((e.trans e2).trans e3) Q (fun H4 e4 => q H4 ((e2.trans e3).trans e4)) E⟩
theorem ev_or2l (h : Ev ta σ H v) : Ev (tOr2 ta tb) σ H v := fun H1 e Q q => .inl (h H1 e Q q)
theorem ev_or2r (h : Ev tb σ H v) : Ev (tOr2 ta tb) σ H v := fun H1 e Q q => .inr (h H1 e Q q)
theorem ep_makeO {C : Addr} : EvP (tMakeO C) σ H fun v H2 => ∃ p dx, v = .ref p ∧ H p = none ∧ H2 p = some (.ins C dx []) := fun H1 e Q q x dx hx hdx ne =>
  q _ _ (fun a o h => by rw [upd_ne (ne_of_none h hx), upd_ne (ne_of_none h hdx)]; exact h) ⟨x, dx, rfl, fresh_back e hx, upd_same⟩
theorem s_retP {R : V → Hp → Prop} (h : EvP te σ H R) (k : ∀ v H1, Ex H H1 → R v H1 → D.rt v H1) : tRet te D σ H := h H (Ex.refl H) _ k
/-- isinstance of an own instance -/
structure TyI (K : PySem.W.Frag) (C : Addr) : Prop where
  ha : PySem.W.findIn K (.ref C) "__class__" = some (some (.builtin "object.__class__"))
  hn : PySem.W.specialIn K (.builtin "object.__class__") "__get__" = some (some (.builtin "getset_descriptor.__get__"))
  htk : PySem.W.takesIn K (.builtin "object.__class__") = some true
  hm : PySem.W.mroIn K C (.type "object") = some true
theorem rc_isi_own {p C dx A : Addr} {fs : List (Str × V)} {b : Bool} (h : H p = some (.ins C dx fs)) (c : Cls K C) (t : TyI K C) (k : PySem.W.kitOne K (.ref C) (.ref A) = some b) : RC (rIsi K) [.ref p, .ref A] H (.bl b) :=
  rc_isi (.own A) (fun _ e => .base (.ins (e p _ h) c t.ha t.hn t.htk t.hm)) k
/-- all(xs) of a list that stands -/
theorem ev_all {p : Addr} {bs : List Bool} (ha : Ev ta σ H (.ref p)) (h : SqL K H p (bs.map V.bl)) : Ev (tCB (rAll K) (tCons ta tNil)) σ H (.bl (bs.all id)) := fun H1 e Q q =>
  ha H1 e _ fun H2 e2 => ⟨p, bs, rfl, ex_l (e.trans e2) h, q H2 e2⟩
end
end Sl
namespace Sl
open PySem PySem.Spec PyProof.Rows L2 Evl
section
variable {K : PySem.W.Frag} {σ : L2.St} {H H' : Hp} {ta tb tc te tx tl td : TE} {t u : TA} {x y z v : V} {D : Ends} {tu tw tz : TS}
/-- a, b = [], e -/
theorem q_parLV {i j : Nat} (hb : Ev tb σ H y) (k : ∀ p H1, H p = none → Ex H H1 → H1 p = some (.lst []) → tz D ((σ.set i (some (.ref p))).set j (some y)) H1) : tSeq (tPar i j (tCons (tLst tNil) (tCons tb tNil))) tz D σ H :=
  ⟨Nat.zero_le _, fun p hp => hb _ (Ex.new hp) _ fun H2 e2 => ⟨_, _, rfl, k p H2 hp ((Ex.new hp).trans e2) (e2 p _ upd_same)⟩⟩
theorem el_catNV {l : Addr} {xs ys : List V} (ha : EvL ta σ H xs) (hb : Ev tb σ H (.ref l)) (hl : H l = some (.lst ys)) (hz : xs.length + ys.length ≤ 100000) : EvL (tOp rCat ta tb) σ H (xs ++ ys) := fun H1 e Q q =>
  ha H1 e _ fun p H2 _ e2 hp => hb H2 (e.trans e2) _ fun H3 e3 => ⟨p, l, xs, ys, rfl, rfl, e3 p _ hp, ((e.trans e2).trans e3) l _ hl, sz_of hz, fun s hs => q s _ (fresh_back (e2.trans e3) hs) ((e2.trans e3).trans (Ex.new hs)) upd_same⟩
def rMin2 : List V → Hp → VK → Prop := fun xs H Q => ∃ i j, xs = [.int i, .int j] ∧ Q (.int (if j < i then j else i)) H
theorem ev_min2 {i j : Int} (ha : Ev ta σ H (.int i)) (hb : Ev tb σ H (.int j)) : Ev (tCB rMin2 (tCons ta (tCons tb tNil))) σ H (.int (if j < i then j else i)) := fun H1 e Q q =>
  ha H1 e _ fun H2 e2 => hb H2 (e.trans e2) _ fun H3 e3 => ⟨i, j, rfl, q H3 (e2.trans e3)⟩
theorem rc_isi_bb {b : Bool} : RC (rIsi K) [.bl b, .ty "bool"] H (.bl true) := rc_isi (.ty "bool") (fun _ _ => .base (.bl b)) (kit_ty (by decide +kernel))
/-- lists of bools -/
def pB (bs : List Bool) : List PyData := bs.map PyData.bool
theorem dp_bools {K : PySem.W.Frag} {H : Hp} : ∀ bs : List Bool, DpAll K H (bs.map V.bl) (pB bs)
  | [] => .nil
  | b :: bs => .cons (.bl b) (dp_bools bs)
theorem eqv_bools : ∀ bs cs : List Bool, PyData.eqvAll (pB bs) (pB cs) = decide (bs = cs)
  | [], [] => by simp [pB, PyData.eqvAll]
  | [], m :: ms => by simp [pB, PyData.eqvAll]
  | n :: ns, [] => by simp [pB, PyData.eqvAll]
  | n :: ns, m :: ms => by
    have ih := eqv_bools ns ms
    unfold pB at ih
    simp only [pB, List.map_cons, PyData.eqvAll, PyData.eqv, ih]
    by_cases h1 : n = m
    · by_cases h2 : ns = ms
      · simp [h1, h2]
      · simp [h1, h2]
    · simp [h1]
theorem can_bools : ∀ ns : List Bool, PyData.canLayAll0 (pB ns) = true ∧ PyData.depthAll (pB ns) = 0
  | [] => by simp [pB, PyData.canLayAll0, PyData.depthAll]
  | n :: ns => by
    have ih := can_bools ns
    unfold pB at ih
    simp [pB, PyData.canLayAll0, PyData.canLay0, PyData.depthAll, PyData.depth, ih.1, ih.2]
theorem shaped_bools (ns : List Bool) : SeqAt.shaped (.list (pB ns)) = true := by
  have h := can_bools ns
  simp [SeqAt.shaped, PyData.canLay0, PyData.depth, h.1, h.2]
theorem rv_neB {p q : Addr} {ns ms : List Bool} (h1 : SqL K H p (ns.map V.bl)) (h2 : SqL K H q (ms.map V.bl)) : RV (rNeD K) (.ref p) (.ref q) H (.bl (!decide (ns = ms))) :=
  rv_neD (fun _ e => .lst (ex_l e h1) (dp_bools ns)) (fun _ e => .lst (ex_l e h2) (dp_bools ms)) (shaped_bools ns) (shaped_bools ms) (by rw [← eqv_bools]; rfl)
theorem rv_eqB {p q : Addr} {ns ms : List Bool} (h1 : SqL K H p (ns.map V.bl)) (h2 : SqL K H q (ms.map V.bl)) : RV (rEqD K) (.ref p) (.ref q) H (.bl (decide (ns = ms))) :=
  rv_eqD (fun _ e => .lst (ex_l e h1) (dp_bools ns)) (fun _ e => .lst (ex_l e h2) (dp_bools ms)) (shaped_bools ns) (shaped_bools ms) (by rw [← eqv_bools]; rfl)
end
/-! ### differences, answers -/
/-- the promise of what tells differences: a new list, or None -/
def SpDif : Sp := fun vs H Q _ => ∃ (b l n : Int), vs = [.int b, .int l, .int n] ∧ (2 ≤ b ∧ b ≤ 12 ∧ 1 ≤ l ∧ l ≤ 8) ∧ 0 ≤ n ∧ (difB b l.toNat n = true → RetL ((dif b l.toNat n).map V.int) H Q) ∧ (difB b l.toNat n = false → RetV .non H Q)
theorem sp_dif_l {b l n : Int} {H : Hp} (h : 2 ≤ b ∧ b ≤ 12 ∧ 1 ≤ l ∧ l ≤ 8) (h0 : 0 ≤ n) (hd : difB b l.toNat n = true) : SpL SpDif [.int b, .int l, .int n] H ((dif b l.toNat n).map V.int) :=
  fun _ _ _ q _ => ⟨b, l, n, rfl, h, h0, fun _ => q, fun q2 => by rw [hd] at q2; cases q2⟩
theorem sp_dif_v {b l n : Int} {H : Hp} (h : 2 ≤ b ∧ b ≤ 12 ∧ 1 ≤ l ∧ l ≤ 8) (h0 : 0 ≤ n) (hd : difB b l.toNat n = false) : SpV SpDif [.int b, .int l, .int n] H .non :=
  fun _ _ _ q _ => ⟨b, l, n, rfl, h, h0, fun q2 => (by rw [hd] at q2; cases q2), fun _ => q⟩
def rIsNon : R2 := fun x y H Q => y = .non ∧ Q (.bl (decide (x = .non))) H
def rNotNon : R2 := fun x y H Q => y = .non ∧ Q (.bl (!decide (x = .non))) H
theorem ev_difN {b l n : Int} {H : Hp} {σ : L2.St} {E : XK} {ta : TA} (h : 2 ≤ b ∧ b ≤ 12 ∧ 1 ≤ l ∧ l ≤ 8) (h0 : 0 ≤ n) (ha : EvA ta σ H [.int b, .int l, .int n]) : Ev (tOp rIsNon (tCall SpDif [] E ta) (tC .non)) σ H (.bl (!difB b l.toNat n)) := fun H1 e Q q =>
  ha H1 e _ fun H2 e2 => ⟨b, l, n, rfl, h, h0, fun hd p H3 _ e3 _ => ⟨rfl, by
    have := q H3 (e2.trans e3)
    rw [hd] at this
    exact this⟩, fun hd H3 e3 => ⟨rfl, by
    have := q H3 (e2.trans e3)
    rw [hd] at this
    exact this⟩⟩
theorem ev_difY {b l n : Int} {H : Hp} {σ : L2.St} {E : XK} {ta : TA} (h : 2 ≤ b ∧ b ≤ 12 ∧ 1 ≤ l ∧ l ≤ 8) (h0 : 0 ≤ n) (ha : EvA ta σ H [.int b, .int l, .int n]) : Ev (tOp rNotNon (tCall SpDif [] E ta) (tC .non)) σ H (.bl (difB b l.toNat n)) := fun H1 e Q q =>
  ha H1 e _ fun H2 e2 => ⟨b, l, n, rfl, h, h0, fun hd p H3 _ e3 _ => ⟨rfl, by
    have := q H3 (e2.trans e3)
    rw [hd] at this
    exact this⟩, fun hd H3 e3 => ⟨rfl, by
    have := q H3 (e2.trans e3)
    rw [hd] at this
    exact this⟩⟩
/-- the fields of a Came -/
def numF (m : Int) : List (Str × V) := putF "number" (.int m) []
theorem numF_at (m : Int) : (numF m).lookup ("number" : Str) = some (.int m) := by
  unfold numF
  rw [lookup_putF, if_pos rfl]
theorem numF_no (m : Int) : (numF m).lookup ("shows" : Str) = none := by
  unfold numF
  rw [lookup_putF, if_neg (by decide +kernel)]
  rfl
/-- what a Came with m says of n -/
def cms (b : Int) (L : Nat) (m n : Int) : Bool := (decide (0 ≤ m) && decide (m < pw b L)) && decide (stepM b L m = n)
end Sl
namespace Sl
open PySem PySem.Spec PyProof.Rows L2 Evl
section
variable {K : PySem.W.Frag} {σ : L2.St} {H H' : Hp} {ta tb tc te tx tl td : TE} {t u : TA} {x y z v : V}
/-- C(..).m(..), C(..).f -/
theorem ev_methP {C : Addr} {fs : List (Str × V)} {m : Str} {sp : Sp} {E : XK} {vs : List V} (ha : EvP ta σ H fun v H2 => ∃ p dx, v = .ref p ∧ H p = none ∧ H2 p = some (.ins C dx fs)) (l : fs.lookup m = none) (hv : EvA t σ H vs) (hs : ∀ p dx H1, Ex H H1 → H1 p = some (.ins C dx fs) → SpV sp (.ref p :: vs) H1 z) : Ev (tMeth C m sp [] E ta t) σ H z := fun H1 e Q q =>
  ha H1 e _ fun v H2 e2 ⟨p, dx, ev, _, hp⟩ => by
    subst ev
    exact ⟨p, dx, fs, rfl, hp, l, hv H2 (e.trans e2) _ fun H3 e3 => by
      rw [List.append_nil]
      exact hs p dx H3 ((e.trans e2).trans e3) (e3 p _ hp) H3 (Ex.refl H3) Q (fun H4 e4 => q H4 ((e2.trans e3).trans e4)) E⟩
theorem ev_fldP {C : Addr} {fs : List (Str × V)} {f : Str} (ha : EvP ta σ H fun v H2 => ∃ p dx, v = .ref p ∧ H p = none ∧ H2 p = some (.ins C dx fs)) (c : Cls K C) (n : NoAttr K C f) (l : fs.lookup f = some v) : Ev (tFld K ta f) σ H v := fun H1 e Q q =>
  ha H1 e _ fun v H2 e2 ⟨p, dx, ev, _, hp⟩ => by
    subst ev
    exact ⟨p, C, dx, fs, _, rfl, hp, c, n, l, q H2 e2⟩
end
end Sl
namespace Sl
open PySem PySem.Spec PyProof.Rows L2 Evl LamX
/-! ### refusals: their classes, what is no number -/
def refA (mg : Str → Option Value) (x : Str) : Addr := match mg x with
  | some (.ref a) => a
  | _ => 0
theorem refA_of {mg : Str → Option Value} {x : Str} {C : Addr} (h : mg x = some (.ref C)) : refA mg x = C := by
  unfold refA
  rw [h]
/-- the refusals' names, in the order of the looks -/
def xN (c : Nat) : Str := match c with
  | 0 => "BadBase"
  | 1 => "BadLength"
  | 2 => "BadNumber"
  | _ => "BadSteps"
def xA (mg : Str → Option Value) (c : Nat) : Addr := refA mg (xN c)
def dueB (c : Nat) : List Bool := [c == 0, c == 1, c == 2, c == 3, true]
abbrev veB : List Value := [.type "ValueError", .type "Exception", .type "BaseException", .type "object"]
/-- one class of refusals -/
structure Xc (K : PySem.W.Frag) (mg : Str → Option Value) (c : Nat) : Prop where
  g : mg (xN c) = some (.ref (xA mg c))
  x : PySem.W.excIn K (xA mg c) veB "ValueError.__new__" = true
  k : PySem.W.keepIn K (.ref (xA mg c)) = true
  b : PySem.W.subIn K (.ref (xA mg c)) (.type "BaseException") = some true
  t : PySem.W.typeIn K (.ref (xA mg c)) = some (.type "type")
  e : PySem.W.exmOne K (.ref (xA mg c)) (.ref (refA mg "SortError")) = some true
  C : ExcC K (xA mg c)
  i0 : PySem.W.kitOne K (.ref (xA mg c)) (.ref (xA mg 0)) = some (c == 0)
  i1 : PySem.W.kitOne K (.ref (xA mg c)) (.ref (xA mg 1)) = some (c == 1)
  i2 : PySem.W.kitOne K (.ref (xA mg c)) (.ref (xA mg 2)) = some (c == 2)
  i3 : PySem.W.kitOne K (.ref (xA mg c)) (.ref (xA mg 3)) = some (c == 3)
  iV : PySem.W.kitOne K (.ref (xA mg c)) (.type "ValueError") = some true
structure Xf (K : PySem.W.Frag) (mg : Str → Option Value) : Prop where
  gS : mg "SortError" = some (.ref (refA mg "SortError"))
  x0 : Xc K mg 0
  x1 : Xc K mg 1
  x2 : Xc K mg 2
  x3 : Xc K mg 3
theorem Xf.at_ {K : PySem.W.Frag} {mg : Str → Option Value} (T : Xf K mg) : ∀ {c : Nat}, c < 4 → Xc K mg c
  | 0, _ => T.x0
  | 1, _ => T.x1
  | 2, _ => T.x2
  | 3, _ => T.x3
  | _ + 4, h => absurd h (by omega)
/-- what is no number -/
inductive Kd (H : Hp) : V → Prop where
  | non : Kd H .non
  | str (s : Str) : Kd H (.str s)
  | bl (b : Bool) : Kd H (.bl b)
  | lst {a : Addr} {xs : List V} (e : H a = some (.lst xs)) : Kd H (.ref a)
  | tup {a : Addr} {xs : List V} (e : H a = some (.tup xs)) : Kd H (.ref a)
  | dK {a : Addr} {kvs : List (Key × V)} (e : H a = some (.dK kvs)) : Kd H (.ref a)
theorem Kd.ext {H H' : Hp} {v : V} (k : Kd H v) (e : ExtN H H') : Kd H' v := by
  cases k with
  | non => exact .non
  | str s => exact .str s
  | bl b => exact .bl b
  | lst h => exact .lst (e _ _ h fun _ z => by cases z)
  | tup h => exact .tup (e _ _ h fun _ z => by cases z)
  | dK h => exact .dK (e _ _ h fun _ z => by cases z)
theorem Kd.ex {H H' : Hp} {v : V} (k : Kd H v) (e : Ex H H') : Kd H' v := k.ext (.of e)
def BadB (H : Hp) (b : V) : Prop := Kd H b ∨ ∃ i, b = .int i ∧ ¬ (2 ≤ i ∧ i ≤ 12)
def BadL (H : Hp) (l : V) : Prop := Kd H l ∨ ∃ j, l = .int j ∧ ¬ (1 ≤ j ∧ j ≤ 8)
/-- the base and the length are refused by the class c -/
def Bad2 (H : Hp) (b l : V) (c : Nat) : Prop := (c = 0 ∧ BadB H b) ∨ (c = 1 ∧ (∃ i, b = .int i ∧ 2 ≤ i ∧ i ≤ 12) ∧ BadL H l)
def Bad3 (H : Hp) (b l n : V) (c : Nat) : Prop := Bad2 H b l c ∨ (c = 2 ∧ ∃ i j, b = .int i ∧ l = .int j ∧ (2 ≤ i ∧ i ≤ 12 ∧ 1 ≤ j ∧ j ≤ 8) ∧ (Kd H n ∨ ∃ k, n = .int k ∧ ¬ (0 ≤ k ∧ k < pw i j.toNat)))
def Bad4 (H : Hp) (b l n s : V) (c : Nat) : Prop := Bad3 H b l n c ∨ (c = 3 ∧ ∃ i j k, b = .int i ∧ l = .int j ∧ n = .int k ∧ Dom i j k ∧ (Kd H s ∨ ∃ m, s = .int m ∧ m < 0))
theorem Bad2.ext {H H' : Hp} {b l : V} {c : Nat} (h : Bad2 H b l c) (e : ExtN H H') : Bad2 H' b l c := by
  rcases h with ⟨h1, h2⟩ | ⟨h1, h2, h3⟩
  · exact .inl ⟨h1, h2.imp (fun k => k.ext e) id⟩
  · exact .inr ⟨h1, h2, h3.imp (fun k => k.ext e) id⟩
theorem Bad3.ext {H H' : Hp} {b l n : V} {c : Nat} (h : Bad3 H b l n c) (e : ExtN H H') : Bad3 H' b l n c := by
  rcases h with h | ⟨h1, i, j, h2, h3, h4, h5⟩
  · exact .inl (h.ext e)
  · exact .inr ⟨h1, i, j, h2, h3, h4, h5.imp (fun k => k.ext e) id⟩
theorem Bad4.ext {H H' : Hp} {b l n s : V} {c : Nat} (h : Bad4 H b l n s c) (e : ExtN H H') : Bad4 H' b l n s c := by
  rcases h with h | ⟨h1, i, j, k, h2, h3, h4, h5, h6⟩
  · exact .inl (h.ext e)
  · exact .inr ⟨h1, i, j, k, h2, h3, h4, h5, h6.imp (fun k => k.ext e) id⟩
/-- the wanted way out of a def that refuses -/
def RaX (mg : Str → Option Value) (c : Nat) (H : Hp) (E : XK) : Prop := ∀ H', Ex H H' → E (.ref (xA mg c)) none H'
theorem RaX.go {mg : Str → Option Value} {c : Nat} {H H' : Hp} {E : XK} (h : RaX mg c H E) (e : Ex H H') : RaX mg c H' E := fun H2 e2 => h H2 (e.trans e2)
def spx2 (mg : Str → Option Value) : Sp := fun vs H _ E => ∃ b l c, vs = [b, l] ∧ Bad2 H b l c ∧ RaX mg c H E
def spx3 (mg : Str → Option Value) : Sp := fun vs H _ E => ∃ b l n c, vs = [b, l, n] ∧ Bad3 H b l n c ∧ RaX mg c H E
def spx4 (mg : Str → Option Value) : Sp := fun vs H _ E => ∃ b l n s c, vs = [b, l, n, s] ∧ Bad4 H b l n s c ∧ RaX mg c H E
/-- the def named x stands in the module, may raise, and keeps the promise sp -/
structure FnX (P : Program) (w : World) (K : PySem.W.Frag) (mg : Str → Option Value) (base : Heap) (k : Nat) (x : Str) (ps : List Str) (sp : Sp) : Prop where
  ex : ∃ (f : Addr) (fd : FuncData), mg x = some (.ref f) ∧ FnOk P w K mg base (L2.CX P w) k f fd ps sp ∧ PySem.W.keepIn K (.ref f) = true ∧ Binds K fd ps []
theorem pe_fnX {X : Cx} {k : Nat} {x : Str} {ps : List Str} {sp : Sp} {E : XK} {e : Expr} {es : List Expr} {t : TA} {p pos : Pos} (h : FnX X.prog X.w X.K X.mg X.base k x ps sp) (hr : Room k X.A) (hg : Gl X x) (tk : Takes X (fun cls d _ H => E cls d H)) (ha : PA X (e :: es) t)
    (hdb : (x == ("__debug__" : Str)) = false := by decide) (he : starEach (e :: es) X.env = (false, eval e X.env) :: starEach es X.env := by rfl) (hpl : (backTo pos (starEach es X.env)).any (·.1) = false := by rfl) :
    PE X (.Call (.Name x p) (e :: es) [] pos) (tCall sp [] E t) := by
  obtain ⟨f, fd, a, b, c, d⟩ := h.ex
  exact pe_call b hr hg a c d .nil (passes_call tk fun _ _ _ _ h => h) ha hdb he hpl
/-- one of some defs with the same promise, held by a name -/
structure Door (P : Program) (w : World) (K : PySem.W.Frag) (mg : Str → Option Value) (base : Heap) (k : Nat) (sp : Sp) (f : Addr) : Prop where
  ex : ∃ (fd : FuncData) (ps : List Str), FnOk P w K mg base (L2.CX P w) k f fd ps sp ∧ PySem.W.keepIn K (.ref f) = true ∧ Binds K fd ps []
theorem FnX.door {P : Program} {w : World} {K : PySem.W.Frag} {mg : Str → Option Value} {base : Heap} {j k : Nat} {x : Str} {ps : List Str} {sp : Sp} (h : FnX P w K mg base j x ps sp) (hk : j ≤ k) : mg x = some (.ref (refA mg x)) ∧ Door P w K mg base k sp (refA mg x) := by
  obtain ⟨f, fd, a, b, c, d⟩ := h.ex
  rw [refA_of a]
  exact ⟨a, fd, ps, b.mono hk, c, d⟩
def tDoor (P : Program) (w : World) (K : PySem.W.Frag) (mg : Str → Option Value) (base : Heap) (k : Nat) (i : Nat) (sp : Sp) (t : TA) (E : XK) : TE := fun σ H Q => ∃ f, σ[i]? = some (some (.ref f)) ∧ Door P w K mg base k sp f ∧ t σ H fun vs H1 => sp vs H1 Q E
theorem pe_door {X : Cx} {k i : Nat} {x : Str} {sp : Sp} {E : XK} {e : Expr} {es : List Expr} {t : TA} {p pos : Pos} (hr : Room k X.A) (tk : Takes X (fun cls d _ H => E cls d H)) (ha : PA X (e :: es) t) (hN : X.N[i]? = some x) (hv : Vis X.env.scope x)
    (hdb : (x == ("__debug__" : Str)) = false := by decide) (hcd : (x == ("__classdict__" : Str)) = false := by decide)
    (he : starEach (e :: es) X.env = (false, eval e X.env) :: starEach es X.env := by rfl) (hpl : (backTo pos (starEach es X.env)).any (·.1) = false := by rfl) : PE X (.Call (.Name x p) (e :: es) [] pos) (tDoor X.prog X.w X.K X.mg X.base k i sp t E) := by
  refine ⟨fun pins s σ H Q I h => ?_⟩
  obtain ⟨f, hs, ⟨fd, ps, F, hk, hb⟩, ht⟩ := h
  refine (pe_callL (i := i) (f := f) (sp := sp) (dvs := []) (E := E) F hr hN hv hk hb .nil (passes_call tk fun _ _ _ _ h => h) ha hdb hcd he hpl).run pins s σ H Q I ⟨hs, ?_⟩
  have e0 : (fun (vs : List V) (H1 : Hp) => sp (vs ++ []) H1 Q E) = fun vs H1 => sp vs H1 Q E := by
    funext vs H1
    rw [List.append_nil]
  show t σ H (fun vs H1 => sp (vs ++ []) H1 Q E)
  rw [e0]
  exact ht
/-- a def whose code object is told -/
structure FunC (K : PySem.W.Frag) (x qual : Str) (st : Stmt) (f : Addr) (fd : FuncData) (c : Addr) : Prop where
  ex : ∃ (oc : Value) (od : Option Addr) (kV doc pm : Value) (an : Option Addr) (ct : Value) (osl : Array (Option Value)),
    fd = PySem.W.fnOf x qual (defArgs st) (defBody st) (defScope st) .none kV doc pm an (.ref c) ct ∧ K.lookup f = some ⟨oc, od, .func fd, osl⟩ ∧ PySem.W.codeIn K (.ref c) qual = true
theorem FunC.ok {P : Program} {w : World} {K : PySem.W.Frag} {mg : Str → Option Value} {base : Heap} {x qual : Str} {st : Stmt} {f : Addr} {fd : FuncData} {c : Addr} {N ps : List Str} {k : Nat} {sp : Sp} (F : FunC K x qual st f fd c) (S : FnScope N ps (defScope st)) (len : ∀ vs H Q E, sp vs H Q E → vs.length = ps.length)
    (hbody : ∀ (A : Around) (outer : List Env) (s : Shared) (H : Hp) (vs : List V) (Q : VK) (E : XK), Room k (A.deeper (envOfC qual (defScope st) s.heap.objs.size f (.ref c))) → sp vs H Q E →
      ∃ t, PSs (cxOf CX0 P w K mg base N qual (defScope st) f (.ref c) A outer s H E).nox (defBody st) t ∧ t { nx := fun _ H' => Q .non H', rt := Q } (start N vs) H) : FnOk P w K mg base CX0 (k + 1) f fd ps sp := by
  obtain ⟨oc, od, kV, doc, pm, an, ct, osl, rfl, lk, hcd⟩ := F.ex
  refine fn_of lk hcd S len fun A outer s H vs Q E hr hsp => ?_
  obtain ⟨t, h, q⟩ := hbody A outer s H vs Q E hr hsp
  exact ⟨t, h.nox, q⟩
/-- the slots are as many as the names -/
theorem takes_len {X : Cx} {W : WX} (tk : Takes X W) : Takes X (fun cls d σ H => σ.length = X.N.length → W cls d σ H) := fun u s' ⟨a, B, sI, pins, σ, H, cls, d, e, I, nb, up, sky, na, os, ag, w⟩ =>
  tk u s' ⟨a, B, sI, pins, σ, H, cls, d, e, I, nb, up, sky, na, os, ag, w I.len⟩
/-! ### heaps in which tables may grow -/
def Gx (T : List (Addr × Str)) (H H' : Hp) : Prop := ExtN H H' ∧ Tabs T H'
section
variable {T : List (Addr × Str)} {H H1 H2 : Hp}
theorem Gx.refl (h : Tabs T H) : Gx T H H := ⟨ExtN.refl H, h⟩
theorem Gx.ext (g : Gx T H H1) (e : Ex H1 H2) : Gx T H H2 := ⟨g.1.trans (.of e), g.2.ext e⟩
theorem Gx.trans (g : Gx T H H1) (e : Gx T H1 H2) : Gx T H H2 := ⟨g.1.trans e.1, e.2⟩
theorem Gx.pre (e : Ex H H1) (g : Gx T H1 H2) : Gx T H H2 := ⟨ExtN.trans (.of e) g.1, g.2⟩
theorem Gx.l (g : Gx T H H1) {a : Addr} {xs : List V} (h : H a = some (.lst xs)) : H1 a = some (.lst xs) := g.1 _ _ h fun _ z => by cases z
theorem Gx.t (g : Gx T H H1) {a : Addr} {xs : List V} (h : H a = some (.tup xs)) : H1 a = some (.tup xs) := g.1 _ _ h fun _ z => by cases z
end
/-- what _law_kinds makes of a lambda's reading: the refusal c is raised, and told as a list -/
def TKinds (mg : Str → Option Value) : (XK → Hp → VK → Prop) → Hp → VK → Prop := fun tl H Q =>
  ∃ c, c < 4 ∧ (∀ H0, Ex H H0 → ∀ Q', tl (fun cls d H' => cls = .ref (xA mg c) ∧ d = none ∧ Ex H0 H') H0 Q') ∧ RetL ((dueB c).map V.bl) H Q
section
variable {T : List (Addr × Str)} {K : PySem.W.Frag} {mg : Str → Option Value} {σ : L2.St} {H H' : Hp} {ta tb tc te tx tl td : TE} {D : Ends} {tu tw tz : TS} {t : XK → TE}
/-- the lambda refuses by the class c -/
def LamR (T : List (Addr × Str)) (mg : Str → Option Value) (t : XK → TE) (σ : L2.St) (H : Hp) (c : Nat) : Prop := ∀ H1, Gx T H H1 → ∀ H0, Ex H1 H0 → ∀ Q', t (fun cls d H' => cls = .ref (xA mg c) ∧ d = none ∧ Ex H0 H') σ H0 Q'
/-- a value that comes to the list xs -/
def EvD (T : List (Addr × Str)) (te : TE) (σ : L2.St) (H : Hp) (xs : List V) : Prop := ∀ H1, Gx T H H1 → ∀ Q : VK, (∀ q H2, Ex H1 H2 → H2 q = some (.lst xs) → Q (.ref q) H2) → te σ H1 Q
theorem ed_var {i : Nat} {q : Addr} {xs : List V} (h : σ[i]? = some (some (.ref q))) (hq : H q = some (.lst xs)) : EvD T (tVar i) σ H xs := fun H1 g Q k => ⟨_, h, k q H1 (Ex.refl H1) (g.l hq)⟩
theorem lam_ne {c : Nat} (hT : Tabs T H) (hc : c < 4) (hl : LamR T mg t σ H c) (hb : EvD T tb σ H ((dueB c).map V.bl)) {Q : VK} (k : ∀ H', Gx T H H' → Q (.bl false) H') : tOp (rNeD K) (tLam T (TKinds mg) t) tb σ H Q := by
  refine ⟨hT, fun H1 e1 t1 => ⟨c, hc, fun H0 e0 => hl H1 ⟨e1, t1⟩ H0 e0, fun p H2 np e2 hp => ?_⟩⟩
  have g2 : Gx T H H2 := Gx.ext ⟨e1, t1⟩ e2
  refine hb H2 g2 _ fun q H3 e3 hq => ?_
  have r := rv_neB (K := K) (ns := dueB c) (ms := dueB c) (sq_of (e3 p _ hp)) (sq_of hq)
  rw [decide_eq_true (show dueB c = dueB c from rfl)] at r
  exact r H3 (Ex.refl H3) Q fun H4 e4 => k H4 ((g2.ext e3).ext e4)
theorem lam_eq {c : Nat} (hT : Tabs T H) (hc : c < 4) (hl : LamR T mg t σ H c) (hb : EvD T tb σ H ((dueB c).map V.bl)) {Q : VK} (k : ∀ H', Gx T H H' → Q (.bl true) H') : tOp (rEqD K) (tLam T (TKinds mg) t) tb σ H Q := by
  refine ⟨hT, fun H1 e1 t1 => ⟨c, hc, fun H0 e0 => hl H1 ⟨e1, t1⟩ H0 e0, fun p H2 np e2 hp => ?_⟩⟩
  have g2 : Gx T H H2 := Gx.ext ⟨e1, t1⟩ e2
  refine hb H2 g2 _ fun q H3 e3 hq => ?_
  have r := rv_eqB (K := K) (ns := dueB c) (ms := dueB c) (sq_of (e3 p _ hp)) (sq_of hq)
  rw [decide_eq_true (show dueB c = dueB c from rfl)] at r
  exact r H3 (Ex.refl H3) Q fun H4 e4 => k H4 ((g2.ext e3).ext e4)
theorem s_lamNe {c : Nat} (hT : Tabs T H) (hc : c < 4) (hl : LamR T mg t σ H c) (hb : EvD T tb σ H ((dueB c).map V.bl)) (k : ∀ H', Gx T H H' → D.nx σ H') : tIfS (tTest (tOp (rNeD K) (tLam T (TKinds mg) t) tb)) tu tNext D σ H :=
  lam_ne hT hc hl hb fun H' g => ⟨false, rfl, iteF (k H' g)⟩
theorem q_lamNe {c : Nat} (hT : Tabs T H) (hc : c < 4) (hl : LamR T mg t σ H c) (hb : EvD T tb σ H ((dueB c).map V.bl)) (k : ∀ H', Gx T H H' → tz D σ H') : tSeq (tIfS (tTest (tOp (rNeD K) (tLam T (TKinds mg) t) tb)) tu tNext) tz D σ H :=
  lam_ne hT hc hl hb fun H' g => ⟨false, rfl, iteF (k H' g)⟩
/-- for x in (a, b, ..): tables may grow -/
theorem q_forTN {xs : List V} {j : Nat} (h : EvU tl σ H xs) (hT : Tabs T H) (Pv : L2.St → Prop) (h0 : Pv σ)
    (hs : ∀ H1, Ex H H1 → ∀ x σ' H', x ∈ xs → Gx T H1 H' → Pv σ' → tu { D with nx := fun σ2 H2 => Gx T H1 H2 ∧ Pv σ2, ct := fun σ2 H2 => Gx T H1 H2 ∧ Pv σ2, bk := tz D } (σ'.set j (some x)) H')
    (hd : ∀ σ' H', Gx T H H' → Pv σ' → tz D σ' H') : tSeq (tFor (iTup K tl) (gName j) tu) tz D σ H :=
  h H (Ex.refl H) _ fun p H1 _ e hp => ⟨p, rfl, ⟨xs, st_of hp⟩, for_tup (fun _ σ' H' => Gx T H1 H' ∧ Pv σ') ⟨Gx.refl (hT.ext e), h0⟩ (fun i σ' H' _ q => st_of (q.1.t hp)) (fun i x σ' H' hi q => hs H1 e x σ' H' (List.mem_of_getElem? hi) q.1 q.2) (fun σ' H' q => hd σ' H' (q.1.pre e) q.2)⟩
theorem s_forTN {xs : List V} {j : Nat} (h : EvU tl σ H xs) (hT : Tabs T H) (Pv : L2.St → Prop) (h0 : Pv σ)
    (hs : ∀ H1, Ex H H1 → ∀ x σ' H', x ∈ xs → Gx T H1 H' → Pv σ' → tu { D with nx := fun σ2 H2 => Gx T H1 H2 ∧ Pv σ2, ct := fun σ2 H2 => Gx T H1 H2 ∧ Pv σ2, bk := D.nx } (σ'.set j (some x)) H')
    (hd : ∀ σ' H', Gx T H H' → Pv σ' → D.nx σ' H') : tFor (iTup K tl) (gName j) tu D σ H :=
  h H (Ex.refl H) _ fun p H1 _ e hp => ⟨p, rfl, ⟨xs, st_of hp⟩, for_tup (fun _ σ' H' => Gx T H1 H' ∧ Pv σ') ⟨Gx.refl (hT.ext e), h0⟩ (fun i σ' H' _ q => st_of (q.1.t hp)) (fun i x σ' H' hi q => hs H1 e x σ' H' (List.mem_of_getElem? hi) q.1 q.2) (fun σ' H' q => hd σ' H' (q.1.pre e) q.2)⟩
/-- a new list of which R holds -/
def EvR (te : TE) (σ : L2.St) (H : Hp) (R : List V → Hp → Prop) : Prop := ∀ H1, Ex H H1 → ∀ Q : VK, (∀ p H2 xs, Ex H1 H2 → H2 p = some (.lst xs) → R xs H2 → Q (.ref p) H2) → te σ H1 Q
/-- for x in a new list: tables may grow -/
theorem q_forLN {R : List V → Hp → Prop} {j : Nat} (h : EvR tl σ H R) (hT : Tabs T H) (Pv : L2.St → Prop) (h0 : Pv σ)
    (hs : ∀ H1 xs, Ex H H1 → R xs H1 → ∀ x σ' H', x ∈ xs → Gx T H1 H' → Pv σ' → tu { D with nx := fun σ2 H2 => Gx T H1 H2 ∧ Pv σ2, ct := fun σ2 H2 => Gx T H1 H2 ∧ Pv σ2, bk := tz D } (σ'.set j (some x)) H')
    (hd : ∀ σ' H', Gx T H H' → Pv σ' → tz D σ' H') : tSeq (tFor (iList K tl) (gName j) tu) tz D σ H :=
  h H (Ex.refl H) _ fun p H1 xs e hp r => ⟨p, rfl, ⟨xs, sq_of hp⟩, for_list (fun _ σ' H' => Gx T H1 H' ∧ Pv σ') ⟨Gx.refl (hT.ext e), h0⟩ (fun i σ' H' _ q => sq_of (q.1.l hp)) (fun i x σ' H' hi q => hs H1 xs e r x σ' H' (List.mem_of_getElem? hi) q.1 q.2) (fun σ' H' q => hd σ' H' (q.1.pre e) q.2)⟩
theorem s_forLN {R : List V → Hp → Prop} {j : Nat} (h : EvR tl σ H R) (hT : Tabs T H) (Pv : L2.St → Prop) (h0 : Pv σ)
    (hs : ∀ H1 xs, Ex H H1 → R xs H1 → ∀ x σ' H', x ∈ xs → Gx T H1 H' → Pv σ' → tu { D with nx := fun σ2 H2 => Gx T H1 H2 ∧ Pv σ2, ct := fun σ2 H2 => Gx T H1 H2 ∧ Pv σ2, bk := D.nx } (σ'.set j (some x)) H')
    (hd : ∀ σ' H', Gx T H H' → Pv σ' → D.nx σ' H') : tFor (iList K tl) (gName j) tu D σ H :=
  h H (Ex.refl H) _ fun p H1 xs e hp r => ⟨p, rfl, ⟨xs, sq_of hp⟩, for_list (fun _ σ' H' => Gx T H1 H' ∧ Pv σ') ⟨Gx.refl (hT.ext e), h0⟩ (fun i σ' H' _ q => sq_of (q.1.l hp)) (fun i x σ' H' hi q => hs H1 xs e r x σ' H' (List.mem_of_getElem? hi) q.1 q.2) (fun σ' H' q => hd σ' H' (q.1.pre e) q.2)⟩
/-- a list of which R holds, and behind it a new list -/
theorem er_cat {R R' : List V → Hp → Prop} {ys : List V} (ha : EvR ta σ H R) (hb : EvL tb σ H ys) (hr : ∀ xs H1 H2, Ex H H1 → R xs H1 → Ex H1 H2 → xs.length + ys.length ≤ 100000 ∧ R' (xs ++ ys) H2) : EvR (tOp rCat ta tb) σ H R' := fun H1 e Q q =>
  ha H1 e _ fun p H2 xs e2 hp r => hb H2 (e.trans e2) _ fun s H3 ns e3 hs => by
    obtain ⟨hz, _⟩ := hr xs H2 H3 (e.trans e2) r e3
    exact ⟨p, s, xs, ys, rfl, rfl, e3 p _ hp, hs, sz_of hz, fun u hu => q u _ _ ((e2.trans e3).trans (Ex.new hu)) upd_same (hr xs H2 _ (e.trans e2) r (e3.trans (Ex.new hu))).2⟩
end
end Sl
namespace Sl
open PySem PySem.Spec PyProof.Rows L2 Evl
def topS (i : Nat) : Stmt := PySem.Challenge.pw_sortless_k09_refused.main.body.getD i (.Pass ⟨0, 0, 0, 0⟩)
/-- what the top has left of names: the built-in ones are free, the constants stand -/
structure Bf (K : PySem.W.Frag) (mg : Str → Option Value) : Prop where
  b_ValueError : mg "ValueError" = none
  b_bool : mg "bool" = none
  b_enumerate : mg "enumerate" = none
  b_int : mg "int" = none
  b_isinstance : mg "isinstance" = none
  b_len : mg "len" = none
  b_min : mg "min" = none
  b_range : mg "range" = none
  b_sorted : mg "sorted" = none
  b_sum : mg "sum" = none
  b_zip : mg "zip" = none
  g_GREATEST : ConI mg "GREATEST" 12
  g_LONGEST : ConI mg "LONGEST" 8
/-- the classes as the top has made them -/
structure Cf (K : PySem.W.Frag) (mg : Str → Option Value) : Prop where
  g_Answer : mg "Answer" = some (.ref (cA mg "Answer"))
  g_Came : mg "Came" = some (.ref (cA mg "Came"))
  g_Never : mg "Never" = some (.ref (cA mg "Never"))
  cl_Came : Cls K (cA mg "Came")
  ty_Came : TyI K (cA mg "Came")
  cl_Never : Cls K (cA mg "Never")
  ty_Never : TyI K (cA mg "Never")
  mk_Never : MkO K (cA mg "Never")
  nF : NoAttr K (cA mg "Came") "number"
  is_Came_Answer : PySem.W.kitOne K (.ref (cA mg "Came")) (.ref (cA mg "Answer")) = some true
  is_Came_Came : PySem.W.kitOne K (.ref (cA mg "Came")) (.ref (cA mg "Came")) = some true
  is_Came_Never : PySem.W.kitOne K (.ref (cA mg "Came")) (.ref (cA mg "Never")) = some false
  is_Never_Answer : PySem.W.kitOne K (.ref (cA mg "Never")) (.ref (cA mg "Answer")) = some true
  is_Never_Came : PySem.W.kitOne K (.ref (cA mg "Never")) (.ref (cA mg "Came")) = some false
  is_Never_Never : PySem.W.kitOne K (.ref (cA mg "Never")) (.ref (cA mg "Never")) = some true
end Sl
namespace Sl
open PySem PySem.Spec PyProof.Rows L2 Evl
section
variable {P : Program} {w : World} {K : PySem.W.Frag} {mg : Str → Option Value} {base : Heap}
def sp_is_whole (K : PySem.W.Frag) (mg : Str → Option Value) : Sp := fun vs H Q _ => ∃ v b, vs = [v] ∧ (((∃ i, v = .int i) ∧ b = true) ∨ (Kd H v ∧ b = false)) ∧ RetV (.bl b) H Q
theorem spw_int {K : PySem.W.Frag} {mg : Str → Option Value} {H : Hp} {i : Int} : SpV (sp_is_whole K mg) [.int i] H (.bl true) := fun _ _ _ q _ => ⟨_, _, rfl, .inl ⟨⟨_, rfl⟩, rfl⟩, q⟩
theorem spw_kd {K : PySem.W.Frag} {mg : Str → Option Value} {H : Hp} {v : V} (k : Kd H v) : SpV (sp_is_whole K mg) [v] H (.bl false) := fun _ e _ q _ => ⟨_, _, rfl, .inr ⟨k.ex e, rfl⟩, q⟩
theorem rc_no {K : PySem.W.Frag} {H : Hp} {x : V} {w0 : String} (ty : ∀ H1, Ex H H1 → TyX K H1 x (.type w0)) (h : kitB w0 "int" = some false) : RC (rIsi K) [x, .ty "int"] H (.bl false) := rc_isi (.ty "int") ty (kit_ty h)
theorem rc_bool_int {K : PySem.W.Frag} {H : Hp} {b : Bool} : RC (rIsi K) [.bl b, .ty "int"] H (.bl true) := rc_isi (.ty "int") (fun _ _ => .base (.bl b)) (kit_ty (by decide +kernel))
abbrev s_is_whole : Stmt := topS 10
abbrev N_is_whole : List Str := ["thing"]
theorem sc_is_whole : FnScope N_is_whole ["thing"] (defScope s_is_whole) := ⟨rfl, rfl, rfl, by decide +kernel, rfl, by decide +kernel, by decide +kernel⟩
theorem ok_is_whole {f : Addr} {fd : FuncData} (F : Fun K "is_whole" "is_whole" s_is_whole f fd) (B : Bf K mg) : FnOk P w K mg base CX0 1 f fd ["thing"] (sp_is_whole K mg) := by
  refine F.ok (k := 0) sc_is_whole (fun vs H Q E h => ?_) (fun cdv A outer s H vs Q E hr h => ?_)
  · obtain ⟨v, b, rfl, _⟩ := h
    rfl
  · obtain ⟨v, b, rfl, hv, q⟩ := h
    refine ⟨_, (pss_one (ps_ret (pe_and (pe_callB call_isi (by rfl) B.b_isinstance (by decide +kernel) (pa_cons (pv 0) (pa_cons (pe_bltn (v := .ty "int") (by rfl) B.b_int (by decide +kernel) rfl) pa_nil))) (pe_one (pe_not (pe_callB call_isi (by rfl) B.b_isinstance (by decide +kernel) (pa_cons (pv 0) (pa_cons (pe_bltn (v := .ty "bool") (by rfl) B.b_bool (by decide +kernel) rfl) pa_nil)))))))), ?_⟩
    rcases hv with ⟨⟨i, rfl⟩, rfl⟩ | ⟨hk, rfl⟩
    · exact s_ret (ev_andV (ev_cb (ea_cons (ev_var rfl) (ea_cons ev_c ea_nil)) rc_isi_int) (fun _ => (ev_notV (ev_cb (ea_cons (ev_var rfl) (ea_cons ev_c ea_nil)) rc_isi_bool)))) q
    · cases hk with
      | non => exact s_ret (ev_andV (b := false) (ev_cb (ea_cons (ev_var rfl) (ea_cons ev_c ea_nil)) (rc_no (fun _ _ => .base .non) (by decide +kernel))) (fun z => nomatch z)) q
      | str s => exact s_ret (ev_andV (b := false) (ev_cb (ea_cons (ev_var rfl) (ea_cons ev_c ea_nil)) (rc_no (fun _ _ => .base (.str s)) (by decide +kernel))) (fun z => nomatch z)) q
      | bl b => exact s_ret (ev_andV (ev_cb (ea_cons (ev_var rfl) (ea_cons ev_c ea_nil)) rc_bool_int) (fun _ => ev_notV (ev_cb (ea_cons (ev_var rfl) (ea_cons ev_c ea_nil)) rc_isi_bb))) q
      | lst e => exact s_ret (ev_andV (b := false) (ev_cb (ea_cons (ev_var rfl) (ea_cons ev_c ea_nil)) (rc_no (fun _ e1 => .base (.lst (e1 _ _ e))) (by decide +kernel))) (fun z => nomatch z)) q
      | tup e => exact s_ret (ev_andV (b := false) (ev_cb (ea_cons (ev_var rfl) (ea_cons ev_c ea_nil)) (rc_no (fun _ e1 => .base (.tup (e1 _ _ e))) (by decide +kernel))) (fun z => nomatch z)) q
      | dK e => exact s_ret (ev_andV (b := false) (ev_cb (ea_cons (ev_var rfl) (ea_cons ev_c ea_nil)) (rc_no (fun _ e1 => .base (.dK (e1 _ _ e))) (by decide +kernel))) (fun z => nomatch z)) q
def sp_power_of (K : PySem.W.Frag) (mg : Str → Option Value) : Sp := sp2 (fun b n => 2 ≤ b ∧ b ≤ 12 ∧ 0 ≤ n ∧ n ≤ 8) (fun b n => .int (pw b n.toNat))
abbrev s_power_of : Stmt := topS 11
abbrev N_power_of : List Str := ["base", "many", "found", "turn"]
theorem sc_power_of : FnScope N_power_of ["base", "many"] (defScope s_power_of) := ⟨rfl, rfl, rfl, by decide +kernel, rfl, by decide +kernel, by decide +kernel⟩
theorem ok_power_of {f : Addr} {fd : FuncData} (F : Fun K "power_of" "power_of" s_power_of f fd) (B : Bf K mg) : FnOk P w K mg base CX0 1 f fd ["base", "many"] (sp_power_of K mg) := by
  refine F.ok (k := 0) sc_power_of (fun vs H Q E h => ?_) (fun cdv A outer s H vs Q E hr h => ?_)
  · obtain ⟨a, b, rfl, _⟩ := h
    rfl
  · obtain ⟨b, n, rfl, ⟨h1, h2, h3, h4⟩, q⟩ := h
    refine ⟨_, (pss_cons (ps_set (i := 2) sc_power_of.nd rfl (Or.inl rfl) pe_int)
          (pss_cons (ps_for PassesOwn.never rfl (pi_range1 (by rfl) B.b_range (pa_cons (pv 1) pa_nil)) (pg_name (i := 3) sc_power_of.nd rfl (Or.inl rfl)) (pss_one (ps_set (i := 2) sc_power_of.nd rfl (Or.inl rfl) (pe_op op_mul (pv 2) (pv 0)))))
          (pss_one (ps_ret (pv 2))))), ?_⟩
    refine q_asg ev_c fun H1 e1 => ?_
    refine q_forR1 (ea_cons (ev_var rfl) ea_nil) (by omega) (fun i σ' H' => ∃ y, σ' = [some (.int b), some (.int n), some (.int (pw b i)), y] ∧ Ex H H') (fun H2 e2 => ⟨none, rfl, e1.trans e2⟩) ?_ ?_
    · rintro i σ' H' hi ⟨y, rfl, e⟩
      exact s_asg (ev_op (ev_var rfl) (ev_var rfl) (rv_I (by first | exact Or.inr ⟨by omega, by omega⟩ | exact Or.inl ⟨by omega, by omega⟩))) fun H2 e2 => ⟨_, rfl, e.trans e2⟩
    · rintro σ' H' ⟨y, rfl, e⟩
      exact s_ret (ev_var rfl) fun H2 e2 => q H2 (e.trans e2)
def sp_check_both (K : PySem.W.Frag) (mg : Str → Option Value) : Sp := sp2 (fun b l => 2 ≤ b ∧ b ≤ 12 ∧ 1 ≤ l ∧ l ≤ 8) (fun _ _ => .non)
abbrev s_check_both : Stmt := topS 12
abbrev N_check_both : List Str := ["base", "length"]
theorem sc_check_both : FnScope N_check_both ["base", "length"] (defScope s_check_both) := ⟨rfl, rfl, rfl, by decide +kernel, rfl, by decide +kernel, by decide +kernel⟩
theorem ok_check_both {f : Addr} {fd : FuncData} (F : Fun K "check_both" "check_both" s_check_both f fd) (B : Bf K mg) (c_is_whole : Fn P w K mg base 1 "is_whole" ["thing"] (sp_is_whole K mg)) : FnOk P w K mg base CX0 2 f fd ["base", "length"] (sp_check_both K mg) := by
  refine F.ok (k := 1) sc_check_both (fun vs H Q E h => ?_) (fun cdv A outer s H vs Q E hr h => ?_)
  · obtain ⟨a, b, rfl, _⟩ := h
    rfl
  · obtain ⟨b, l, rfl, ⟨h1, h2, h3, h4⟩, q⟩ := h
    refine ⟨_, (pss_cons (ps_if (PW.pt (pw_or (pt_not (pt_val (pe_fn c_is_whole (hr.mono (by decide)) (by rfl) (pa_cons (pv 0) pa_nil)))) (pw_or1 (pt_not (pt_chain op_le op_le pe_int (pv 0) (pe_conI B.g_GREATEST (by rfl))))))) (pss_one ps_never) pss_nil)
          (pss_one (ps_if (PW.pt (pw_or (pt_not (pt_val (pe_fn c_is_whole (hr.mono (by decide)) (by rfl) (pa_cons (pv 1) pa_nil)))) (pw_or1 (pt_not (pt_chain op_le op_le pe_int (pv 1) (pe_conI B.g_LONGEST (by rfl))))))) (pss_one ps_never) pss_nil))), ?_⟩
    refine q_when (et_is (b := false) (et_or (et_not (et_B (ev_call (ea_cons (ev_var rfl) ea_nil) spw_int))) (fun _ => (et_not (et_test (ev_chain ev_c (ev_var rfl) rv_I0 ev_c rv_I0))))) (by simp [h1, h2])) (fun z => nomatch z) fun _ H1 e1 => ?_
    refine s_when (et_is (b := false) (et_or (et_not (et_B (ev_call (ea_cons (ev_var rfl) ea_nil) spw_int))) (fun _ => (et_not (et_test (ev_chain ev_c (ev_var rfl) rv_I0 ev_c rv_I0))))) (by simp [h3, h4])) (fun z => nomatch z) fun _ H2 e2 => ?_
    exact q H2 (e1.trans e2)
def sp_check_number (K : PySem.W.Frag) (mg : Str → Option Value) : Sp := sp3 Dom (fun _ _ _ => .non)
abbrev s_check_number : Stmt := topS 13
abbrev N_check_number : List Str := ["base", "length", "number"]
theorem sc_check_number : FnScope N_check_number ["base", "length", "number"] (defScope s_check_number) := ⟨rfl, rfl, rfl, by decide +kernel, rfl, by decide +kernel, by decide +kernel⟩
theorem ok_check_number {f : Addr} {fd : FuncData} (F : Fun K "check_number" "check_number" s_check_number f fd) (B : Bf K mg) (c_check_both : Fn P w K mg base 2 "check_both" ["base", "length"] (sp_check_both K mg)) (c_is_whole : Fn P w K mg base 1 "is_whole" ["thing"] (sp_is_whole K mg)) (c_power_of : Fn P w K mg base 1 "power_of" ["base", "many"] (sp_power_of K mg)) : FnOk P w K mg base CX0 3 f fd ["base", "length", "number"] (sp_check_number K mg) := by
  refine F.ok (k := 2) sc_check_number (fun vs H Q E h => ?_) (fun cdv A outer s H vs Q E hr h => ?_)
  · obtain ⟨a, b, c, rfl, _⟩ := h
    rfl
  · obtain ⟨b, l, n, rfl, ⟨⟨h1, h2, h3, h4⟩, h5, h6⟩, q⟩ := h
    refine ⟨_, (pss_cons (ps_expr (pe_fn c_check_both (hr.mono (by decide)) (by rfl) (pa_cons (pv 0) (pa_cons (pv 1) pa_nil))))
          (pss_one (ps_if (PW.pt (pw_or (pt_not (pt_val (pe_fn c_is_whole (hr.mono (by decide)) (by rfl) (pa_cons (pv 2) pa_nil)))) (pw_or1 (pt_not (pt_chain op_le op_lt pe_int (pv 2) (pe_fn c_power_of (hr.mono (by decide)) (by rfl) (pa_cons (pv 0) (pa_cons (pv 1) pa_nil)))))))) (pss_one ps_never) pss_nil))), ?_⟩
    refine q_drop (ev_call (ea_cons (ev_var rfl) (ea_cons (ev_var rfl) ea_nil)) (sp2_v (by first | assumption | omega))) fun H1 e1 => ?_
    refine s_when (et_is (b := false) (et_or (et_not (et_B (ev_call (ea_cons (ev_var rfl) ea_nil) spw_int))) (fun _ => (et_not (et_test (ev_chain ev_c (ev_var rfl) rv_I0 (ev_call (ea_cons (ev_var rfl) (ea_cons (ev_var rfl) ea_nil)) (sp2_v (by first | exact ⟨by omega, by omega, by omega, by omega⟩ | omega))) rv_I0))))) (by simp [h5, h6])) (fun z => nomatch z) fun _ H2 e2 => ?_
    exact q H2 (e1.trans e2)
def sp_figures_of (K : PySem.W.Frag) (mg : Str → Option Value) : Sp := sp3L (fun b l n => 2 ≤ b ∧ b ≤ 12 ∧ 1 ≤ l ∧ l ≤ 8) (fun b l n => figs b l.toNat n)
abbrev s_figures_of : Stmt := topS 14
abbrev N_figures_of : List Str := ["base", "length", "number", "found", "turn"]
theorem sc_figures_of : FnScope N_figures_of ["base", "length", "number"] (defScope s_figures_of) := ⟨rfl, rfl, rfl, by decide +kernel, rfl, by decide +kernel, by decide +kernel⟩
theorem ok_figures_of {f : Addr} {fd : FuncData} (F : Fun K "figures_of" "figures_of" s_figures_of f fd) (B : Bf K mg) : FnOk P w K mg base CX0 1 f fd ["base", "length", "number"] (sp_figures_of K mg) := by
  refine F.ok (k := 0) sc_figures_of (fun vs H Q E h => ?_) (fun cdv A outer s H vs Q E hr h => ?_)
  · obtain ⟨a, b, c, rfl, _⟩ := h
    rfl
  · obtain ⟨b, l, n, rfl, ⟨h1, h2, h3, h4⟩, q⟩ := h
    refine ⟨_, (pss_cons (ps_set (i := 3) sc_figures_of.nd rfl (Or.inl rfl) (pe_lst pa_nil))
          (pss_cons (ps_for PassesOwn.never rfl (pi_range1 (by rfl) B.b_range (pa_cons (pv 1) pa_nil)) (pg_name (i := 4) sc_figures_of.nd rfl (Or.inl rfl)) (pss_cons (ps_expr (pe_bm PySem.F.plainAttrs_list PySem.F.slot_list_append PySem.F.type_list_append mt_append (pv 3) (pa_cons (pe_op op_mod (pv 2) (pv 0)) pa_nil)))
          (pss_one (ps_set (i := 2) sc_figures_of.nd rfl (Or.inl rfl) (pe_op op_fdiv (pv 2) (pv 0))))))
          (pss_one (ps_ret (pv 3))))), ?_⟩
    refine q_asgL (el_lst ea_nil (by decide)) fun p H1 np e1 hp => ?_
    refine q_forR1 (ea_cons (ev_var rfl) ea_nil) (by omega) (fun i σ' H' => ∃ y, σ' = [some (.int b), some (.int l), some (.int (n / pw b i)), some (.ref p), y] ∧ Ex H H' ∧ H' p = some (.lst ((figs b i n).map V.int)))
      (fun H2 e2 => ⟨none, by rw [show n / pw b 0 = n from Int.ediv_one n] <;> rfl, e1.trans e2, e2 p _ hp⟩) ?_ ?_
    · rintro i σ' H' hi ⟨y, rfl, e, hp'⟩
      refine q_app hp' (ev_var rfl) (ev_op (ev_var rfl) (ev_var rfl) (rv_I (by first | decide | omega))) (by rw [List.length_map, figs_length]; omega) fun H2 e2 => ?_
      refine s_asg (ev_op (ev_var rfl) (ev_var rfl) (rv_I (by first | exact ⟨by decide, by decide⟩ | exact ⟨by omega, by omega⟩))) fun H3 e3 => ⟨_, by rw [div_pw (by omega)] <;> rfl, (ex_set e e2 np).trans e3, ?_⟩
      refine e3 p _ (upd_same.trans ?_)
      rw [figs_succ, List.map_append] <;> rfl
    · rintro σ' H' ⟨y, rfl, e, hp'⟩
      exact s_ret (ev_var rfl) fun H2 e2 => q p H2 np (e.trans e2) (e2 p _ hp')
def sp_written_by (K : PySem.W.Frag) (mg : Str → Option Value) : Sp := fun vs H Q _ => ∃ (b : Int) (p : Addr) (ds : List Int), vs = [.int b, .ref p] ∧ SqL K H p (ds.map V.int) ∧ (2 ≤ b ∧ b ≤ 12) ∧ RetV (.int (wr b ds)) H Q
theorem sp_written_v {K : PySem.W.Frag} {mg : Str → Option Value} {b : Int} {p : Addr} {ds : List Int} {H : Hp} (hs : SqL K H p (ds.map V.int)) (h : 2 ≤ b ∧ b ≤ 12) : SpV (sp_written_by K mg) [.int b, .ref p] H (.int (wr b ds)) :=
  fun _ e _ q _ => ⟨b, p, ds, rfl, ex_l e hs, h, q⟩
theorem wr_take {b : Int} {ds : List Int} {i : Nat} {d : Int} (h : ds[i]? = some d) : wr b (ds.take (i + 1)) = wr b (ds.take i) * b + d := by
  rw [List.take_add_one, h]
  exact wr_append b _ d
theorem item_of {ns : List Int} {i : Nat} {y : V} (hi : (ns.map V.int)[i]? = some y) : ∃ z, ns[i]? = some z ∧ y = V.int z := by
  rw [List.getElem?_map] at hi
  cases e : ns[i]? with
  | none =>
    rw [e] at hi
    cases hi
  | some z =>
    rw [e] at hi
    exact ⟨z, rfl, (Option.some.inj hi).symm⟩
abbrev s_written_by : Stmt := topS 15
abbrev N_written_by : List Str := ["base", "figures", "found", "figure"]
theorem sc_written_by : FnScope N_written_by ["base", "figures"] (defScope s_written_by) := ⟨rfl, rfl, rfl, by decide +kernel, rfl, by decide +kernel, by decide +kernel⟩
theorem ok_written_by {f : Addr} {fd : FuncData} (F : Fun K "written_by" "written_by" s_written_by f fd) (B : Bf K mg) : FnOk P w K mg base CX0 1 f fd ["base", "figures"] (sp_written_by K mg) := by
  refine F.ok (k := 0) sc_written_by (fun vs H Q E h => ?_) (fun cdv A outer s H vs Q E hr h => ?_)
  · obtain ⟨b, p, ds, rfl, _⟩ := h
    rfl
  · obtain ⟨b, p, ds, rfl, hs, ⟨h1, h2⟩, q⟩ := h
    refine ⟨_, (pss_cons (ps_set (i := 2) sc_written_by.nd rfl (Or.inl rfl) pe_int)
          (pss_cons (ps_for PassesOwn.never rfl (pi_list (pv 1)) (pg_name (i := 3) sc_written_by.nd rfl (Or.inl rfl)) (pss_one (ps_set (i := 2) sc_written_by.nd rfl (Or.inl rfl) (pe_op op_add (pe_op op_mul (pv 2) (pv 0)) (pv 3)))))
          (pss_one (ps_ret (pv 2))))), ?_⟩
    refine q_asg ev_c fun H1 e1 => ?_
    refine q_forLn (ev_var rfl) (ex_l e1 hs) (fun i σ' H' => ∃ y, σ' = [some (.int b), some (.ref p), some (.int (wr b (ds.take i))), y] ∧ Ex H H') (fun H2 e2 => ⟨none, rfl, e1.trans e2⟩) (fun i σ' H' _ ⟨_, _, e⟩ => ex_l e hs) ?_ ?_
    · rintro i x σ' H' hi ⟨y, rfl, e⟩
      obtain ⟨d, hd, rfl⟩ := item_of hi
      exact s_asg (ev_op (ev_op (ev_var rfl) (ev_var rfl) (rv_I (by first | exact Or.inr ⟨by omega, by omega⟩ | exact Or.inl ⟨by omega, by omega⟩))) (ev_var rfl) rv_I0) fun H2 e2 => ⟨_, by rw [wr_take hd] <;> rfl, e.trans e2⟩
    · rintro σ' H' ⟨y, rfl, e⟩
      rw [List.length_map, List.take_length]
      exact s_ret (ev_var rfl) fun H2 e2 => q H2 (e.trans e2)
def sp_step_of (K : PySem.W.Frag) (mg : Str → Option Value) : Sp := sp3 (fun b l n => 2 ≤ b ∧ b ≤ 12 ∧ 1 ≤ l ∧ l ≤ 8) (fun b l n => .int (stepM b l.toNat n))
abbrev s_step_of : Stmt := topS 16
abbrev N_step_of : List Str := ["base", "length", "number", "rising"]
theorem sc_step_of : FnScope N_step_of ["base", "length", "number"] (defScope s_step_of) := ⟨rfl, rfl, rfl, by decide +kernel, rfl, by decide +kernel, by decide +kernel⟩
theorem ok_step_of {f : Addr} {fd : FuncData} (F : Fun K "step_of" "step_of" s_step_of f fd) (B : Bf K mg) (c_figures_of : Fn P w K mg base 1 "figures_of" ["base", "length", "number"] (sp_figures_of K mg)) (c_written_by : Fn P w K mg base 1 "written_by" ["base", "figures"] (sp_written_by K mg)) : FnOk P w K mg base CX0 2 f fd ["base", "length", "number"] (sp_step_of K mg) := by
  refine F.ok (k := 1) sc_step_of (fun vs H Q E h => ?_) (fun cdv A outer s H vs Q E hr h => ?_)
  · obtain ⟨a, b, c, rfl, _⟩ := h
    rfl
  · obtain ⟨b, l, n, rfl, ⟨h1, h2, h3, h4⟩, q⟩ := h
    refine ⟨_, (pss_cons (ps_set (i := 3) sc_step_of.nd rfl (Or.inl rfl) (pe_callB cr_sortedI (by rfl) B.b_sorted (by decide +kernel) (pa_cons (pe_fn c_figures_of (hr.mono (by decide)) (by rfl) (pa_cons (pv 0) (pa_cons (pv 1) (pa_cons (pv 2) pa_nil)))) pa_nil)))
          (pss_one (ps_ret (pe_op op_sub (pe_fn c_written_by (hr.mono (by decide)) (by rfl) (pa_cons (pv 0) (pa_cons (pe_revL (pv 3)) pa_nil))) (pe_fn c_written_by (hr.mono (by decide)) (by rfl) (pa_cons (pv 0) (pa_cons (pv 3) pa_nil))))))), ?_⟩
    refine q_asgL (el_sortedN (el_call (ea_cons (ev_var rfl) (ea_cons (ev_var rfl) (ea_cons (ev_var rfl) ea_nil))) (sp3L_l ⟨h1, h2, h3, h4⟩))) fun p H1 np e1 hp => ?_
    refine s_ret (ev_op (ev_call2L (ev_var rfl) (el_rev (ev_var rfl) (sq_of hp)) fun p2 H2 e2 hp2 => sp_written_v (ds := (srt (figs b l.toNat n)).reverse) (by rw [List.map_reverse]; exact sq_of hp2) ⟨h1, h2⟩)
      (ev_call (ea_cons (ev_var rfl) (ea_cons (ev_var rfl) ea_nil)) (sp_written_v (sq_of hp) ⟨h1, h2⟩)) rv_I0) fun H2 e2 => q H2 (e1.trans e2)
def sp_step (K : PySem.W.Frag) (mg : Str → Option Value) : Sp := sp3 Dom (fun b l n => .int (stepM b l.toNat n))
abbrev s_step : Stmt := topS 17
abbrev N_step : List Str := ["base", "length", "number"]
theorem sc_step : FnScope N_step ["base", "length", "number"] (defScope s_step) := ⟨rfl, rfl, rfl, by decide +kernel, rfl, by decide +kernel, by decide +kernel⟩
theorem ok_step {f : Addr} {fd : FuncData} (F : Fun K "step" "step" s_step f fd) (B : Bf K mg) (c_check_number : Fn P w K mg base 3 "check_number" ["base", "length", "number"] (sp_check_number K mg)) (c_step_of : Fn P w K mg base 2 "step_of" ["base", "length", "number"] (sp_step_of K mg)) : FnOk P w K mg base CX0 4 f fd ["base", "length", "number"] (sp_step K mg) := by
  refine F.ok (k := 3) sc_step (fun vs H Q E h => ?_) (fun cdv A outer s H vs Q E hr h => ?_)
  · obtain ⟨a, b, c, rfl, _⟩ := h
    rfl
  · obtain ⟨b, l, n, rfl, hd, q⟩ := h
    have hd0 := hd.1
    refine ⟨_, (pss_cons (ps_expr (pe_fn c_check_number (hr.mono (by decide)) (by rfl) (pa_cons (pv 0) (pa_cons (pv 1) (pa_cons (pv 2) pa_nil)))))
          (pss_one (ps_ret (pe_fn c_step_of (hr.mono (by decide)) (by rfl) (pa_cons (pv 0) (pa_cons (pv 1) (pa_cons (pv 2) pa_nil))))))), ?_⟩
    refine q_drop (ev_call (ea_cons (ev_var rfl) (ea_cons (ev_var rfl) (ea_cons (ev_var rfl) ea_nil))) (sp3_v (by first | assumption | omega))) fun H1 e1 => ?_
    exact s_ret (ev_call (ea_cons (ev_var rfl) (ea_cons (ev_var rfl) (ea_cons (ev_var rfl) ea_nil))) (sp3_v (by first | assumption | omega))) fun H2 e2 => q H2 (e1.trans e2)
def sp_course_of (K : PySem.W.Frag) (mg : Str → Option Value) : Sp := SpCourse
abbrev s_course_of : Stmt := topS 18
abbrev N_course_of : List Str := ["base", "length", "number", "found", "places"]
theorem sc_course_of : FnScope N_course_of ["base", "length", "number"] (defScope s_course_of) := ⟨rfl, rfl, rfl, by decide +kernel, rfl, by decide +kernel, by decide +kernel⟩
theorem ok_course_of {f : Addr} {fd : FuncData} (F : Fun K "course_of" "course_of" s_course_of f fd) (B : Bf K mg) (c_step_of : Fn P w K mg base 2 "step_of" ["base", "length", "number"] (sp_step_of K mg)) : FnOk P w K mg base CX0 3 f fd ["base", "length", "number"] (sp_course_of K mg) := by
  refine F.ok (k := 2) sc_course_of (fun vs H Q E h => ?_) (fun cdv A outer s H vs Q E hr h => ?_)
  · obtain ⟨b, l, n, rfl, _⟩ := h
    rfl
  · obtain ⟨b, l, n, rfl, hbl, q⟩ := h
    have hbl' := hbl
    obtain ⟨h1, h2, h3, h4⟩ := hbl
    refine ⟨_, (pss_cons (ps_par (i := 3) (j := 4) (by rfl) sc_course_of.nd rfl rfl (by decide) rfl rfl (pa_cons (pe_lst pa_nil) (pa_cons pe_dnewK pa_nil)) (by rfl))
          (pss_cons (ps_while PassesOwn.never (pt_cmp (pc_dnotin (hu_of hr) (pv 2) (pv 4))) (pss_cons (ps_dput (hu_of hr) (pv 4) (pv 2) (pe_callB call_len_seq (by rfl) B.b_len PySem.boot_len (pa_cons (pv 3) pa_nil)) rfl)
          (pss_cons (ps_expr (pe_bm PySem.F.plainAttrs_list PySem.F.slot_list_append PySem.F.type_list_append mt_append (pv 3) (pa_cons (pv 2) pa_nil)))
          (pss_one (ps_set (i := 2) sc_course_of.nd rfl (Or.inl rfl) (pe_fn c_step_of (hr.mono (by decide)) (by rfl) (pa_cons (pv 0) (pa_cons (pv 1) (pa_cons (pv 2) pa_nil)))))))))
          (pss_one (ps_ret (pe_tup (pa_cons (pv 3) (pa_cons (pe_dget (hu_of hr) (pv 4) (pv 2) (fun _ _ => rfl)) pa_nil))))))), ?_⟩
    refine q_parLD fun p d H1 np nd npd e1 hp hd => ?_
    obtain ⟨f, hf⟩ : ∃ f, f = stepM b l.toNat := ⟨_, rfl⟩
    rw [← hf] at q
    have hap : ∀ m, Apart f n m → m ≤ 20737 := fun m h => by
      rw [hf] at h
      exact apart_le hbl' h
    refine q_while (fun m σ' H' => ∃ i : Nat, m = 20738 - i ∧ Apart f n i ∧ σ' = [some (.int b), some (.int l), some (.int (it f i n)), some (.ref p), some (.ref d)] ∧ Ex H H' ∧ H' p = some (.lst ((orb f n i).map V.int)) ∧ H' d = some (.dK (plc f n i)))
      20738 ⟨0, rfl, Apart.zero f n, rfl, e1, hp, hd⟩ ?_
    rintro m σ' H2 ⟨i, rfl, hA, rfl, e2, hp2, hd2⟩
    have hi := hap i hA
    refine ⟨_, et_B (ev_dnotin (ev_var rfl) (ev_var rfl) hd2), fun hb H3 e3 => ?_, fun hb H3 e3 => ?_⟩
    · have hn : valV (plc f n i) (.inl (it f i n)) = none := by
        cases e : valV (plc f n i) (.inl (it f i n)) with
        | none => rfl
        | some v =>
          rw [e] at hb
          cases hb
      have hA2 := hA.succ (plc_out hn)
      have hi2 := hap _ hA2
      refine ⟨fun σ2 H' => Apart f n (i + 1) ∧ σ2 = [some (.int b), some (.int l), some (.int (it f (i + 1) n)), some (.ref p), some (.ref d)] ∧ Ex H H' ∧ H' p = some (.lst ((orb f n (i + 1)).map V.int)) ∧ H' d = some (.dK (plc f n (i + 1))),
        fun σ2 H' ⟨a1, a2, a3, a4, a5⟩ => ⟨20738 - (i + 1), by omega, i + 1, rfl, a1, a2, a3, a4, a5⟩, ?_⟩
      refine q_dput (ev_len (ev_var rfl) (sq_of (e3 p _ hp2))) (ev_var rfl) (ev_var rfl) (e3 d _ hd2) (by rw [plc_len]; omega) fun H4 e4 => ?_
      rw [putK_new _ hn, List.length_map, orb_len, ← plc_succ]
      have hp4 : (upd H4 d (.dK (plc f n (i + 1)))) p = some (.lst ((orb f n i).map V.int)) := by
        rw [upd_ne npd]
        exact e4 p _ (e3 p _ hp2)
      refine q_app hp4 (ev_var rfl) (ev_var rfl) (by rw [List.length_map, orb_len]; omega) fun H5 e5 => ?_
      refine s_asg (ev_call (ea_cons (ev_var rfl) (ea_cons (ev_var rfl) (ea_cons (ev_var rfl) ea_nil))) (sp3_v (by first | assumption | omega))) fun H6 e6 => ⟨hA2, by rw [← hf] <;> rfl, ?_, ?_, ?_⟩
      · exact (ex_set (Ex.mut ((e2.trans e3).trans e4) nd) e5 np).trans e6
      · refine e6 p _ (upd_same.trans ?_)
        rw [orb_succ, List.map_append] <;> rfl
      · refine e6 d _ ?_
        rw [upd_ne npd.symm]
        exact e5 d _ upd_same
    · cases e : valV (plc f n i) (.inl (it f i n)) with
      | none =>
        rw [e] at hb
        cases hb
      | some v =>
        obtain ⟨c, hc, eb, rfl⟩ := plc_in e
        refine s_retU (eu_tup (ea_cons (ev_var rfl) (ea_cons (ev_dget (ev_var rfl) (ev_var rfl) (e3 d _ hd2) e) ea_nil)) (Nat.le_of_ble_eq_true rfl)) fun t H4 nt e4 ht => ?_
        exact q t p H4 i c ⟨hc, eb, hA⟩ hi np ((e2.trans e3).trans e4) (e4 p _ (e3 p _ hp2)) ht
def sp_after (K : PySem.W.Frag) (mg : Str → Option Value) : Sp := sp4 (fun b l n s => Dom b l n ∧ 0 ≤ s) (fun b l n s => .int (it (stepM b l.toNat) s.toNat n))
theorem at_orb {f : Int → Int} {n : Int} {m : Nat} {k : Int} (h0 : 0 ≤ k) (h1 : k < m) : atI ((orb f n m).map V.int) k = some (.int (it f k.toNat n)) := by
  refine at_of (j := k.toNat) (by omega) ?_
  rw [List.getElem?_map, orb_get (by omega)] <;> rfl
abbrev s_after : Stmt := topS 19
abbrev N_after : List Str := ["base", "length", "number", "steps", "found", "begin"]
theorem sc_after : FnScope N_after ["base", "length", "number", "steps"] (defScope s_after) := ⟨rfl, rfl, rfl, by decide +kernel, rfl, by decide +kernel, by decide +kernel⟩
theorem ok_after {f : Addr} {fd : FuncData} (F : Fun K "after" "after" s_after f fd) (B : Bf K mg) (c_check_number : Fn P w K mg base 3 "check_number" ["base", "length", "number"] (sp_check_number K mg)) (c_course_of : Fn P w K mg base 3 "course_of" ["base", "length", "number"] (sp_course_of K mg)) (c_is_whole : Fn P w K mg base 1 "is_whole" ["thing"] (sp_is_whole K mg)) : FnOk P w K mg base CX0 4 f fd ["base", "length", "number", "steps"] (sp_after K mg) := by
  refine F.ok (k := 3) sc_after (fun vs H Q E h => ?_) (fun cdv A outer s H vs Q E hr h => ?_)
  · obtain ⟨a, b, c, d, rfl, _⟩ := h
    rfl
  · obtain ⟨b, l, n, s0, rfl, ⟨hd, hs⟩, q⟩ := h
    have q : RetV (.int (it (stepM b l.toNat) s0.toNat n)) H Q := q
    have hd0 := hd.1
    refine ⟨_, (pss_cons (ps_expr (pe_fn c_check_number (hr.mono (by decide)) (by rfl) (pa_cons (pv 0) (pa_cons (pv 1) (pa_cons (pv 2) pa_nil)))))
          (pss_cons (ps_if (PW.pt (pw_or (pt_not (pt_val (pe_fn c_is_whole (hr.mono (by decide)) (by rfl) (pa_cons (pv 3) pa_nil)))) (pw_or1 (pt_cmpR op_lt (pv 3) pe_int (nomark _))))) (pss_one ps_never) pss_nil)
          (pss_cons (ps_asg (pe_fn c_course_of (hr.mono (by decide)) (by rfl) (pa_cons (pv 0) (pa_cons (pv 1) (pa_cons (pv 2) pa_nil)))) (pg_tup rfl (pgs_cons (pg_name (i := 4) sc_after.nd rfl (Or.inl rfl)) (pgs_cons (pg_name (i := 5) sc_after.nd rfl (Or.inl rfl)) pgs_nil))))
          (pss_cons (ps_if (pt_cmpR op_lt (pv 3) (pe_callB call_len_seq (by rfl) B.b_len PySem.boot_len (pa_cons (pv 4) pa_nil)) (nomark _)) (pss_one (ps_ret (pe_ix ix_list (pv 4) (pv 3) (fun _ _ => rfl)))) pss_nil)
          (pss_one (ps_ret (pe_ix ix_list (pv 4) (pe_op op_add (pv 5) (pe_op op_mod (pe_op op_sub (pv 3) (pv 5)) (pe_op op_sub (pe_callB call_len_seq (by rfl) B.b_len PySem.boot_len (pa_cons (pv 4) pa_nil)) (pv 5)))) (fun _ _ => rfl)))))))), ?_⟩
    refine q_drop (ev_call (ea_cons (ev_var rfl) (ea_cons (ev_var rfl) (ea_cons (ev_var rfl) ea_nil))) (sp3_v (by first | assumption | omega))) fun H1 e1 => ?_
    refine q_when (et_is (b := false) (et_or (et_not (et_B (ev_call (ea_cons (ev_var rfl) ea_nil) spw_int))) (fun _ => (et_test (ev_op (ev_var rfl) ev_c rv_I0)))) (by simp [hs])) (fun z => nomatch z) fun _ H2 e2 => ?_
    refine q_asg2 (sp_course_p hd0 (ea_cons (ev_var rfl) (ea_cons (ev_var rfl) (ea_cons (ev_var rfl) ea_nil)))) fun x y H3 e3 hR => ?_
    obtain ⟨a, m, c, rfl, rfl, _, hC, hm, ha⟩ := hR
    have hlt := hC.lt
    have hlen : ((orb (stepM b l.toNat) n m).map V.int).length = m := by rw [List.length_map, orb_len]
    obtain ⟨p0, p1, p2⟩ := hC.place hs
    refine q_when (et_test (ev_op (ev_var rfl) (ev_len (ev_var rfl) (sq_of ha)) rv_I0)) (fun hb H4 e4 => ?_) (fun hb H4 e4 => ?_)
    · rw [hlen] at hb
      have hb' := of_decide_eq_true hb
      refine s_ret (ev_op (ev_var rfl) (ev_var rfl) (rv_ixL (sq_of (e4 a _ ha)) (at_orb hs hb'))) fun H5 e5 => q H5 ((((e1.trans e2).trans e3).trans e4).trans e5)
    · rw [hlen] at hb
      have hb' := of_decide_eq_false hb
      have ep : place m c s0 = c + (s0 - c) % ((m : Int) - c) := if_neg hb'
      rw [ep] at p0 p1 p2
      refine s_ret (ev_op (ev_var rfl) (ev_op (ev_var rfl) (ev_op (ev_op (ev_var rfl) (ev_var rfl) rv_I0) (ev_op (by have h := ev_len (K := K) (σ := [some (.int b), some (.int l), some (.int n), some (.int s0), some (.ref a), some (.int (c : Int))]) (ta := tVar 4) (ev_var rfl) (sq_of (e4 a _ ha)); rw [hlen] at h; exact h) (ev_var rfl) rv_I0) (rv_I (by first | decide | omega))) rv_I0) (rv_ixL (sq_of (e4 a _ ha)) (at_orb p0 p1))) fun H5 e5 => ?_
      rw [p2]
      exact q H5 ((((e1.trans e2).trans e3).trans e4).trans e5)
def sp__law_cell_at (K : PySem.W.Frag) (mg : Str → Option Value) : Sp := fun vs H Q _ => ∃ (a : Addr) (ns : List Int) (k : Int), vs = [.ref a, .int k] ∧ SqL K H a (ns.map V.int) ∧ 0 ≤ k ∧ RetV (.int (ns.getD k.toNat 0)) H Q
theorem sp_cell_v {K : PySem.W.Frag} {mg : Str → Option Value} {a : Addr} {ns : List Int} {k : Int} {H : Hp} (hs : SqL K H a (ns.map V.int)) (h : 0 ≤ k) : SpV (sp__law_cell_at K mg) [.ref a, .int k] H (.int (ns.getD k.toNat 0)) :=
  fun _ e _ q _ => ⟨a, ns, k, rfl, ex_l e hs, h, q⟩
theorem at_getD {ns : List Int} {k : Int} (h0 : 0 ≤ k) (h1 : k < ((ns.map V.int).length : Int)) : atI (ns.map V.int) k = some (.int (ns.getD k.toNat 0)) := by
  rw [List.length_map] at h1
  refine at_of (j := k.toNat) (by omega) ?_
  rw [List.getElem?_map, List.getD_eq_getElem?_getD, List.getElem?_eq_getElem (by omega)] <;> rfl
abbrev s__law_cell_at : Stmt := topS 40
abbrev N__law_cell_at : List Str := ["_law_script", "_law_k"]
theorem sc__law_cell_at : FnScope N__law_cell_at ["_law_script", "_law_k"] (defScope s__law_cell_at) := ⟨rfl, rfl, rfl, by decide +kernel, rfl, by decide +kernel, by decide +kernel⟩
theorem ok__law_cell_at {f : Addr} {fd : FuncData} (F : Fun K "_law_cell_at" "_law_cell_at" s__law_cell_at f fd) (B : Bf K mg) : FnOk P w K mg base CX0 1 f fd ["_law_script", "_law_k"] (sp__law_cell_at K mg) := by
  refine F.ok (k := 0) sc__law_cell_at (fun vs H Q E h => ?_) (fun cdv A outer s H vs Q E hr h => ?_)
  · obtain ⟨a, ns, k, rfl, _⟩ := h
    rfl
  · obtain ⟨a, ns, k, rfl, hs, h0, q⟩ := h
    refine ⟨_, (pss_cons (ps_if (pt_cmpR op_lt (pv 1) (pe_callB call_len_seq (by rfl) B.b_len PySem.boot_len (pa_cons (pv 0) pa_nil)) (nomark _)) (pss_one (ps_ret (pe_ix ix_list (pv 0) (pv 1) (fun _ _ => rfl)))) pss_nil)
          (pss_one (ps_ret pe_int))), ?_⟩
    refine q_when (et_test (ev_op (ev_var rfl) (ev_len (ev_var rfl) hs) rv_I0)) (fun hb H1 e1 => ?_) (fun hb H1 e1 => ?_)
    · have hb' := of_decide_eq_true hb
      exact s_ret (ev_op (ev_var rfl) (ev_var rfl) (rv_ixL (ex_l e1 hs) (at_getD h0 hb'))) fun H2 e2 => q H2 (e1.trans e2)
    · have hb' := of_decide_eq_false hb
      rw [List.length_map] at hb'
      have e : ns.getD k.toNat 0 = 0 := by
        rw [List.getD_eq_getElem?_getD, List.getElem?_eq_none (by omega)] <;> rfl
      rw [e] at q
      exact s_ret ev_c fun H2 e2 => q H2 (e1.trans e2)
def primes : List Int := [1000003, 1000033, 1000037, 1000039, 1000081, 1000099, 1000117, 1000121, 1000133, 1000151, 1000159, 1000171, 1000183, 1000187, 1000193, 1000199]
def drawM (c k m : Int) : Int := (c * 48271 + k * 69621) % (primes.getD (k % 16).toNat 1) % m
theorem primes_pos : ∀ i, 0 < primes.getD i 1
  | 0 | 1 | 2 | 3 | 4 | 5 | 6 | 7 | 8 | 9 | 10 | 11 | 12 | 13 | 14 | 15 => by decide
  | i + 16 => by
    rw [List.getD_eq_getElem?_getD, List.getElem?_eq_none (by show 16 ≤ i + 16; omega)] <;> decide
theorem primes_at (k : Int) : atI (primes.map V.int) (k % 16) = some (.int (primes.getD (k % 16).toNat 1)) := by
  have h0 := Int.emod_nonneg k (show (16 : Int) ≠ 0 by decide)
  have h1 := Int.emod_lt_of_pos k (show (0 : Int) < 16 by decide)
  refine at_of (j := (k % 16).toNat) (by omega) ?_
  rw [List.getElem?_map, List.getD_eq_getElem?_getD, List.getElem?_eq_getElem (by show (k % 16).toNat < 16; omega)] <;> rfl
theorem draw_nn (c k : Int) {m : Int} (h : 0 < m) : 0 ≤ drawM c k m := Int.emod_nonneg _ (by omega)
def sp__law_draw (K : PySem.W.Frag) (mg : Str → Option Value) : Sp := sp3 (fun _ _ m => 0 < m) (fun c k m => .int (drawM c k m))
abbrev s__law_draw : Stmt := topS 41
abbrev N__law_draw : List Str := ["_law_cell", "_law_k", "_law_many", "_law_primes"]
theorem sc__law_draw : FnScope N__law_draw ["_law_cell", "_law_k", "_law_many"] (defScope s__law_draw) := ⟨rfl, rfl, rfl, by decide +kernel, rfl, by decide +kernel, by decide +kernel⟩
theorem ok__law_draw {f : Addr} {fd : FuncData} (F : Fun K "_law_draw" "_law_draw" s__law_draw f fd) (B : Bf K mg) : FnOk P w K mg base CX0 1 f fd ["_law_cell", "_law_k", "_law_many"] (sp__law_draw K mg) := by
  refine F.ok (k := 0) sc__law_draw (fun vs H Q E h => ?_) (fun cdv A outer s H vs Q E hr h => ?_)
  · obtain ⟨a, b, c, rfl, _⟩ := h
    rfl
  · obtain ⟨c, k, m, rfl, hm, q⟩ := h
    have hm : 0 < m := hm
    have hpp := primes_pos (k % 16).toNat
    refine ⟨_, (pss_cons (ps_set (i := 3) sc__law_draw.nd rfl (Or.inl rfl) (pe_tup (pa_cons pe_int (pa_cons pe_int (pa_cons pe_int (pa_cons pe_int (pa_cons pe_int (pa_cons pe_int (pa_cons pe_int (pa_cons pe_int (pa_cons pe_int (pa_cons pe_int (pa_cons pe_int (pa_cons pe_int (pa_cons pe_int (pa_cons pe_int (pa_cons pe_int (pa_cons pe_int pa_nil))))))))))))))))))
          (pss_one (ps_ret (pe_op op_mod (pe_op op_mod (pe_op op_add (pe_op op_mul (pv 0) pe_int) (pe_op op_mul (pv 1) pe_int)) (pe_ix ix_tup (pv 3) (pe_op op_mod (pv 1) pe_int) (fun _ _ => rfl))) (pv 2))))), ?_⟩
    refine q_asgU (xs := primes.map V.int) (eu_tup (ea_cons ev_c (ea_cons ev_c (ea_cons ev_c (ea_cons ev_c (ea_cons ev_c (ea_cons ev_c (ea_cons ev_c (ea_cons ev_c (ea_cons ev_c (ea_cons ev_c (ea_cons ev_c (ea_cons ev_c (ea_cons ev_c (ea_cons ev_c (ea_cons ev_c (ea_cons ev_c ea_nil)))))))))))))))) (by decide)) fun p H1 np e1 hp => ?_
    exact s_ret (ev_op (ev_op (ev_op (ev_op (ev_var rfl) ev_c (rv_I (by first | exact Or.inr ⟨by omega, by omega⟩ | exact Or.inl ⟨by omega, by omega⟩))) (ev_op (ev_var rfl) ev_c (rv_I (by first | exact Or.inr ⟨by omega, by omega⟩ | exact Or.inl ⟨by omega, by omega⟩))) rv_I0) (ev_op (ev_var rfl) (ev_op (ev_var rfl) ev_c (rv_I (by decide))) (rv_ixT (st_of hp) (primes_at k))) (rv_I (by first | decide | omega))) (ev_var rfl) (rv_I (by first | decide | omega))) fun H2 e2 => q H2 (e1.trans e2)
def valueM (c t : Int) : Int := if (10 : Int) ^ (18 : Int).toNat ≤ c then (c - 10 ^ (18 : Int).toNat) / 2 ^ (3 * t).toNat
  else drawM ((c + 977 * t) * (c + 31 * t + 5)) (t % 9 + 1) 999983 * 1000003 + drawM ((c + 31 * t) * (c + 7) + 977 * t) (t % 7 + 2) 1000003
theorem value_nn (c t : Int) : 0 ≤ valueM c t := by
  unfold valueM
  split
  · rename_i h
    refine Int.ediv_nonneg (by omega) ?_
    exact Int.le_of_lt (Int.pow_pos (by decide))
  · have h1 := draw_nn ((c + 977 * t) * (c + 31 * t + 5)) (t % 9 + 1) (show (0 : Int) < 999983 by decide)
    have h2 := draw_nn ((c + 31 * t) * (c + 7) + 977 * t) (t % 7 + 2) (show (0 : Int) < 1000003 by decide)
    omega
def sp__law_value (K : PySem.W.Frag) (mg : Str → Option Value) : Sp := sp2 (fun c t => Bt c ∧ 0 ≤ t ∧ t ≤ 100) (fun c t => .int (valueM c t))
abbrev s__law_value : Stmt := topS 42
abbrev N__law_value : List Str := ["_law_cell", "_law_turn", "_law_mixed"]
theorem sc__law_value : FnScope N__law_value ["_law_cell", "_law_turn"] (defScope s__law_value) := ⟨rfl, rfl, rfl, by decide +kernel, rfl, by decide +kernel, by decide +kernel⟩
theorem ok__law_value {f : Addr} {fd : FuncData} (F : Fun K "_law_value" "_law_value" s__law_value f fd) (B : Bf K mg) (c__law_draw : Fn P w K mg base 1 "_law_draw" ["_law_cell", "_law_k", "_law_many"] (sp__law_draw K mg)) : FnOk P w K mg base CX0 2 f fd ["_law_cell", "_law_turn"] (sp__law_value K mg) := by
  refine F.ok (k := 1) sc__law_value (fun vs H Q E h => ?_) (fun cdv A outer s H vs Q E hr h => ?_)
  · obtain ⟨a, b, rfl, _⟩ := h
    rfl
  · obtain ⟨c, t, rfl, ⟨hc, h0, h1⟩, q⟩ := h
    have q : RetV (.int (valueM c t)) H Q := q
    refine ⟨_, (pss_cons (ps_if (pt_cmpR op_ge (pv 0) (pe_op op_pow pe_int pe_int) (nomark _)) (pss_one (ps_ret (pe_op op_shr (pe_op op_sub (pv 0) (pe_op op_pow pe_int pe_int)) (pe_op op_mul pe_int (pv 1))))) pss_nil)
          (pss_cons (ps_set (i := 2) sc__law_value.nd rfl (Or.inl rfl) (pe_fn c__law_draw (hr.mono (by decide)) (by rfl) (pa_cons (pe_op op_mulX (pe_op op_add (pv 0) (pe_op op_mul pe_int (pv 1))) (pe_op op_add (pe_op op_add (pv 0) (pe_op op_mul pe_int (pv 1))) pe_int)) (pa_cons (pe_op op_add (pe_op op_mod (pv 1) pe_int) pe_int) (pa_cons pe_int pa_nil)))))
          (pss_one (ps_ret (pe_op op_add (pe_op op_mul (pv 2) pe_int) (pe_fn c__law_draw (hr.mono (by decide)) (by rfl) (pa_cons (pe_op op_add (pe_op op_mulX (pe_op op_add (pv 0) (pe_op op_mul pe_int (pv 1))) (pe_op op_add (pv 0) pe_int)) (pe_op op_mul pe_int (pv 1))) (pa_cons (pe_op op_add (pe_op op_mod (pv 1) pe_int) pe_int) (pa_cons pe_int pa_nil))))))))), ?_⟩
    refine q_when (et_test (ev_op (ev_var rfl) (ev_op ev_c ev_c (rv_I (by exact ⟨by decide, by decide, by decide⟩))) rv_I0)) (fun hb H1 e1 => ?_) (fun hb H1 e1 => ?_)
    · have hb' := of_decide_eq_true hb
      have ev : valueM c t = (c - 10 ^ (18 : Int).toNat) / 2 ^ (3 * t).toNat := if_pos hb'
      rw [ev] at q
      exact s_ret (ev_op (ev_op (ev_var rfl) (ev_op ev_c ev_c (rv_I (by exact ⟨by decide, by decide, by decide⟩))) rv_I0) (ev_op ev_c (ev_var rfl) (rv_I (by first | exact Or.inr ⟨by omega, by omega⟩ | exact Or.inl ⟨by omega, by omega⟩))) (rv_I (by first | decide | omega))) fun H2 e2 => q H2 (e1.trans e2)
    · have hb' := of_decide_eq_false hb
      have ev : valueM c t = drawM ((c + 977 * t) * (c + 31 * t + 5)) (t % 9 + 1) 999983 * 1000003 + drawM ((c + 31 * t) * (c + 7) + 977 * t) (t % 7 + 2) 1000003 := if_neg hb'
      rw [ev] at q
      refine q_asg (ev_call (ea_cons (ev_op (ev_op (ev_var rfl) (ev_op ev_c (ev_var rfl) (rv_I (by first | exact Or.inr ⟨by omega, by omega⟩ | exact Or.inl ⟨by omega, by omega⟩))) rv_I0) (ev_op (ev_op (ev_var rfl) (ev_op ev_c (ev_var rfl) (rv_I (by first | exact Or.inr ⟨by omega, by omega⟩ | exact Or.inl ⟨by omega, by omega⟩))) rv_I0) ev_c rv_I0) (rv_I (mulx_of (hc.add (by omega)) (by rw [Int.add_assoc]; exact hc.add (by omega))))) (ea_cons (ev_op (ev_op (ev_var rfl) ev_c (rv_I (by first | decide | omega))) ev_c rv_I0) (ea_cons ev_c ea_nil))) (sp3_v (by decide))) fun H2 e2 => ?_
      exact s_ret (ev_op (ev_op (ev_var rfl) ev_c (rv_I (by first | exact Or.inr ⟨by omega, by omega⟩ | exact Or.inl ⟨by omega, by omega⟩))) (ev_call (ea_cons (ev_op (ev_op (ev_op (ev_var rfl) (ev_op ev_c (ev_var rfl) (rv_I (by first | exact Or.inr ⟨by omega, by omega⟩ | exact Or.inl ⟨by omega, by omega⟩))) rv_I0) (ev_op (ev_var rfl) ev_c rv_I0) (rv_I (mulx_of (hc.add (by omega)) (hc.add (by omega))))) (ev_op ev_c (ev_var rfl) (rv_I (by first | exact Or.inr ⟨by omega, by omega⟩ | exact Or.inl ⟨by omega, by omega⟩))) rv_I0) (ea_cons (ev_op (ev_op (ev_var rfl) ev_c (rv_I (by first | decide | omega))) ev_c rv_I0) (ea_cons ev_c ea_nil))) (sp3_v (by decide))) rv_I0) fun H3 e3 => q H3 ((e1.trans e2).trans e3)
def sp__law_power (K : PySem.W.Frag) (mg : Str → Option Value) : Sp := sp2 (fun b n => 2 ≤ b ∧ b ≤ 12 ∧ 0 ≤ n ∧ n ≤ 8) (fun b n => .int (pw b n.toNat))
abbrev s__law_power : Stmt := topS 43
abbrev N__law_power : List Str := ["_law_base", "_law_many", "_law_found", "_law_turn"]
theorem sc__law_power : FnScope N__law_power ["_law_base", "_law_many"] (defScope s__law_power) := ⟨rfl, rfl, rfl, by decide +kernel, rfl, by decide +kernel, by decide +kernel⟩
theorem ok__law_power {f : Addr} {fd : FuncData} (F : Fun K "_law_power" "_law_power" s__law_power f fd) (B : Bf K mg) : FnOk P w K mg base CX0 1 f fd ["_law_base", "_law_many"] (sp__law_power K mg) := by
  refine F.ok (k := 0) sc__law_power (fun vs H Q E h => ?_) (fun cdv A outer s H vs Q E hr h => ?_)
  · obtain ⟨a, b, rfl, _⟩ := h
    rfl
  · obtain ⟨b, n, rfl, ⟨h1, h2, h3, h4⟩, q⟩ := h
    refine ⟨_, (pss_cons (ps_set (i := 2) sc__law_power.nd rfl (Or.inl rfl) pe_int)
          (pss_cons (ps_for PassesOwn.never rfl (pi_range1 (by rfl) B.b_range (pa_cons (pv 1) pa_nil)) (pg_name (i := 3) sc__law_power.nd rfl (Or.inl rfl)) (pss_one (ps_set (i := 2) sc__law_power.nd rfl (Or.inl rfl) (pe_op op_mul (pv 2) (pv 0)))))
          (pss_one (ps_ret (pv 2))))), ?_⟩
    refine q_asg ev_c fun H1 e1 => ?_
    refine q_forR1 (ea_cons (ev_var rfl) ea_nil) (by omega) (fun i σ' H' => ∃ y, σ' = [some (.int b), some (.int n), some (.int (pw b i)), y] ∧ Ex H H') (fun H2 e2 => ⟨none, rfl, e1.trans e2⟩) ?_ ?_
    · rintro i σ' H' hi ⟨y, rfl, e⟩
      exact s_asg (ev_op (ev_var rfl) (ev_var rfl) (rv_I (by first | exact Or.inr ⟨by omega, by omega⟩ | exact Or.inl ⟨by omega, by omega⟩))) fun H2 e2 => ⟨_, rfl, e.trans e2⟩
    · rintro σ' H' ⟨y, rfl, e⟩
      exact s_ret (ev_var rfl) fun H2 e2 => q H2 (e.trans e2)
def sp__law_room (K : PySem.W.Frag) (mg : Str → Option Value) : Sp := fun vs H Q _ => ∃ (a : Addr) (ns : List Int) (k : Int), vs = [.ref a, .int k] ∧ SqL K H a (ns.map V.int) ∧ (∀ z ∈ ns, Bt z) ∧ 0 ≤ k ∧
  ∀ (p : Addr) (H2 : Hp) (b l n : Int), Dom b l n → H p = none → Ex H H2 → H2 p = some (.tup [.int b, .int l, .int n]) → Q (.ref p) H2
theorem sp_room_p {K : PySem.W.Frag} {mg : Str → Option Value} {σ : L2.St} {E : XK} {ta : TA} {a : Addr} {ns : List Int} {k : Int} {H : Hp} (hs : SqL K H a (ns.map V.int)) (hb : ∀ z ∈ ns, Bt z) (h : 0 ≤ k) (ha : EvA ta σ H [.ref a, .int k]) :
    EvP (tCall (sp__law_room K mg) [] E ta) σ H fun v H2 => ∃ p x y z, v = .ref p ∧ H2 p = some (.tup [x, y, z]) ∧ ∃ b l n, x = .int b ∧ y = .int l ∧ z = .int n ∧ Dom b l n :=
  fun H1 e Q q => ha H1 e _ fun H2 e2 => ⟨a, ns, k, rfl, ex_l (e.trans e2) hs, hb, h, fun p H3 b l n hd _ e3 hp => q _ H3 (e2.trans e3) ⟨p, _, _, _, rfl, hp, b, l, n, rfl, rfl, rfl, hd⟩⟩
theorem cell_bt {ns : List Int} (hb : ∀ z ∈ ns, Bt z) (k : Nat) : Bt (ns.getD k 0) := by
  rw [List.getD_eq_getElem?_getD]
  cases e : ns[k]? with
  | none => exact Bt.zero
  | some z => exact hb z (List.mem_of_getElem? e)
abbrev s__law_room : Stmt := topS 44
abbrev N__law_room : List Str := ["_law_script", "_law_by", "_law_cell", "_law_base", "_law_length", "_law_number"]
theorem sc__law_room : FnScope N__law_room ["_law_script", "_law_by"] (defScope s__law_room) := ⟨rfl, rfl, rfl, by decide +kernel, rfl, by decide +kernel, by decide +kernel⟩
theorem ok__law_room {f : Addr} {fd : FuncData} (F : Fun K "_law_room" "_law_room" s__law_room f fd) (B : Bf K mg) (c__law_cell_at : Fn P w K mg base 1 "_law_cell_at" ["_law_script", "_law_k"] (sp__law_cell_at K mg)) (c__law_power : Fn P w K mg base 1 "_law_power" ["_law_base", "_law_many"] (sp__law_power K mg)) (c__law_value : Fn P w K mg base 2 "_law_value" ["_law_cell", "_law_turn"] (sp__law_value K mg)) : FnOk P w K mg base CX0 3 f fd ["_law_script", "_law_by"] (sp__law_room K mg) := by
  refine F.ok (k := 2) sc__law_room (fun vs H Q E h => ?_) (fun cdv A outer s H vs Q E hr h => ?_)
  · obtain ⟨a, ns, k, rfl, _⟩ := h
    rfl
  · obtain ⟨a, ns, k, rfl, hs, hbt, h0, q⟩ := h
    have hc := cell_bt hbt k.toNat
    refine ⟨_, (pss_cons (ps_set (i := 2) sc__law_room.nd rfl (Or.inl rfl) (pe_fn c__law_cell_at (hr.mono (by decide)) (by rfl) (pa_cons (pv 0) (pa_cons (pv 1) pa_nil))))
          (pss_cons (ps_par (i := 3) (j := 4) (by rfl) sc__law_room.nd rfl rfl (by decide) rfl rfl (pa_cons (pe_op op_add pe_int (pe_op op_mod (pe_fn c__law_value (hr.mono (by decide)) (by rfl) (pa_cons (pv 2) (pa_cons pe_int pa_nil))) pe_int)) (pa_cons (pe_op op_add pe_int (pe_op op_mod (pe_fn c__law_value (hr.mono (by decide)) (by rfl) (pa_cons (pv 2) (pa_cons pe_int pa_nil))) pe_int)) pa_nil)) (by rfl))
          (pss_cons (ps_set (i := 5) sc__law_room.nd rfl (Or.inl rfl) (pe_op op_mod (pe_op op_add (pe_op op_mul (pe_fn c__law_value (hr.mono (by decide)) (by rfl) (pa_cons (pv 2) (pa_cons pe_int pa_nil))) pe_int) (pe_fn c__law_value (hr.mono (by decide)) (by rfl) (pa_cons (pv 2) (pa_cons pe_int pa_nil)))) (pe_fn c__law_power (hr.mono (by decide)) (by rfl) (pa_cons (pv 3) (pa_cons (pv 4) pa_nil)))))
          (pss_cons (ps_if (pt_cmpR op_eq (pe_op op_mod (pe_fn c__law_value (hr.mono (by decide)) (by rfl) (pa_cons (pv 2) (pa_cons pe_int pa_nil))) pe_int) pe_int (nomark _)) (pss_one (ps_set (i := 5) sc__law_room.nd rfl (Or.inl rfl) (pe_op op_mod (pv 5) (pe_fn c__law_power (hr.mono (by decide)) (by rfl) (pa_cons (pv 3) (pa_cons (pe_op op_add pe_int (pe_op op_mod (pe_fn c__law_value (hr.mono (by decide)) (by rfl) (pa_cons (pv 2) (pa_cons pe_int pa_nil))) (pv 4))) pa_nil)))))) pss_nil)
          (pss_one (ps_ret (pe_tup (pa_cons (pv 3) (pa_cons (pv 4) (pa_cons (pv 5) pa_nil)))))))))), ?_⟩
    refine q_asg (ev_call (ea_cons (ev_var rfl) (ea_cons (ev_var rfl) ea_nil)) (sp_cell_v hs h0)) fun H1 e1 => ?_
    generalize ns.getD k.toNat 0 = c at hc
    refine q_par (ea_cons (ev_op ev_c (ev_op (ev_call (ea_cons (ev_var rfl) (ea_cons ev_c ea_nil)) (sp2_v ⟨hc, by decide, by decide⟩)) ev_c (rv_I (by first | decide | omega))) rv_I0) (ea_cons (ev_op ev_c (ev_op (ev_call (ea_cons (ev_var rfl) (ea_cons ev_c ea_nil)) (sp2_v ⟨hc, by decide, by decide⟩)) ev_c (rv_I (by first | decide | omega))) rv_I0) ea_nil)) fun H2 e2 => ?_
    obtain ⟨b, hb⟩ : ∃ b, b = 2 + valueM c 1 % 11 := ⟨_, rfl⟩
    obtain ⟨l, hl⟩ : ∃ l, l = 1 + valueM c 2 % 8 := ⟨_, rfl⟩
    rw [← hb, ← hl]
    have hb1 : 2 ≤ b ∧ b ≤ 12 := by omega
    have hl1 : 1 ≤ l ∧ l ≤ 8 := by omega
    clear hb hl
    have hp := pw_pos (show 0 < b by omega) l.toNat
    refine q_asg (ev_op (ev_op (ev_op (ev_call (ea_cons (ev_var rfl) (ea_cons ev_c ea_nil)) (sp2_v ⟨hc, by decide, by decide⟩)) ev_c (rv_I (by first | exact Or.inr ⟨by omega, by omega⟩ | exact Or.inl ⟨by omega, by omega⟩))) (ev_call (ea_cons (ev_var rfl) (ea_cons ev_c ea_nil)) (sp2_v ⟨hc, by decide, by decide⟩)) rv_I0) (ev_call (ea_cons (ev_var rfl) (ea_cons (ev_var rfl) ea_nil)) (sp2_v (by first | exact ⟨by omega, by omega, by omega, by omega⟩ | omega))) (rv_I (by first | decide | omega))) fun H3 e3 => ?_
    have hn0 := Int.emod_nonneg (valueM c 3 * 1000000007 + valueM c 4) (show pw b l.toNat ≠ 0 by omega)
    have hn1 := Int.emod_lt_of_pos (valueM c 3 * 1000000007 + valueM c 4) hp
    generalize (valueM c 3 * 1000000007 + valueM c 4) % pw b l.toNat = n at hn0 hn1
    have fin : ∀ (n : Int) (H' : Hp), Ex H H' → 0 ≤ n → n < pw b l.toNat → tRet (tTup (tCons (tVar 3) (tCons (tVar 4) (tCons (tVar 5) tNil)))) { nx := fun _ H' => Q .non H', rt := Q } [some (.ref a), some (.int k), some (.int c), some (.int b), some (.int l), some (.int n)] H' := fun n H' e n0 n1 =>
      s_retU (eu_tup (ea_cons (ev_var rfl) (ea_cons (ev_var rfl) (ea_cons (ev_var rfl) ea_nil))) (Nat.le_of_ble_eq_true rfl)) fun p H2 np e2 hp => q p H2 b l n ⟨⟨hb1.1, hb1.2, hl1.1, hl1.2⟩, n0, n1⟩ (fresh_back e np) (e.trans e2) hp
    refine q_when (et_test (ev_op (ev_op (ev_call (ea_cons (ev_var rfl) (ea_cons ev_c ea_nil)) (sp2_v ⟨hc, by decide, by decide⟩)) ev_c (rv_I (by first | decide | omega))) ev_c (rv_eq rfl))) (fun _ H4 e4 => ?_) (fun _ H4 e4 => ?_)
    · obtain ⟨j, hj⟩ : ∃ j, j = 1 + valueM c 6 % l := ⟨_, rfl⟩
      have hj0 := Int.emod_nonneg (valueM c 6) (show l ≠ 0 by omega)
      have hj1 := Int.emod_lt_of_pos (valueM c 6) (show 0 < l by omega)
      have hp2 := pw_pos (show 0 < b by omega) (1 + valueM c 6 % l).toNat
      refine s_asg (ev_op (ev_var rfl) (ev_call (ea_cons (ev_var rfl) (ea_cons (ev_op ev_c (ev_op (ev_call (ea_cons (ev_var rfl) (ea_cons ev_c ea_nil)) (sp2_v ⟨hc, by decide, by decide⟩)) (ev_var rfl) (rv_I (by first | decide | omega))) rv_I0) ea_nil)) (sp2_v (by first | exact ⟨by omega, by omega, by omega, by omega⟩ | omega))) (rv_I (by first | decide | omega))) fun H5 e5 => ?_
      refine fin _ H5 ((((e1.trans e2).trans e3).trans e4).trans e5) (Int.emod_nonneg _ (by omega)) ?_
      have h1 := Int.emod_lt_of_pos n hp2
      have h2 := pw_up (b := b) (by omega) (show (1 + valueM c 6 % l).toNat ≤ l.toNat by omega)
      omega
    · exact fin n H4 (((e1.trans e2).trans e3).trans e4) hn0 hn1
def sp__law_due (K : PySem.W.Frag) (mg : Str → Option Value) : Sp := fun vs H Q _ => ∃ c : Nat, c < 4 ∧ vs = [.int (c : Int)] ∧ RetL ((dueB c).map V.bl) H Q
theorem spd_l {K : PySem.W.Frag} {mg : Str → Option Value} {H : Hp} {c : Nat} (h : c < 4) : SpL (sp__law_due K mg) [.int (c : Int)] H ((dueB c).map V.bl) := fun _ _ _ q _ => ⟨c, h, rfl, q⟩
theorem due_of {c : Nat} (h : c < 4) : given (4 : Int).toNat (fun _ => true) (fun i => .bl (decide (V.int (c : Int) = V.int (i : Int)))) ++ [.bl true] = (dueB c).map V.bl := by
  match c, h with
  | 0, _ => decide
  | 1, _ => decide
  | 2, _ => decide
  | 3, _ => decide
  | _ + 4, h => omega
abbrev s__law_due : Stmt := topS 46
abbrev N__law_due : List Str := ["_law_at", "_law_one"]
theorem sc__law_due : FnScope N__law_due ["_law_at"] (defScope s__law_due) := ⟨rfl, rfl, rfl, by decide +kernel, rfl, by decide +kernel, by decide +kernel⟩
theorem ok__law_due {f : Addr} {fd : FuncData} (F : Fun K "_law_due" "_law_due" s__law_due f fd) (B : Bf K mg) : FnOk P w K mg base CX0 1 f fd ["_law_at"] (sp__law_due K mg) := by
  refine F.ok (k := 0) sc__law_due (fun vs H Q E h => ?_) (fun cdv A outer s H vs Q E hr h => ?_)
  · obtain ⟨c, _, rfl, _⟩ := h
    rfl
  · obtain ⟨c, hc, rfl, q⟩ := h
    refine ⟨_, (pss_one (ps_ret (pe_op op_cat (pe_lc (own := [("_law_one", 1)]) (g := (gName 1)) (by rfl) sc__law_due.nd (pi_range1 (by rfl) B.b_range (pa_cons pe_int pa_nil)) (blkOk_by (own := [("_law_one", 1)]) (N := N__law_due) (sc := defScope s__law_due) (by decide +kernel)) (fun _ _ _ _ _ => (pg_name (i := 1) sc__law_due.nd rfl (Or.inl rfl))) (fun _ _ _ _ _ => pts_nil) (fun _ _ _ _ _ => (pe_cmpR op_eq (pv 0) (pv 1) (nomark _)))) (pe_lst (pa_cons pe_bl pa_nil))))), ?_⟩
    rw [← due_of hc] at q
    exact s_retL (el_catNN (el_lcR1 (fun _ => true) (fun i => .bl (decide (V.int (c : Int) = V.int (i : Int)))) (ea_cons ev_c ea_nil) (by decide) (fun _ => rfl) (fun i H1 e1 hi H2 e2 Q q => q H2 (Ex.refl H2)) (fun i H1 e1 hi _ => (ev_op (ev_var rfl) (ev_var rfl) (rv_eq rfl)))) (el_lst (ea_cons ev_c ea_nil) (by decide)) (Nat.le_of_ble_eq_true rfl)) q
/-- a strange thing: no number, or one below 0 -/
def Odd (H : Hp) (x : V) : Prop := Kd H x ∨ ∃ i : Int, x = .int i ∧ i < 0
theorem Odd.ex {H H' : Hp} {x : V} (h : Odd H x) (e : Ex H H') : Odd H' x := h.imp (fun k => k.ex e) id
theorem Odd.ext {H H' : Hp} {x : V} (h : Odd H x) (e : LamX.ExtN H H') : Odd H' x := h.imp (fun k => k.ext e) id
def sp__law_strange (K : PySem.W.Frag) (mg : Str → Option Value) : Sp := fun vs H Q _ => ∃ far : Int, vs = [.int far] ∧ 0 ≤ far ∧ ∀ p H2 xs, Ex H H2 → H2 p = some (.lst xs) → xs.length = 9 ∧ (∀ x ∈ xs, Odd H2 x) → Q (.ref p) H2
theorem er_strange {K : PySem.W.Frag} {mg : Str → Option Value} {σ : L2.St} {H : Hp} {E : XK} {ta : TA} {far : Int} (h : 0 ≤ far) (ha : EvA ta σ H [.int far]) : EvR (tCall (sp__law_strange K mg) [] E ta) σ H fun xs H2 => xs.length = 9 ∧ ∀ x ∈ xs, Odd H2 x :=
  fun H1 e Q q => ha H1 e _ fun H2 e2 => ⟨far, rfl, h, fun p H3 xs e3 hp r => q p H3 xs (e2.trans e3) hp r⟩
abbrev s__law_strange : Stmt := topS 47
abbrev N__law_strange : List Str := ["_law_far"]
theorem sc__law_strange : FnScope N__law_strange ["_law_far"] (defScope s__law_strange) := ⟨rfl, rfl, rfl, by decide +kernel, rfl, by decide +kernel, by decide +kernel⟩
theorem ok__law_strange {f : Addr} {fd : FuncData} (F : Fun K "_law_strange" "_law_strange" s__law_strange f fd) (B : Bf K mg) : FnOk P w K mg base CX0 1 f fd ["_law_far"] (sp__law_strange K mg) := by
  refine F.ok (k := 0) sc__law_strange (fun vs H Q E h => ?_) (fun cdv A outer s H vs Q E hr h => ?_)
  · obtain ⟨c, rfl, _⟩ := h
    rfl
  · obtain ⟨far, rfl, h0, q⟩ := h
    refine ⟨_, (pss_one (ps_ret (pe_lst (pa_cons pe_non (pa_cons pe_str (pa_cons pe_bl (pa_cons pe_bl (pa_cons (pe_lst (pa_cons pe_int pa_nil)) (pa_cons (pe_tup (pa_cons pe_int pa_nil)) (pa_cons pe_dnewK (pa_cons (pe_un un_neg pe_int) (pa_cons (pe_op op_sub (pe_un un_neg pe_int) (pv 0)) pa_nil)))))))))))), ?_⟩
    refine ⟨Nat.le_of_ble_eq_true rfl, fun pl npl => ?_⟩
    refine ⟨Nat.le_of_ble_eq_true rfl, fun pt npt => ?_⟩
    intro pd npd
    refine ⟨_, rfl, _, rfl, _, rfl, _, _, rfl, rfl, Nat.le_of_ble_eq_true rfl, fun p np => ?_⟩
    have e1 := Ex.new (o := .lst [.int 4]) npl
    have e2 := Ex.new (o := .tup [.int 4]) npt
    have e3 := Ex.new (o := .dK []) npd
    refine q p _ _ (((e1.trans e2).trans e3).trans (Ex.new np)) upd_same ⟨rfl, fun x hx => ?_⟩
    have e4 := Ex.new (o := .lst [V.non, .str "4", .bl true, .bl false, .ref pl, .ref pt, .ref pd, .int (-1), .int (-1 - far)]) np
    simp only [List.mem_cons, List.not_mem_nil, or_false] at hx
    rcases hx with rfl | rfl | rfl | rfl | rfl | rfl | rfl | rfl | rfl
    · exact .inl .non
    · exact .inl (.str _)
    · exact .inl (.bl _)
    · exact .inl (.bl _)
    · exact .inl (.lst (e4 _ _ (e3 _ _ (e2 _ _ upd_same))))
    · exact .inl (.tup (e4 _ _ (e3 _ _ upd_same)))
    · exact .inl (.dK (e4 _ _ upd_same))
    · exact .inr ⟨_, rfl, by decide⟩
    · exact .inr ⟨_, rfl, by omega⟩
theorem okx_check_both {f : Addr} {fd : FuncData} (F : Fun K "check_both" "check_both" s_check_both f fd) (B : Bf K mg) (T : Xf K mg) (c_is_whole : Fn P w K mg base 1 "is_whole" ["thing"] (sp_is_whole K mg)) : FnOk P w K mg base (L2.CX P w) 2 f fd ["base", "length"] (spx2 mg) := by
  refine F.okX (k := 1) sc_check_both (fun vs H Q E h => ?_) (fun cdv A outer s H vs Q E hr h => ?_)
  · obtain ⟨_, _, _, rfl, _⟩ := h
    rfl
  · obtain ⟨b, l, c, rfl, hb, q⟩ := h
    refine ⟨_, pss_cons (ps_if (PW.pt (pw_or (pt_not (pt_val (pe_fn c_is_whole (hr.mono (by decide)) (by rfl) (pa_cons (pv 0) pa_nil)))) (pw_or1 (pt_not (pt_chain op_le op_le pe_int (pv 0) (pe_conI B.g_GREATEST (by rfl))))))) (pss_one (ps_raise rfl (takes_of rfl rfl rfl rfl) (pmk_own PySem.F.excBase_ValueError T.x0.x T.x0.g T.x0.k (raises_own T.x0.b T.x0.t) (by rfl)))) pss_nil) (pss_one (ps_if (PW.pt (pw_or (pt_not (pt_val (pe_fn c_is_whole (hr.mono (by decide)) (by rfl) (pa_cons (pv 1) pa_nil)))) (pw_or1 (pt_not (pt_chain op_le op_le pe_int (pv 1) (pe_conI B.g_LONGEST (by rfl))))))) (pss_one (ps_raise rfl (takes_of rfl rfl rfl rfl) (pmk_own PySem.F.excBase_ValueError T.x1.x T.x1.g T.x1.k (raises_own T.x1.b T.x1.t) (by rfl)))) pss_nil)), ?_⟩
    rcases hb with ⟨rfl, hb⟩ | ⟨rfl, ⟨i, rfl, h1, h2⟩, hl⟩
    · rcases hb with hk | ⟨i, rfl, hi⟩
      · exact q_when (et_or (b := false) (et_not (et_B (ev_call (ea_cons (ev_var rfl) ea_nil) (spw_kd hk)))) (fun z => by cases z)) (fun _ H1 e1 => q H1 e1) (fun z => by cases z)
      · exact q_when (et_is (b := true) (et_or (et_not (et_B (ev_call (ea_cons (ev_var rfl) ea_nil) spw_int))) (fun _ => (et_not (et_test (ev_chain ev_c (ev_var rfl) rv_I0 ev_c rv_I0))))) (by simp only [Bool.not_true, Bool.false_or, Bool.not_eq_true', Bool.and_eq_false_iff, decide_eq_false_iff_not]; omega)) (fun _ H1 e1 => q H1 e1) (fun z => by cases z)
    · refine q_when (et_is (b := false) (et_or (et_not (et_B (ev_call (ea_cons (ev_var rfl) ea_nil) spw_int))) (fun _ => (et_not (et_test (ev_chain ev_c (ev_var rfl) rv_I0 ev_c rv_I0))))) (by simp [h1, h2])) (fun z => by cases z) fun _ H1 e1 => ?_
      rcases hl with hk | ⟨j, rfl, hj⟩
      · exact s_when (et_or (b := false) (et_not (et_B (ev_call (ea_cons (ev_var rfl) ea_nil) (spw_kd (hk.ex e1))))) (fun z => by cases z)) (fun _ H2 e2 => q H2 (e1.trans e2)) (fun z => by cases z)
      · exact s_when (et_is (b := true) (et_or (et_not (et_B (ev_call (ea_cons (ev_var rfl) ea_nil) spw_int))) (fun _ => (et_not (et_test (ev_chain ev_c (ev_var rfl) rv_I0 ev_c rv_I0))))) (by simp only [Bool.not_true, Bool.false_or, Bool.not_eq_true', Bool.and_eq_false_iff, decide_eq_false_iff_not]; omega)) (fun _ H2 e2 => q H2 (e1.trans e2)) (fun z => by cases z)
theorem okx_check_number {f : Addr} {fd : FuncData} (F : Fun K "check_number" "check_number" s_check_number f fd) (B : Bf K mg) (T : Xf K mg) (c_is_whole : Fn P w K mg base 1 "is_whole" ["thing"] (sp_is_whole K mg)) (c_power_of : Fn P w K mg base 1 "power_of" ["base", "many"] (sp_power_of K mg)) (c_check_both : Fn P w K mg base 2 "check_both" ["base", "length"] (sp_check_both K mg)) (x_check_both : FnX P w K mg base 2 "check_both" ["base", "length"] (spx2 mg)) : FnOk P w K mg base (L2.CX P w) 3 f fd ["base", "length", "number"] (spx3 mg) := by
  refine F.okX (k := 2) sc_check_number (fun vs H Q E h => ?_) (fun cdv A outer s H vs Q E hr h => ?_)
  · obtain ⟨_, _, _, _, rfl, _⟩ := h
    rfl
  · obtain ⟨b, l, n, c, rfl, hb, q⟩ := h
    rcases hb with hb | ⟨rfl, i, j, rfl, rfl, hij, hk⟩
    · refine ⟨_, pss_cons (ps_expr (pe_fnX x_check_both hr (by rfl) (takes_of rfl rfl rfl rfl) (pa_cons (pv 0) (pa_cons (pv 1) pa_nil)))) pss_never, ?_⟩
      exact ⟨_, rfl, _, rfl, b, l, c, rfl, hb, q⟩
    · refine ⟨_, pss_cons (ps_expr (pe_fn c_check_both (hr.mono (by decide)) (by rfl) (pa_cons (pv 0) (pa_cons (pv 1) pa_nil)))) (pss_one (ps_if (PW.pt (pw_or (pt_not (pt_val (pe_fn c_is_whole (hr.mono (by decide)) (by rfl) (pa_cons (pv 2) pa_nil)))) (pw_or1 (pt_not (pt_chain op_le op_lt pe_int (pv 2) (pe_fn c_power_of (hr.mono (by decide)) (by rfl) (pa_cons (pv 0) (pa_cons (pv 1) pa_nil)))))))) (pss_one (ps_raise rfl (takes_of rfl rfl rfl rfl) (pmk_own PySem.F.excBase_ValueError T.x2.x T.x2.g T.x2.k (raises_own T.x2.b T.x2.t) (by rfl)))) pss_nil)), ?_⟩
      obtain ⟨g1, g2, g3, g4⟩ := hij
      refine q_drop (ev_call (ea_cons (ev_var rfl) (ea_cons (ev_var rfl) ea_nil)) (sp2_v (by first | assumption | omega))) fun H1 e1 => ?_
      rcases hk with hk | ⟨k, rfl, hk⟩
      · exact s_when (et_or (b := false) (et_not (et_B (ev_call (ea_cons (ev_var rfl) ea_nil) (spw_kd (hk.ex e1))))) (fun z => by cases z)) (fun _ H2 e2 => q H2 (e1.trans e2)) (fun z => by cases z)
      · exact s_when (et_is (b := true) (et_or (et_not (et_B (ev_call (ea_cons (ev_var rfl) ea_nil) spw_int))) (fun _ => (et_not (et_test (ev_chain ev_c (ev_var rfl) rv_I0 (ev_call (ea_cons (ev_var rfl) (ea_cons (ev_var rfl) ea_nil)) (sp2_v (by first | exact ⟨by omega, by omega, by omega, by omega⟩ | omega))) rv_I0))))) (by simp only [Bool.not_true, Bool.false_or, Bool.not_eq_true', Bool.and_eq_false_iff, decide_eq_false_iff_not]; omega)) (fun _ H2 e2 => q H2 (e1.trans e2)) (fun z => by cases z)
theorem okx_after {f : Addr} {fd : FuncData} (F : Fun K "after" "after" s_after f fd) (B : Bf K mg) (T : Xf K mg) (c_is_whole : Fn P w K mg base 1 "is_whole" ["thing"] (sp_is_whole K mg)) (c_check_number : Fn P w K mg base 3 "check_number" ["base", "length", "number"] (sp_check_number K mg)) (x_check_number : FnX P w K mg base 3 "check_number" ["base", "length", "number"] (spx3 mg)) : FnOk P w K mg base (L2.CX P w) (3 + 1) f fd ["base", "length", "number", "steps"] (spx4 mg) := by
  refine F.okX (k := 3) sc_after (fun vs H Q E h => ?_) (fun cdv A outer s H vs Q E hr h => ?_)
  · obtain ⟨_, _, _, _, _, rfl, _⟩ := h
    rfl
  · obtain ⟨b, l, n, s0, c, rfl, hb, q⟩ := h
    rcases hb with hb | ⟨rfl, i, j, k, rfl, rfl, rfl, hd, hk⟩
    · refine ⟨_, pss_cons (ps_expr (pe_fnX x_check_number hr (by rfl) (takes_of rfl rfl rfl rfl) (pa_cons (pv 0) (pa_cons (pv 1) (pa_cons (pv 2) pa_nil))))) pss_never, ?_⟩
      exact ⟨_, rfl, _, rfl, _, rfl, b, l, n, c, rfl, hb, q⟩
    · refine ⟨_, pss_cons (ps_expr (pe_fn c_check_number (hr.mono (by decide)) (by rfl) (pa_cons (pv 0) (pa_cons (pv 1) (pa_cons (pv 2) pa_nil))))) (pss_cons (ps_if (PW.pt (pw_or (pt_not (pt_val (pe_fn c_is_whole (hr.mono (by decide)) (by rfl) (pa_cons (pv 3) pa_nil)))) (pw_or1 (pt_cmpR op_lt (pv 3) pe_int (nomark _))))) (pss_one (ps_raise rfl (takes_of rfl rfl rfl rfl) (pmk_own PySem.F.excBase_ValueError T.x3.x T.x3.g T.x3.k (raises_own T.x3.b T.x3.t) (by rfl)))) pss_nil) pss_never), ?_⟩
      refine q_drop (ev_call (ea_cons (ev_var rfl) (ea_cons (ev_var rfl) (ea_cons (ev_var rfl) ea_nil))) (sp3_v (by first | assumption | omega))) fun H1 e1 => ?_
      rcases hk with hk | ⟨m, rfl, hk⟩
      · exact q_when (et_or (b := false) (et_not (et_B (ev_call (ea_cons (ev_var rfl) ea_nil) (spw_kd (hk.ex e1))))) (fun z => by cases z)) (fun _ H2 e2 => q H2 (e1.trans e2)) (fun z => by cases z)
      · exact q_when (et_is (b := true) (et_or (et_not (et_B (ev_call (ea_cons (ev_var rfl) ea_nil) spw_int))) (fun _ => (et_test (ev_op (ev_var rfl) ev_c rv_I0)))) (by simp only [Bool.not_true, Bool.false_or, decide_eq_true_eq]; omega)) (fun _ H2 e2 => q H2 (e1.trans e2)) (fun z => by cases z)
theorem okx_step {f : Addr} {fd : FuncData} (F : Fun K "step" "step" s_step f fd) (x_check_number : FnX P w K mg base 3 "check_number" ["base", "length", "number"] (spx3 mg)) : FnOk P w K mg base (L2.CX P w) (3 + 1) f fd ["base", "length", "number"] (spx3 mg) := by
  refine F.okX (k := 3) sc_step (fun vs H Q E h => ?_) (fun cdv A outer s H vs Q E hr h => ?_)
  · obtain ⟨_, _, _, _, rfl, _⟩ := h
    rfl
  · obtain ⟨b, l, n, c, rfl, hb, q⟩ := h
    refine ⟨_, pss_cons (ps_expr (pe_fnX x_check_number hr (by rfl) (takes_of rfl rfl rfl rfl) (pa_cons (pv 0) (pa_cons (pv 1) (pa_cons (pv 2) pa_nil))))) pss_never, ?_⟩
    exact ⟨_, rfl, _, rfl, _, rfl, b, l, n, c, rfl, hb, q⟩
abbrev s_round_of : Stmt := topS 35
abbrev N_round_of : List Str := ["base", "length", "number", "found", "begin"]
theorem sc_round_of : FnScope N_round_of ["base", "length", "number"] (defScope s_round_of) := ⟨rfl, rfl, rfl, by decide +kernel, rfl, by decide +kernel, by decide +kernel⟩
theorem okx_round_of {f : Addr} {fd : FuncData} (F : Fun K "round_of" "round_of" s_round_of f fd) (x_check_number : FnX P w K mg base 3 "check_number" ["base", "length", "number"] (spx3 mg)) : FnOk P w K mg base (L2.CX P w) (3 + 1) f fd ["base", "length", "number"] (spx3 mg) := by
  refine F.okX (k := 3) sc_round_of (fun vs H Q E h => ?_) (fun cdv A outer s H vs Q E hr h => ?_)
  · obtain ⟨_, _, _, _, rfl, _⟩ := h
    rfl
  · obtain ⟨b, l, n, c, rfl, hb, q⟩ := h
    refine ⟨_, pss_cons (ps_expr (pe_fnX x_check_number hr (by rfl) (takes_of rfl rfl rfl rfl) (pa_cons (pv 0) (pa_cons (pv 1) (pa_cons (pv 2) pa_nil))))) pss_never, ?_⟩
    exact ⟨_, rfl, _, rfl, _, rfl, b, l, n, c, rfl, hb, q⟩
abbrev s_came : Stmt := topS 28
abbrev N_came : List Str := ["base", "length", "number", "found"]
theorem sc_came : FnScope N_came ["base", "length", "number"] (defScope s_came) := ⟨rfl, rfl, rfl, by decide +kernel, rfl, by decide +kernel, by decide +kernel⟩
theorem okx_came {f : Addr} {fd : FuncData} (F : Fun K "came" "came" s_came f fd) (x_check_number : FnX P w K mg base 3 "check_number" ["base", "length", "number"] (spx3 mg)) : FnOk P w K mg base (L2.CX P w) (3 + 1) f fd ["base", "length", "number"] (spx3 mg) := by
  refine F.okX (k := 3) sc_came (fun vs H Q E h => ?_) (fun cdv A outer s H vs Q E hr h => ?_)
  · obtain ⟨_, _, _, _, rfl, _⟩ := h
    rfl
  · obtain ⟨b, l, n, c, rfl, hb, q⟩ := h
    refine ⟨_, pss_cons (ps_expr (pe_fnX x_check_number hr (by rfl) (takes_of rfl rfl rfl rfl) (pa_cons (pv 0) (pa_cons (pv 1) (pa_cons (pv 2) pa_nil))))) pss_never, ?_⟩
    exact ⟨_, rfl, _, rfl, _, rfl, b, l, n, c, rfl, hb, q⟩
abbrev s_came_many : Stmt := topS 32
abbrev N_came_many : List Str := ["base", "length", "number", "found"]
theorem sc_came_many : FnScope N_came_many ["base", "length", "number"] (defScope s_came_many) := ⟨rfl, rfl, rfl, by decide +kernel, rfl, by decide +kernel, by decide +kernel⟩
theorem okx_came_many {f : Addr} {fd : FuncData} (F : Fun K "came_many" "came_many" s_came_many f fd) (x_check_number : FnX P w K mg base 3 "check_number" ["base", "length", "number"] (spx3 mg)) : FnOk P w K mg base (L2.CX P w) (3 + 1) f fd ["base", "length", "number"] (spx3 mg) := by
  refine F.okX (k := 3) sc_came_many (fun vs H Q E h => ?_) (fun cdv A outer s H vs Q E hr h => ?_)
  · obtain ⟨_, _, _, _, rfl, _⟩ := h
    rfl
  · obtain ⟨b, l, n, c, rfl, hb, q⟩ := h
    refine ⟨_, pss_cons (ps_expr (pe_fnX x_check_number hr (by rfl) (takes_of rfl rfl rfl rfl) (pa_cons (pv 0) (pa_cons (pv 1) (pa_cons (pv 2) pa_nil))))) pss_never, ?_⟩
    exact ⟨_, rfl, _, rfl, _, rfl, b, l, n, c, rfl, hb, q⟩
abbrev s_rounds : Stmt := topS 37
abbrev N_rounds : List Str := ["base", "length", "known", "leasts", "some", "least"]
theorem sc_rounds : FnScope N_rounds ["base", "length"] (defScope s_rounds) := ⟨rfl, rfl, rfl, by decide +kernel, rfl, by decide +kernel, by decide +kernel⟩
theorem okx_rounds {f : Addr} {fd : FuncData} (F : Fun K "rounds" "rounds" s_rounds f fd) (x_check_both : FnX P w K mg base 2 "check_both" ["base", "length"] (spx2 mg)) : FnOk P w K mg base (L2.CX P w) (2 + 1) f fd ["base", "length"] (spx2 mg) := by
  refine F.okX (k := 2) sc_rounds (fun vs H Q E h => ?_) (fun cdv A outer s H vs Q E hr h => ?_)
  · obtain ⟨_, _, _, rfl, _⟩ := h
    rfl
  · obtain ⟨b, l, c, rfl, hb, q⟩ := h
    refine ⟨_, pss_cons (ps_expr (pe_fnX x_check_both hr (by rfl) (takes_of rfl rfl rfl rfl) (pa_cons (pv 0) (pa_cons (pv 1) pa_nil)))) pss_never, ?_⟩
    exact ⟨_, rfl, _, rfl, b, l, c, rfl, hb, q⟩
abbrev s_falls : Stmt := topS 38
abbrev N_falls : List Str := ["base", "length", "known", "counts", "some", "least"]
theorem sc_falls : FnScope N_falls ["base", "length"] (defScope s_falls) := ⟨rfl, rfl, rfl, by decide +kernel, rfl, by decide +kernel, by decide +kernel⟩
theorem okx_falls {f : Addr} {fd : FuncData} (F : Fun K "falls" "falls" s_falls f fd) (x_check_both : FnX P w K mg base 2 "check_both" ["base", "length"] (spx2 mg)) : FnOk P w K mg base (L2.CX P w) (2 + 1) f fd ["base", "length"] (spx2 mg) := by
  refine F.okX (k := 2) sc_falls (fun vs H Q E h => ?_) (fun cdv A outer s H vs Q E hr h => ?_)
  · obtain ⟨_, _, _, rfl, _⟩ := h
    rfl
  · obtain ⟨b, l, c, rfl, hb, q⟩ := h
    refine ⟨_, pss_cons (ps_expr (pe_fnX x_check_both hr (by rfl) (takes_of rfl rfl rfl rfl) (pa_cons (pv 0) (pa_cons (pv 1) pa_nil)))) pss_never, ?_⟩
    exact ⟨_, rfl, _, rfl, b, l, c, rfl, hb, q⟩
abbrev s__law_kinds : Stmt := topS 45
abbrev N__law_kinds : List Str := ["_law_ask", "_law_found", "error"]
theorem sc__law_kinds : FnScope N__law_kinds ["_law_ask"] (defScope s__law_kinds) := ⟨rfl, rfl, rfl, by decide +kernel, rfl, by decide +kernel, by decide +kernel⟩
def kIs (K : PySem.W.Frag) (Dd a : Addr) (v : V) : TE := tCB (rIsE K Dd a) (tCons (tVar 2) (tCons (tC v) tNil))
def kSt (K : PySem.W.Frag) (mg : Str → Option Value) (Dd a : Addr) : TS :=
  tSeq (tAsg (tLst (tCons (kIs K Dd a (.ref (xA mg 0))) (tCons (kIs K Dd a (.ref (xA mg 1))) (tCons (kIs K Dd a (.ref (xA mg 2))) tNil)))) (gName 1))
    (tAsg (tOp rCat (tVar 1) (tLst (tCons (kIs K Dd a (.ref (xA mg 3))) (tCons (kIs K Dd a (.ty "ValueError")) tNil)))) (gName 1))
def kSuite (K : PySem.W.Frag) (mg : Str → Option Value) : Addr → Value → Option Addr → TS := fun a cls d D σ H => ∃ Dd, cls = .ref Dd ∧ d = none ∧ ExcC K Dd ∧ kSt K mg Dd a D σ H
def kTry (f c' : Addr) (q : Str) (tl : XK → Hp → VK → Prop) : WX → TS := fun W D σ H => ∃ Ech : XK, (∀ cls d σ' H', Ech cls d H' → σ'.length = 3 → W cls d σ' H') ∧ σ[0]? = some (some (.ref f)) ∧ H c' = some (LamX.CodeO c' q) ∧ tl Ech H fun _ H' => D.nx σ H'
theorem ev_kIs {σ : L2.St} {H : Hp} {Dd a : Addr} {v : V} {cv : Value} {b : Bool} (hs : σ[2]? = some (some (.ref a))) (hv : ∀ u, RelV v u → u = cv) (hk : PySem.W.kitOne K (.ref Dd) cv = some b) : Ev (kIs K Dd a v) σ H (.bl b) :=
  ev_cb (ea_cons (ev_var hs) (ea_cons ev_c ea_nil)) fun H1 _ _ q => ⟨v, cv, b, rfl, hv, hk, q H1 (Ex.refl H1)⟩
theorem kinds_gives {X : Cx} (T : Xf X.K X.mg) (bI : X.mg "isinstance" = none) (bV : X.mg "ValueError" = none) {g : Addr} {cdg : Value} {q : Str} :
    LamX.GivesTo X N__law_kinds "_law_kinds" (defScope s__law_kinds) g cdg (defBody s__law_kinds) "_law_ask" q (TKinds X.mg) := by
  intro f c' s H Q tl act hc h
  obtain ⟨c, hc4, h1, h2⟩ := h
  refine ⟨_, pss_cons (ps_set (i := 1) sc__law_kinds.nd rfl (Or.inl rfl) (pe_lst pa_nil)) (pss_cons (ps_try_as (X := (cxOf C8.CX0 X.prog X.w X.K X.mg X.base N__law_kinds "_law_kinds" (defScope s__law_kinds) g cdg X.A X.stack s H C8.E0).nox) (c := .ref (refA X.mg "SortError")) (i := 2) (tb := kTry f c' q tl) (ts := kSuite X.K X.mg)
    rfl rfl sc__law_kinds.nd rfl rfl ⟨by rfl, by decide, .inl T.gS⟩ takes0 (fun W pn xe tk _ => ?b) (fun a oe cls d pn hz hf => ?s)) (pss_one (ps_ret (pv 1)))), ?_⟩
  case b =>
    refine ⟨fun pins s' σ H' D I h' => ?_⟩
    obtain ⟨Ech, hW, g1, g2, g3⟩ := h'
    exact (pss_one (ps_expr (act _ pn xe Ech _ _ (takes_len tk) (fun cls d σ' H' he hl => hW cls d σ' H' he hl)))).run pins s' σ H' D I ⟨g1, g2, g3⟩
  case s =>
    refine ⟨fun pins s' σ H' D I h' => ?_⟩
    obtain ⟨Dd, rfl, rfl, hC, h'⟩ := h'
    refine (show PSs ((cxOf C8.CX0 X.prog X.w X.K X.mg X.base N__law_kinds "_law_kinds" (defScope s__law_kinds) g cdg X.A X.stack s H C8.E0).nox.suite a ((a, oe) :: pn)) _ (kSt X.K X.mg Dd a) from ?_).run pins s' σ H' D I h'
    exact pss_cons (ps_set (i := 1) sc__law_kinds.nd rfl (Or.inl rfl) (pe_lst (pa_cons (pe_callB (call_isE hC hz hf) (by rfl) bI (by decide +kernel) (pa_cons (pv 2) (pa_cons (pe_glob (v := .ref (xA X.mg 0)) (by rfl) T.x0.g rfl) pa_nil)))
      (pa_cons (pe_callB (call_isE hC hz hf) (by rfl) bI (by decide +kernel) (pa_cons (pv 2) (pa_cons (pe_glob (v := .ref (xA X.mg 1)) (by rfl) T.x1.g rfl) pa_nil))) (pa_cons (pe_callB (call_isE hC hz hf) (by rfl) bI (by decide +kernel) (pa_cons (pv 2) (pa_cons (pe_glob (v := .ref (xA X.mg 2)) (by rfl) T.x2.g rfl) pa_nil))) pa_nil)))))
      (pss_one (ps_set (i := 1) sc__law_kinds.nd rfl (Or.inl rfl) (pe_op op_cat (pv 1) (pe_lst (pa_cons (pe_callB (call_isE hC hz hf) (by rfl) bI (by decide +kernel) (pa_cons (pv 2) (pa_cons (pe_glob (v := .ref (xA X.mg 3)) (by rfl) T.x3.g rfl) pa_nil)))
      (pa_cons (pe_callB (call_isE hC hz hf) (by rfl) bI (by decide +kernel) (pa_cons (pv 2) (pa_cons (pe_bltn (v := .ty "ValueError") (by rfl) bV (by decide +kernel) rfl) pa_nil))) pa_nil))))))
  refine q_asgL (el_lst ea_nil (by decide)) fun p H1 np e1 hp => ?_
  refine ⟨fun cls d H' => cls = .ref (xA X.mg c) ∧ d = none ∧ Ex H1 H', fun cls d σ' H2 hE hl => ?_, rfl, e1 _ _ hc, h1 H1 e1 _⟩
  obtain ⟨rfl, rfl, e2⟩ := hE
  obtain ⟨x0, x1, x2, rfl⟩ : ∃ x0 x1 x2, σ' = [x0, x1, x2] := by
    match σ', hl with
    | [a, b, c], _ => exact ⟨a, b, c, rfl⟩
  have C := T.at_ hc4
  refine ⟨true, C.e, fun _ a na => ⟨_, rfl, rfl, C.C, ?_⟩, fun z => nomatch z⟩
  refine q_asgL (el_lst (ea_cons (ev_kIs rfl (fun _ r => r) C.i0) (ea_cons (ev_kIs rfl (fun _ r => r) C.i1) (ea_cons (ev_kIs rfl (fun _ r => r) C.i2) ea_nil))) (Nat.le_of_ble_eq_true rfl)) fun p2 H3 np2 e3 hp2 => ?_
  refine s_asgL (el_catN (ev_var rfl) hp2 (el_lst (ea_cons (ev_kIs rfl (fun _ r => r) C.i3) (ea_cons (ev_kIs rfl (fun _ r => r) C.iV) ea_nil)) (Nat.le_of_ble_eq_true rfl)) (Nat.le_of_ble_eq_true rfl)) fun p3 H4 np3 e4 hp3 => ?_
  exact ⟨_, rfl, h2 p3 H4 (fresh_back ((e1.trans e2).trans e3) np3) (((e1.trans e2).trans e3).trans e4) hp3⟩
/-- the tables of the two defs that hold lambdas -/
def Tb (P1 P2 : Addr) : List (Addr × Str) := [(P1, ("_law_doors_right" : Str) ++ ".<locals>." ++ "<lambda>"), (P2, ("law" : Str) ++ ".<locals>." ++ "<lambda>")]
theorem tb_1 {P1 P2 : Addr} : (P1, ("_law_doors_right" : Str) ++ ".<locals>." ++ "<lambda>") ∈ Tb P1 P2 := List.mem_cons_self
theorem tb_2 {P1 P2 : Addr} : (P2, ("law" : Str) ++ ".<locals>." ++ "<lambda>") ∈ Tb P1 P2 := List.mem_cons_of_mem _ List.mem_cons_self
theorem tb_u1 {P1 P2 : Addr} (h : P1 ≠ P2) : ∀ p ∈ Tb P1 P2, p.1 = P1 → p.2 = ("_law_doors_right" : Str) ++ ".<locals>." ++ "<lambda>" := fun p hp e => by
  rcases List.mem_cons.mp hp with rfl | hp
  · rfl
  · rcases List.mem_cons.mp hp with rfl | hp
    · exact absurd e.symm h
    · cases hp
theorem tb_u2 {P1 P2 : Addr} (h : P1 ≠ P2) : ∀ p ∈ Tb P1 P2, p.1 = P2 → p.2 = ("law" : Str) ++ ".<locals>." ++ "<lambda>" := fun p hp e => by
  rcases List.mem_cons.mp hp with rfl | hp
  · exact absurd e h
  · rcases List.mem_cons.mp hp with rfl | hp
    · rfl
    · cases hp
/-- _law_kinds as it stands -/
structure Kin (K : PySem.W.Frag) (mg : Str → Option Value) : Prop where
  ex : ∃ (g : Addr) (fd : FuncData), Fun K "_law_kinds" "_law_kinds" s__law_kinds g fd ∧ mg "_law_kinds" = some (.ref g) ∧ Binds K fd ["_law_ask"] []
/-- _law_kinds(lambda: ..) -/
theorem pe_kinds {X : Cx} {TT : List (Addr × Str)} {k : Nat} {c P : Addr} {params : Arguments} {body : Expr} {scope : Scope} {t : XK → TE} {p lpos pos : Pos} (h : Kin X.K X.mg) (T : Xf X.K X.mg) (bI : X.mg "isinstance" = none) (bV : X.mg "ValueError" = none) (hg : Gl X "_law_kinds")
    (TB : LamX.TabB X.base X.mg c P) (hcode : X.env.code = .ref c) (hmT : (P, X.env.qual ++ "<lambda>") ∈ TT) (hu : ∀ p ∈ TT, p.1 = P → p.2 = X.env.qual ++ "<lambda>") (hr : Room (k + 2) X.A) (L : LamX.LamS X.env.scope scope) (hdef : defaultsOf params X.env = ([], []))
    (hbind : ∀ (q : Str) (cl : List (Str × Addr)) (pm cv ctv : Value), bindArgs (PySem.W.kla_fn "<lambda>" q params body scope cl pm cv ctv) ⟨[], []⟩ = pure [])
    (hbody : ∀ (A : Around) (outer : List Env) (s : Shared) (H : Hp) (E : XK) (f c' : Addr), Room k (A.deeper (LamX.lamEnv X scope s.heap.objs.size f c')) → PE (LamX.lamCx X A outer s H E scope f c') body (t E)) :
    PE X (.Call (.Name "_law_kinds" p) [.Lambda params body scope lpos] [] pos) (LamX.tLam TT (TKinds X.mg) t) := by
  obtain ⟨g, fd, F, m, b⟩ := h.ex
  have kp := F.kp
  obtain ⟨oc, od, kV, doc, pm, an, cdv, ct, osl, rfl, lk, hcd⟩ := F.ex
  exact LamX.pe_lamcall hg m kp lk hcd b sc__law_kinds rfl (Or.inl rfl) (kinds_gives T bI bV) TB hcode hmT hu hr L hdef hbind hbody
abbrev s__law_doors_right : Stmt := topS 48
abbrev N__law_doors_right : List Str := ["_law_base", "_law_length", "_law_due_here", "_law_ask"]
theorem sc__law_doors_right : FnScope N__law_doors_right ["_law_base", "_law_length", "_law_due_here"] (defScope s__law_doors_right) := ⟨rfl, rfl, rfl, by decide +kernel, rfl, by decide +kernel, by decide +kernel⟩
def sp__law_doors_right (TT : List (Addr × Str)) (mg : Str → Option Value) : Sp := fun vs H Q _ => ∃ b l p c, vs = [b, l, .ref p] ∧ Bad2 H b l c ∧ H p = some (.lst ((dueB c).map V.bl)) ∧ LamX.Tabs TT H ∧ ∀ H', Gx TT H H' → Q (.bl true) H'
theorem Bad2.lt {H : Hp} {b l : V} {c : Nat} (h : Bad2 H b l c) : c < 4 := by
  rcases h with ⟨h, _⟩ | ⟨h, _⟩ <;> omega
theorem ok__law_doors_right {f : Addr} {fd : FuncData} {c1 P1 P2 : Addr} (F : FunC K "_law_doors_right" "_law_doors_right" s__law_doors_right f fd c1) (B : Bf K mg) (T : Xf K mg) (kin : Kin K mg) (TB : LamX.TabB base mg c1 P1) (hne : P1 ≠ P2)
    (x_step : FnX P w K mg base 4 "step" ["base", "length", "number"] (spx3 mg)) (x_round_of : FnX P w K mg base 4 "round_of" ["base", "length", "number"] (spx3 mg)) (x_came : FnX P w K mg base 4 "came" ["base", "length", "number"] (spx3 mg)) (x_came_many : FnX P w K mg base 4 "came_many" ["base", "length", "number"] (spx3 mg))
    (x_rounds : FnX P w K mg base 3 "rounds" ["base", "length"] (spx2 mg)) (x_falls : FnX P w K mg base 3 "falls" ["base", "length"] (spx2 mg)) (x_after : FnX P w K mg base 4 "after" ["base", "length", "number", "steps"] (spx4 mg)) :
    FnOk P w K mg base CX0 7 f fd ["_law_base", "_law_length", "_law_due_here"] (sp__law_doors_right (Tb P1 P2) mg) := by
  obtain ⟨m1, d1⟩ := x_step.door (k := 4) (by decide)
  obtain ⟨m2, d2⟩ := x_round_of.door (k := 4) (by decide)
  obtain ⟨m3, d3⟩ := x_came.door (k := 4) (by decide)
  obtain ⟨m4, d4⟩ := x_came_many.door (k := 4) (by decide)
  obtain ⟨m5, d5⟩ := x_rounds.door (k := 4) (by decide)
  obtain ⟨m6, d6⟩ := x_falls.door (k := 4) (by decide)
  refine F.ok (k := 6) sc__law_doors_right (fun vs H Q E h => ?_) (fun A outer s H vs Q E hr h => ?_)
  · obtain ⟨_, _, _, _, rfl, _⟩ := h
    rfl
  · obtain ⟨b, l, p, c, rfl, hb, hp, hT, q⟩ := h
    have hc := hb.lt
    refine ⟨_, pss_cons (ps_for PassesOwn.never rfl (pi_tup (pe_tup (pa_cons (pe_glob (v := .ref (refA mg "step")) (by rfl) m1 rfl) (pa_cons (pe_glob (v := .ref (refA mg "round_of")) (by rfl) m2 rfl) (pa_cons (pe_glob (v := .ref (refA mg "came")) (by rfl) m3 rfl) (pa_cons (pe_glob (v := .ref (refA mg "came_many")) (by rfl) m4 rfl) pa_nil)))))) (pg_name (i := 3) sc__law_doors_right.nd rfl (Or.inr rfl))
        (pss_one (ps_if (pt_cmpR (op_neD hr.units) (pe_kinds (TT := Tb P1 P2) (k := 4) (t := tDoor P w K mg base 4 3 (spx3 mg) (tCons (tVar 0) (tCons (tVar 1) (tCons (tC .non) tNil)))) kin T B.b_isinstance B.b_ValueError (by rfl) TB rfl tb_1 (tb_u1 hne) hr (LamX.lamS_by (sc := defScope s__law_doors_right) (by decide +kernel)) rfl (fun _ _ _ _ _ => rfl)
          (fun A outer s H E f c' hr' => pe_door (sp := spx3 mg) (i := 3) hr' (takes_of rfl rfl rfl rfl) (pa_cons (pv 0) (pa_cons (pv 1) (pa_cons pe_non pa_nil))) rfl (Or.inr (Or.inr rfl)))) (pv 2) (nomark _)) (pss_one (ps_ret pe_bl)) pss_nil)))
      (pss_cons (ps_for PassesOwn.never rfl (pi_tup (pe_tup (pa_cons (pe_glob (v := .ref (refA mg "rounds")) (by rfl) m5 rfl) (pa_cons (pe_glob (v := .ref (refA mg "falls")) (by rfl) m6 rfl) pa_nil)))) (pg_name (i := 3) sc__law_doors_right.nd rfl (Or.inr rfl))
        (pss_one (ps_if (pt_cmpR (op_neD hr.units) (pe_kinds (TT := Tb P1 P2) (k := 4) (t := tDoor P w K mg base 4 3 (spx2 mg) (tCons (tVar 0) (tCons (tVar 1) tNil))) kin T B.b_isinstance B.b_ValueError (by rfl) TB rfl tb_1 (tb_u1 hne) hr (LamX.lamS_by (sc := defScope s__law_doors_right) (by decide +kernel)) rfl (fun _ _ _ _ _ => rfl)
          (fun A outer s H E f c' hr' => pe_door (sp := spx2 mg) (i := 3) hr' (takes_of rfl rfl rfl rfl) (pa_cons (pv 0) (pa_cons (pv 1) pa_nil)) rfl (Or.inr (Or.inr rfl)))) (pv 2) (nomark _)) (pss_one (ps_ret pe_bl)) pss_nil)))
      (pss_one (ps_ret (pe_cmpR (op_eqD hr.units) (pe_kinds (TT := Tb P1 P2) (k := 4) (t := fun E => tCall (spx4 mg) [] E (tCons (tVar 0) (tCons (tVar 1) (tCons (tC .non) (tCons (tC .non) tNil))))) kin T B.b_isinstance B.b_ValueError (by rfl) TB rfl tb_1 (tb_u1 hne) hr (LamX.lamS_by (sc := defScope s__law_doors_right) (by decide +kernel)) rfl (fun _ _ _ _ _ => rfl)
          (fun A outer s H E f c' hr' => pe_fnX x_after hr' (by rfl) (takes_of rfl rfl rfl rfl) (pa_cons (pv 0) (pa_cons (pv 1) (pa_cons pe_non (pa_cons pe_non pa_nil)))))) (pv 2) (nomark _))))), ?_⟩
    refine q_forTN (eu_tup (ea_cons ev_c (ea_cons ev_c (ea_cons ev_c (ea_cons ev_c ea_nil)))) (Nat.le_of_ble_eq_true rfl)) hT (fun σ' => ∃ z, σ' = [some b, some l, some (.ref p), z]) ⟨none, rfl⟩ ?_ ?_
    · rintro H1 e1 x σ' H2 hx g ⟨z, rfl⟩
      obtain ⟨f, rfl, hD⟩ : ∃ f, x = .ref f ∧ Door P w K mg base 4 (spx3 mg) f := by
        simp only [List.mem_cons, List.not_mem_nil, or_false] at hx
        rcases hx with rfl | rfl | rfl | rfl
        · exact ⟨_, rfl, d1⟩
        · exact ⟨_, rfl, d2⟩
        · exact ⟨_, rfl, d3⟩
        · exact ⟨_, rfl, d4⟩
      have g0 := g.pre e1
      refine s_lamNe g.2 hc (fun H3 g3 H4 e4 Q' => ⟨f, rfl, hD, _, rfl, _, rfl, b, l, .non, c, rfl, .inl (hb.ext ((g0.trans g3).ext e4).1), fun H5 e5 => ⟨rfl, rfl, e5⟩⟩) (ed_var rfl (g0.l hp)) fun H3 g3 => ⟨g.trans g3, _, rfl⟩
    · rintro σ' H1 g1 ⟨z, rfl⟩
      refine q_forTN (eu_tup (ea_cons ev_c (ea_cons ev_c ea_nil)) (Nat.le_of_ble_eq_true rfl)) g1.2 (fun σ' => ∃ z, σ' = [some b, some l, some (.ref p), z]) ⟨_, rfl⟩ ?_ ?_
      · rintro H2 e2 x σ' H3 hx g ⟨z, rfl⟩
        obtain ⟨f, rfl, hD⟩ : ∃ f, x = .ref f ∧ Door P w K mg base 4 (spx2 mg) f := by
          simp only [List.mem_cons, List.not_mem_nil, or_false] at hx
          rcases hx with rfl | rfl
          · exact ⟨_, rfl, d5⟩
          · exact ⟨_, rfl, d6⟩
        have g0 := g1.trans (g.pre e2)
        refine s_lamNe g.2 hc (fun H4 g4 H5 e5 Q' => ⟨f, rfl, hD, _, rfl, _, rfl, b, l, c, rfl, hb.ext ((g0.trans g4).ext e5).1, fun H6 e6 => ⟨rfl, rfl, e6⟩⟩) (ed_var rfl (g0.l hp)) fun H4 g4 => ⟨g.trans g4, _, rfl⟩
      · rintro σ' H2 g2 ⟨z, rfl⟩
        have g0 := g1.trans g2
        refine lam_eq g2.2 hc (fun H4 g4 H5 e5 Q' => ⟨_, rfl, _, rfl, b, l, .non, .non, c, rfl, .inl (.inl (hb.ext ((g0.trans g4).ext e5).1)), fun H6 e6 => ⟨rfl, rfl, e6⟩⟩) (ed_var rfl (g0.l hp)) fun H4 g4 => q H4 (g0.trans g4)
abbrev s_law : Stmt := topS 49
abbrev N_law : List Str := ["_law_script", "_law_by", "_law_far", "_law_whole", "_law_ask", "_law_bad", "_law_base", "_law_length", "_law_number"]
theorem sc_law : FnScope N_law ["_law_script"] (defScope s_law) := ⟨rfl, rfl, rfl, by decide +kernel, rfl, by decide +kernel, by decide +kernel⟩
def SpLaw9 (TT : List (Addr × Str)) (K : PySem.W.Frag) : Sp := fun vs H Q _ => ∃ (a : Addr) (ns : List Int), vs = [.ref a] ∧ SqL K H a (ns.map V.int) ∧ ns.length ≤ 63 ∧ (∀ z ∈ ns, Bt z) ∧ LamX.Tabs TT H ∧ ∀ H', Q (.bl true) H'
section
variable {TT : List (Addr × Str)} {σ : L2.St} {H H' : Hp} {E E' : XK} {tx ty : TE} {x y : V} {D : Ends} {tu : TS}
theorem s_doors {c : Nat} (hT : LamX.Tabs TT H) (hc : c < 4) (hx : Ev tx σ H x) (hy : Ev ty σ H y) (hb : Bad2 H x y c) (k : ∀ H', Gx TT H H' → D.nx σ H') :
    tIfS (tNot (tB (tCall (sp__law_doors_right TT mg) [] E (tCons tx (tCons ty (tCons (tCall (sp__law_due K mg) [] E' (tCons (tC (.int (c : Int))) tNil)) tNil)))))) tu tNext D σ H :=
  hx H (Ex.refl H) _ fun H1 e1 => hy H1 e1 _ fun H2 e2 => ⟨c, hc, rfl, fun pd H3 npd e3 hd => ⟨x, y, pd, c, rfl, hb.ext (LamX.ExtN.of ((e1.trans e2).trans e3)), hd, hT.ext ((e1.trans e2).trans e3), fun H4 g4 => ⟨true, rfl, iteF (k H4 (g4.pre ((e1.trans e2).trans e3)))⟩⟩⟩
theorem ed_due {c : Nat} (hc : c < 4) : EvD TT (tCall (sp__law_due K mg) [] E (tCons (tC (.int (c : Int))) tNil)) σ H ((dueB c).map V.bl) := fun H1 g Q k => ⟨c, hc, rfl, fun p H2 np e hp => k p H2 e hp⟩
end
theorem f_12 : stepM 12 (8 : Int).toNat (pw 12 (8 : Int).toNat - 1) = 0 := by
  rw [show (12 : Int) = ((12 : Nat) : Int) from rfl, ← cstep_eq (by decide)]
  decide +kernel
theorem f_2 : stepM 2 (1 : Int).toNat 1 = 0 := by
  rw [show (2 : Int) = ((2 : Nat) : Int) from rfl, ← cstep_eq (by decide)]
  decide +kernel
theorem d_12 : Dom 12 8 (pw 12 (8 : Int).toNat - 1) := ⟨⟨by decide, by decide, by decide, by decide⟩, by decide, by decide⟩
theorem d_2 : Dom 2 1 1 := ⟨⟨by decide, by decide, by decide, by decide⟩, by decide, by decide⟩
theorem d_22 : Dom 2 2 3 := ⟨⟨by decide, by decide, by decide, by decide⟩, by decide, by decide⟩
theorem ok_law {f : Addr} {fd : FuncData} {c2 P1 P2 : Addr} (F : FunC K "law" "law" s_law f fd c2) (B : Bf K mg) (T : Xf K mg) (kin : Kin K mg) (TB : LamX.TabB base mg c2 P2) (hne : P1 ≠ P2)
    (c__law_room : Fn P w K mg base 3 "_law_room" ["_law_script", "_law_by"] (sp__law_room K mg)) (c__law_value : Fn P w K mg base 2 "_law_value" ["_law_cell", "_law_turn"] (sp__law_value K mg)) (c__law_cell_at : Fn P w K mg base 1 "_law_cell_at" ["_law_script", "_law_k"] (sp__law_cell_at K mg)) (c__law_strange : Fn P w K mg base 1 "_law_strange" ["_law_far"] (sp__law_strange K mg)) (c__law_due : Fn P w K mg base 1 "_law_due" ["_law_at"] (sp__law_due K mg)) (c__law_power : Fn P w K mg base 1 "_law_power" ["_law_base", "_law_many"] (sp__law_power K mg)) (c_step : Fn P w K mg base 4 "step" ["base", "length", "number"] (sp_step K mg)) (c_after : Fn P w K mg base 4 "after" ["base", "length", "number", "steps"] (sp_after K mg)) (c__law_doors_right : Fn P w K mg base 7 "_law_doors_right" ["_law_base", "_law_length", "_law_due_here"] (sp__law_doors_right (Tb P1 P2) mg))
    (x_step : FnX P w K mg base 4 "step" ["base", "length", "number"] (spx3 mg)) (x_round_of : FnX P w K mg base 4 "round_of" ["base", "length", "number"] (spx3 mg)) (x_came : FnX P w K mg base 4 "came" ["base", "length", "number"] (spx3 mg)) (x_came_many : FnX P w K mg base 4 "came_many" ["base", "length", "number"] (spx3 mg))
    (x_after : FnX P w K mg base 4 "after" ["base", "length", "number", "steps"] (spx4 mg)) :
    FnOk P w K mg base CX0 8 f fd ["_law_script"] (SpLaw9 (Tb P1 P2) K) := by
  obtain ⟨m1, d1⟩ := x_step.door (k := 4) (by decide)
  obtain ⟨m2, d2⟩ := x_round_of.door (k := 4) (by decide)
  obtain ⟨m3, d3⟩ := x_came.door (k := 4) (by decide)
  obtain ⟨m4, d4⟩ := x_came_many.door (k := 4) (by decide)
  refine F.ok (k := 7) sc_law (fun vs H Q E h => ?_) (fun A outer s H vs Q E hr h => ?_)
  · obtain ⟨_, _, rfl, _⟩ := h
    rfl
  · obtain ⟨a, ns, rfl, hs, hlen, hbt, hT, q⟩ := h
    have hr6 : Room 6 (A.deeper (envOfC "law" (defScope s_law) s.heap.objs.size f (.ref c2))) := hr.mono (by decide)
    refine ⟨_, pss_cons (ps_set (i := 0) sc_law.nd rfl (Or.inl rfl) (pe_slice sl_list (pv 0) po_none (po_some pe_int)))
      (pss_cons (ps_for PassesOwn.never rfl (pi_tup (pe_tup (pa_cons pe_int (pa_cons pe_int pa_nil)))) (pg_name (i := 1) sc_law.nd rfl (Or.inl rfl))
        (pss_cons (ps_asg (pe_fn c__law_room (hr.mono (by decide)) (by rfl) (pa_cons (pv 0) (pa_cons (pv 1) pa_nil))) (pg_tup rfl (pgs_cons (pg_name (i := 6) sc_law.nd rfl (Or.inr rfl)) (pgs_cons (pg_name (i := 7) sc_law.nd rfl (Or.inr rfl)) (pgs_cons (pg_name (i := 8) sc_law.nd rfl (Or.inr rfl)) pgs_nil)))))
        (pss_cons (ps_set (i := 2) sc_law.nd rfl (Or.inl rfl) (pe_op op_add pe_int (pe_op op_mod (pe_fn c__law_value (hr.mono (by decide)) (by rfl) (pa_cons (pe_fn c__law_cell_at (hr.mono (by decide)) (by rfl) (pa_cons (pv 0) (pa_cons (pv 1) pa_nil))) (pa_cons pe_int pa_nil))) (pe_op op_pow pe_int pe_int))))
        (pss_cons (ps_for PassesOwn.never rfl (pi_list (pe_op op_cat (pe_fn c__law_strange (hr.mono (by decide)) (by rfl) (pa_cons (pv 2) pa_nil)) (pe_lst (pa_cons pe_int (pa_cons pe_int (pa_cons pe_int (pa_cons (pe_op op_add pe_int (pv 2)) pa_nil))))))) (pg_name (i := 5) sc_law.nd rfl (Or.inr rfl)) (pss_one (ps_if (pt_not (pt_val (pe_fn c__law_doors_right (hr.mono (by decide)) (by rfl) (pa_cons (pv 5) (pa_cons pe_non (pa_cons (pe_fn c__law_due (hr.mono (by decide)) (by rfl) (pa_cons pe_int pa_nil)) pa_nil)))))) (pss_one (ps_ret pe_bl)) pss_nil)))
        (pss_cons (ps_for PassesOwn.never rfl (pi_list (pe_op op_cat (pe_fn c__law_strange (hr.mono (by decide)) (by rfl) (pa_cons (pv 2) pa_nil)) (pe_lst (pa_cons pe_int (pa_cons pe_int (pa_cons (pe_op op_add pe_int (pv 2)) pa_nil)))))) (pg_name (i := 5) sc_law.nd rfl (Or.inr rfl)) (pss_one (ps_if (pt_not (pt_val (pe_fn c__law_doors_right (hr.mono (by decide)) (by rfl) (pa_cons (pv 6) (pa_cons (pv 5) (pa_cons (pe_fn c__law_due (hr.mono (by decide)) (by rfl) (pa_cons pe_int pa_nil)) pa_nil)))))) (pss_one (ps_ret pe_bl)) pss_nil)))
        (pss_cons (ps_set (i := 3) sc_law.nd rfl (Or.inl rfl) (pe_fn c__law_power (hr.mono (by decide)) (by rfl) (pa_cons (pv 6) (pa_cons (pv 7) pa_nil))))
        (pss_cons (ps_for PassesOwn.never rfl (pi_list (pe_op op_cat (pe_fn c__law_strange (hr.mono (by decide)) (by rfl) (pa_cons (pv 2) pa_nil)) (pe_lst (pa_cons (pv 3) (pa_cons (pe_op op_add (pv 3) (pv 2)) pa_nil))))) (pg_name (i := 5) sc_law.nd rfl (Or.inr rfl))
          (pss_cons (ps_for PassesOwn.never rfl (pi_tup (pe_tup (pa_cons (pe_glob (v := .ref (refA mg "step")) (by rfl) m1 rfl) (pa_cons (pe_glob (v := .ref (refA mg "round_of")) (by rfl) m2 rfl) (pa_cons (pe_glob (v := .ref (refA mg "came")) (by rfl) m3 rfl) (pa_cons (pe_glob (v := .ref (refA mg "came_many")) (by rfl) m4 rfl) pa_nil)))))) (pg_name (i := 4) sc_law.nd rfl (Or.inr rfl))
            (pss_one (ps_if (pt_cmpR (op_neD hr.units) (pe_kinds (TT := Tb P1 P2) (k := 4) (t := tDoor P w K mg base 4 4 (spx3 mg) (tCons (tVar 6) (tCons (tVar 7) (tCons (tVar 5) tNil)))) kin T B.b_isinstance B.b_ValueError (by rfl) TB rfl tb_2 (tb_u2 hne) hr6 (LamX.lamS_by (sc := defScope s_law) (by decide +kernel)) rfl (fun _ _ _ _ _ => rfl)
              (fun A outer s H E f c' hr' => pe_door (sp := spx3 mg) (i := 4) hr' (takes_of rfl rfl rfl rfl) (pa_cons (pv 6) (pa_cons (pv 7) (pa_cons (pv 5) pa_nil))) rfl (Or.inr (Or.inr rfl)))) (pe_fn c__law_due (hr.mono (by decide)) (by rfl) (pa_cons pe_int pa_nil)) (nomark _)) (pss_one (ps_ret pe_bl)) pss_nil)))
          (pss_one (ps_if (pt_cmpR (op_neD hr.units) (pe_kinds (TT := Tb P1 P2) (k := 4) (t := fun E => tCall (spx4 mg) [] E (tCons (tVar 6) (tCons (tVar 7) (tCons (tVar 5) (tCons (tC .non) tNil))))) kin T B.b_isinstance B.b_ValueError (by rfl) TB rfl tb_2 (tb_u2 hne) hr6 (LamX.lamS_by (sc := defScope s_law) (by decide +kernel)) rfl (fun _ _ _ _ _ => rfl)
              (fun A outer s H E f c' hr' => pe_fnX x_after hr' (by rfl) (takes_of rfl rfl rfl rfl) (pa_cons (pv 6) (pa_cons (pv 7) (pa_cons (pv 5) (pa_cons pe_non pa_nil)))))) (pe_fn c__law_due (hr.mono (by decide)) (by rfl) (pa_cons pe_int pa_nil)) (nomark _)) (pss_one (ps_ret pe_bl)) pss_nil))))
        (pss_one (ps_for PassesOwn.never rfl (pi_list (pe_fn c__law_strange (hr.mono (by decide)) (by rfl) (pa_cons (pv 2) pa_nil))) (pg_name (i := 5) sc_law.nd rfl (Or.inr rfl))
          (pss_one (ps_if (pt_cmpR (op_neD hr.units) (pe_kinds (TT := Tb P1 P2) (k := 4) (t := fun E => tCall (spx4 mg) [] E (tCons (tVar 6) (tCons (tVar 7) (tCons (tVar 8) (tCons (tVar 5) tNil))))) kin T B.b_isinstance B.b_ValueError (by rfl) TB rfl tb_2 (tb_u2 hne) hr6 (LamX.lamS_by (sc := defScope s_law) (by decide +kernel)) rfl (fun _ _ _ _ _ => rfl)
              (fun A outer s H E f c' hr' => pe_fnX x_after hr' (by rfl) (takes_of rfl rfl rfl rfl) (pa_cons (pv 6) (pa_cons (pv 7) (pa_cons (pv 8) (pa_cons (pv 5) pa_nil)))))) (pe_fn c__law_due (hr.mono (by decide)) (by rfl) (pa_cons pe_int pa_nil)) (nomark _)) (pss_one (ps_ret pe_bl)) pss_nil)))))))))))
      (pss_one (ps_ret (pe_and (pe_cmpR op_eq (pe_fn c_step (hr.mono (by decide)) (by rfl) (pa_cons pe_int (pa_cons pe_int (pa_cons (pe_op op_sub (pe_fn c__law_power (hr.mono (by decide)) (by rfl) (pa_cons pe_int (pa_cons pe_int pa_nil))) pe_int) pa_nil)))) pe_int (nomark _)) (pe_and (pe_cmpR op_eq (pe_fn c_step (hr.mono (by decide)) (by rfl) (pa_cons pe_int (pa_cons pe_int (pa_cons pe_int pa_nil)))) pe_int (nomark _)) (pe_one (pe_cmpR op_eq (pe_fn c_after (hr.mono (by decide)) (by rfl) (pa_cons pe_int (pa_cons pe_int (pa_cons pe_int (pa_cons pe_int pa_nil))))) pe_int (nomark _)))))))), ?_⟩
    refine q_asgL (el_sl (ev_var rfl) eo_none (eo_some ev_c) hs) fun p H1 np e1 hp => ?_
    rw [cut_script (by rw [List.length_map]; exact hlen)] at hp
    refine q_forTN (T := Tb P1 P2) (eu_tup (ea_cons ev_c (ea_cons ev_c ea_nil)) (Nat.le_of_ble_eq_true rfl)) (hT.ext e1) (fun σ' => ∃ y1 y2 y3 y4 y5 y6 y7 y8, σ' = [some (.ref p), y1, y2, y3, y4, y5, y6, y7, y8]) ⟨_, _, _, _, _, _, _, _, rfl⟩ ?_ ?_
    · rintro H2 e2 x σ' H3 hx g3 ⟨y1, y2, y3, y4, y5, y6, y7, y8, rfl⟩
      obtain ⟨k, rfl, hk⟩ : ∃ k : Int, x = .int k ∧ 0 ≤ k := by
        simp only [List.mem_cons, List.not_mem_nil, or_false] at hx
        rcases hx with rfl | rfl
        · exact ⟨_, rfl, by decide⟩
        · exact ⟨_, rfl, by decide⟩
      have hp3 := (g3.pre e2).l hp
      refine q_asg3 (sp_room_p (sq_of hp3) hbt hk (ea_cons (ev_var rfl) (ea_cons (ev_var rfl) ea_nil))) fun x y z H4 e4 hR => ?_
      obtain ⟨b, l, n, rfl, rfl, rfl, hd⟩ := hR
      have hd1 := hd.1
      obtain ⟨b1, b2, l1, l2⟩ := hd1
      have hcb := cell_bt hbt k.toNat
      refine q_asg (ev_op ev_c (ev_op (ev_call (ea_cons (ev_call (ea_cons (ev_var rfl) (ea_cons (ev_var rfl) ea_nil)) (sp_cell_v (sq_of (e4 p _ hp3)) hk)) (ea_cons ev_c ea_nil)) (sp2_v ⟨hcb, by decide, by decide⟩)) (ev_op ev_c ev_c (rv_I (by exact ⟨by decide, by decide, by decide⟩))) (rv_I (by first | decide | omega))) rv_I0) fun H5 e5 => ?_
      have hf0 := Int.emod_nonneg (valueM (ns.getD k.toNat 0) 7) (show ((10 : Int) ^ (20 : Int).toNat) ≠ 0 by decide)
      generalize valueM (ns.getD k.toNat 0) 7 % (10 : Int) ^ (20 : Int).toNat = fr at hf0
      obtain ⟨far, hfar⟩ : ∃ far, far = 1 + fr := ⟨_, rfl⟩
      rw [← hfar]
      have hf1 : 1 ≤ far := by omega
      have g5 := (g3.ext e4).ext e5
      refine q_forLN (R := fun xs H => ∀ x ∈ xs, BadB H x) (er_cat (er_strange (by omega) (ea_cons (ev_var rfl) ea_nil)) (el_lst (ea_cons ev_c (ea_cons ev_c (ea_cons ev_c (ea_cons (ev_op ev_c (ev_var rfl) rv_I0) ea_nil)))) (Nat.le_of_ble_eq_true rfl)) (fun xs Ha Hb _ r e => ⟨by rw [r.1]; exact Nat.le_of_ble_eq_true rfl, fun x hx => ?_⟩)) g5.2
        (fun σ' => ∃ z4 z5, σ' = [some (.ref p), some (.int k), some (.int far), y3, z4, z5, some (.int b), some (.int l), some (.int n)]) ⟨_, _, rfl⟩ ?_ ?_
      · rcases List.mem_append.mp hx with hx | hx
        · rcases r.2 x hx with h | ⟨i, rfl, hi⟩
          · exact .inl (h.ex e)
          · exact .inr ⟨i, rfl, by omega⟩
        · simp only [List.mem_cons, List.not_mem_nil, or_false] at hx
          rcases hx with rfl | rfl | rfl | rfl
          · exact .inr ⟨_, rfl, by decide⟩
          · exact .inr ⟨_, rfl, by decide⟩
          · exact .inr ⟨_, rfl, by decide⟩
          · exact .inr ⟨_, rfl, by omega⟩
      · rintro H6 xs e6 r x σ' H7 hx g7 ⟨z4, z5, rfl⟩
        exact s_doors (c := 0) g7.2 (by decide) (ev_var rfl) ev_c (Bad2.ext (.inl ⟨rfl, r x hx⟩) g7.1) fun H8 g8 => ⟨g7.trans g8, _, _, rfl⟩
      rintro σ' H6 g6 ⟨z4, z5, rfl⟩
      refine q_forLN (R := fun xs H => ∀ x ∈ xs, BadL H x) (er_cat (er_strange (by omega) (ea_cons (ev_var rfl) ea_nil)) (el_lst (ea_cons ev_c (ea_cons ev_c (ea_cons (ev_op ev_c (ev_var rfl) rv_I0) ea_nil))) (Nat.le_of_ble_eq_true rfl)) (fun xs Ha Hb _ r e => ⟨by rw [r.1]; exact Nat.le_of_ble_eq_true rfl, fun x hx => ?_⟩)) g6.2
        (fun σ' => ∃ z4 z5, σ' = [some (.ref p), some (.int k), some (.int far), y3, z4, z5, some (.int b), some (.int l), some (.int n)]) ⟨_, _, rfl⟩ ?_ ?_
      · rcases List.mem_append.mp hx with hx | hx
        · rcases r.2 x hx with h | ⟨i, rfl, hi⟩
          · exact .inl (h.ex e)
          · exact .inr ⟨i, rfl, by omega⟩
        · simp only [List.mem_cons, List.not_mem_nil, or_false] at hx
          rcases hx with rfl | rfl | rfl
          · exact .inr ⟨_, rfl, by decide⟩
          · exact .inr ⟨_, rfl, by decide⟩
          · exact .inr ⟨_, rfl, by omega⟩
      · rintro H7 xs e7 r x σ' H8 hx g8 ⟨z4, z5, rfl⟩
        exact s_doors (c := 1) g8.2 (by decide) (ev_var rfl) (ev_var rfl) (Bad2.ext (.inr ⟨rfl, ⟨b, rfl, b1, b2⟩, r x hx⟩) g8.1) fun H9 g9 => ⟨g8.trans g9, _, _, rfl⟩
      rintro σ' H7 g7 ⟨z4, z5, rfl⟩
      refine q_asg (ev_call (ea_cons (ev_var rfl) (ea_cons (ev_var rfl) ea_nil)) (sp2_v (by first | exact ⟨by omega, by omega, by omega, by omega⟩ | omega))) fun H8 e8 => ?_
      have g8 := ((g5.trans g6).trans g7).ext e8
      refine q_forLN (R := fun xs H => ∀ x ∈ xs, Bad3 H (.int b) (.int l) x 2) (er_cat (er_strange (by omega) (ea_cons (ev_var rfl) ea_nil)) (el_lst (ea_cons (ev_var rfl) (ea_cons (ev_op (ev_var rfl) (ev_var rfl) rv_I0) ea_nil)) (Nat.le_of_ble_eq_true rfl)) (fun xs Ha Hb _ r e => ⟨by rw [r.1]; exact Nat.le_of_ble_eq_true rfl, fun x hx => .inr ⟨rfl, b, l, rfl, rfl, ⟨b1, b2, l1, l2⟩, ?_⟩⟩)) g8.2
        (fun σ' => ∃ z4 z5, σ' = [some (.ref p), some (.int k), some (.int far), some (.int (pw b l.toNat)), z4, z5, some (.int b), some (.int l), some (.int n)]) ⟨_, _, rfl⟩ ?_ ?_
      · rcases List.mem_append.mp hx with hx | hx
        · rcases r.2 x hx with h | ⟨i, rfl, hi⟩
          · exact .inl (h.ex e)
          · exact .inr ⟨i, rfl, by omega⟩
        · simp only [List.mem_cons, List.not_mem_nil, or_false] at hx
          rcases hx with rfl | rfl
          · exact .inr ⟨_, rfl, by omega⟩
          · exact .inr ⟨_, rfl, by omega⟩
      · rintro H9 xs e9 r x σ' H10 hx g10 ⟨z4, z5, rfl⟩
        have hx3 := (r x hx).ext g10.1
        refine q_forTN (T := Tb P1 P2) (eu_tup (ea_cons ev_c (ea_cons ev_c (ea_cons ev_c (ea_cons ev_c ea_nil)))) (Nat.le_of_ble_eq_true rfl)) g10.2 (fun σ' => ∃ z4, σ' = [some (.ref p), some (.int k), some (.int far), some (.int (pw b l.toNat)), z4, some x, some (.int b), some (.int l), some (.int n)]) ⟨_, rfl⟩ ?_ ?_
        · rintro H11 e11 x' σ' H12 hx' g12 ⟨z4, rfl⟩
          obtain ⟨f', rfl, hD⟩ : ∃ f', x' = .ref f' ∧ Door P w K mg base 4 (spx3 mg) f' := by
            simp only [List.mem_cons, List.not_mem_nil, or_false] at hx'
            rcases hx' with rfl | rfl | rfl | rfl
            · exact ⟨_, rfl, d1⟩
            · exact ⟨_, rfl, d2⟩
            · exact ⟨_, rfl, d3⟩
            · exact ⟨_, rfl, d4⟩
          have g0 := g12.pre e11
          exact s_lamNe (c := 2) g12.2 (by decide) (fun H13 g13 H14 e14 Q' => ⟨f', rfl, hD, _, rfl, _, rfl, _, rfl, .int b, .int l, x, 2, rfl, hx3.ext ((g0.trans g13).ext e14).1, fun H15 e15 => ⟨rfl, rfl, e15⟩⟩) (ed_due (by decide)) fun H13 g13 => ⟨g12.trans g13, _, rfl⟩
        · rintro σ' H11 g11 ⟨z4, rfl⟩
          exact s_lamNe (c := 2) g11.2 (by decide) (fun H13 g13 H14 e14 Q' => ⟨_, rfl, _, rfl, _, rfl, .int b, .int l, x, .non, 2, rfl, .inl (hx3.ext ((g11.trans g13).ext e14).1), fun H15 e15 => ⟨rfl, rfl, e15⟩⟩) (ed_due (by decide)) fun H13 g13 => ⟨(g10.trans g11).trans g13, _, _, rfl⟩
      rintro σ' H9 g9 ⟨z4, z5, rfl⟩
      refine s_forLN (er_strange (by omega) (ea_cons (ev_var rfl) ea_nil)) g9.2 (fun σ' => ∃ z5, σ' = [some (.ref p), some (.int k), some (.int far), some (.int (pw b l.toNat)), z4, z5, some (.int b), some (.int l), some (.int n)]) ⟨_, rfl⟩ ?_ ?_
      · rintro H10 xs e10 r x σ' H11 hx g11 ⟨z5, rfl⟩
        have ho := (r.2 x hx).ext g11.1
        exact s_lamNe (c := 3) g11.2 (by decide) (fun H13 g13 H14 e14 Q' => ⟨_, rfl, _, rfl, _, rfl, _, rfl, .int b, .int l, .int n, x, 3, rfl, .inr ⟨rfl, b, l, n, rfl, rfl, rfl, hd, ho.ext (g13.ext e14).1⟩, fun H15 e15 => ⟨rfl, rfl, e15⟩⟩) (ed_due (by decide)) fun H13 g13 => ⟨g11.trans g13, _, rfl⟩
      · rintro σ' H10 g10 ⟨z5, rfl⟩
        exact ⟨(g8.trans g9).trans g10, _, _, _, _, _, _, _, _, rfl⟩
    · rintro σ' H2 g2 ⟨y1, y2, y3, y4, y5, y6, y7, y8, rfl⟩
      have h1 := d_12
      have h2 := d_2
      have h3 := d_22
      exact s_ret (ev_is (ev_andV (ev_op (ev_call (ea_cons ev_c (ea_cons ev_c (ea_cons (ev_op (ev_call (ea_cons ev_c (ea_cons ev_c ea_nil)) (sp2_v (by first | exact ⟨by omega, by omega, by omega, by omega⟩ | omega))) ev_c rv_I0) ea_nil))) (sp3_v (by first | assumption | omega))) ev_c (rv_eq rfl)) (fun _ => (ev_andV (ev_op (ev_call (ea_cons ev_c (ea_cons ev_c (ea_cons ev_c ea_nil))) (sp3_v (by first | assumption | omega))) ev_c (rv_eq rfl)) (fun _ => (ev_op (ev_call (ea_cons ev_c (ea_cons ev_c (ea_cons ev_c (ea_cons ev_c ea_nil)))) (sp4_v ⟨d_22, by decide⟩)) ev_c (rv_eq rfl)))))) (by rw [f_12, f_2] <;> rfl)) fun H3 e3 => q H3
end
end Sl
namespace Sl
open PySem PySem.Spec PyProof.Rows L2 Evl
def dd_is_whole : He.DefD := ⟨("is_whole", none), "is_whole", "is_whole", defArgs s_is_whole, defBody s_is_whole, defScope s_is_whole, [], []⟩
def dd_power_of : He.DefD := ⟨("power_of", none), "power_of", "power_of", defArgs s_power_of, defBody s_power_of, defScope s_power_of, [], []⟩
def dd_check_both : He.DefD := ⟨("check_both", none), "check_both", "check_both", defArgs s_check_both, defBody s_check_both, defScope s_check_both, [], []⟩
def dd_check_number : He.DefD := ⟨("check_number", none), "check_number", "check_number", defArgs s_check_number, defBody s_check_number, defScope s_check_number, [], []⟩
def dd_figures_of : He.DefD := ⟨("figures_of", none), "figures_of", "figures_of", defArgs s_figures_of, defBody s_figures_of, defScope s_figures_of, [], []⟩
def dd_written_by : He.DefD := ⟨("written_by", none), "written_by", "written_by", defArgs s_written_by, defBody s_written_by, defScope s_written_by, [], []⟩
def dd_step_of : He.DefD := ⟨("step_of", none), "step_of", "step_of", defArgs s_step_of, defBody s_step_of, defScope s_step_of, [], []⟩
def dd_step : He.DefD := ⟨("step", none), "step", "step", defArgs s_step, defBody s_step, defScope s_step, [], []⟩
def dd_course_of : He.DefD := ⟨("course_of", none), "course_of", "course_of", defArgs s_course_of, defBody s_course_of, defScope s_course_of, [], []⟩
def dd_after : He.DefD := ⟨("after", none), "after", "after", defArgs s_after, defBody s_after, defScope s_after, [], []⟩
def dd_came : He.DefD := ⟨("came", none), "came", "came", defArgs s_came, defBody s_came, defScope s_came, [], []⟩
def dd_came_many : He.DefD := ⟨("came_many", none), "came_many", "came_many", defArgs s_came_many, defBody s_came_many, defScope s_came_many, [], []⟩
def dd_round_of : He.DefD := ⟨("round_of", none), "round_of", "round_of", defArgs s_round_of, defBody s_round_of, defScope s_round_of, [], []⟩
def dd_rounds : He.DefD := ⟨("rounds", none), "rounds", "rounds", defArgs s_rounds, defBody s_rounds, defScope s_rounds, [], []⟩
def dd_falls : He.DefD := ⟨("falls", none), "falls", "falls", defArgs s_falls, defBody s_falls, defScope s_falls, [], []⟩
def dd__law_cell_at : He.DefD := ⟨("_law_cell_at", none), "_law_cell_at", "_law_cell_at", defArgs s__law_cell_at, defBody s__law_cell_at, defScope s__law_cell_at, [], []⟩
def dd__law_draw : He.DefD := ⟨("_law_draw", none), "_law_draw", "_law_draw", defArgs s__law_draw, defBody s__law_draw, defScope s__law_draw, [], []⟩
def dd__law_value : He.DefD := ⟨("_law_value", none), "_law_value", "_law_value", defArgs s__law_value, defBody s__law_value, defScope s__law_value, [], []⟩
def dd__law_power : He.DefD := ⟨("_law_power", none), "_law_power", "_law_power", defArgs s__law_power, defBody s__law_power, defScope s__law_power, [], []⟩
def dd__law_room : He.DefD := ⟨("_law_room", none), "_law_room", "_law_room", defArgs s__law_room, defBody s__law_room, defScope s__law_room, [], []⟩
def dd__law_kinds : He.DefD := ⟨("_law_kinds", none), "_law_kinds", "_law_kinds", defArgs s__law_kinds, defBody s__law_kinds, defScope s__law_kinds, [], []⟩
def dd__law_due : He.DefD := ⟨("_law_due", none), "_law_due", "_law_due", defArgs s__law_due, defBody s__law_due, defScope s__law_due, [], []⟩
def dd__law_strange : He.DefD := ⟨("_law_strange", none), "_law_strange", "_law_strange", defArgs s__law_strange, defBody s__law_strange, defScope s__law_strange, [], []⟩
def dd__law_doors_right : He.DefD := ⟨("_law_doors_right", none), "_law_doors_right", "_law_doors_right", defArgs s__law_doors_right, defBody s__law_doors_right, defScope s__law_doors_right, [], []⟩
def dd_law : He.DefD := ⟨("law", none), "law", "law", defArgs s_law, defBody s_law, defScope s_law, [], []⟩
def fn9 : List He.DefD := [dd_is_whole, dd_power_of, dd_check_both, dd_check_number, dd_figures_of, dd_written_by, dd_step_of, dd_step, dd_course_of, dd_after, dd_came, dd_came_many, dd_round_of, dd_rounds, dd_falls, dd__law_cell_at, dd__law_draw, dd__law_value, dd__law_power, dd__law_room, dd__law_kinds, dd__law_due, dd__law_strange, dd__law_doors_right, dd_law]
def fa9a : List He.Fa := [.glo "is_whole", .glo "power_of", .glo "check_both", .glo "check_number", .glo "figures_of", .glo "written_by", .glo "step_of", .glo "step", .glo "course_of", .glo "after", .glo "came", .glo "came_many", .glo "round_of", .glo "rounds", .glo "falls", .glo "_law_cell_at", .glo "_law_draw", .glo "_law_value", .glo "_law_power", .glo "_law_room", .glo "_law_kinds", .glo "_law_due", .glo "_law_strange", .glo "_law_doors_right", .glo "law", .glo "SortError", .glo "BadBase", .glo "BadLength", .glo "BadNumber", .glo "BadSteps"]
def fa9b : List He.Fa := [.free "ValueError", .free "bool", .free "enumerate", .free "int", .free "isinstance", .free "len", .free "min", .free "range", .free "sorted", .free "sum", .free "zip", .int "GREATEST" 12, .int "LONGEST" 8, .exc "BadBase", .exc "BadLength", .exc "BadNumber", .exc "BadSteps", .exm "BadBase" "SortError" true, .exm "BadLength" "SortError" true, .exm "BadNumber" "SortError" true, .exm "BadSteps" "SortError" true]
def fa9 : List He.Fa := fa9a ++ fa9b
def tf9 : List He.Defn := [("_law_doors_right", none), ("law", none)]
def exB (K : PySem.W.Frag) (c : Nat) : Bool :=
  He.eqO (PySem.W.findIn K (.ref (He.ga K (xN c))) "__getattribute__") (some (some (.builtin "BaseException.__getattribute__"))) && (He.eqO (PySem.W.findIn K (.ref (He.ga K (xN c))) "__getattr__") (some none) && (PySem.W.hasDictIn K (He.ga K (xN c)) &&
  (He.eqO (PySem.W.findIn K (.ref (He.ga K (xN c))) "__class__") (some (some (.builtin "object.__class__"))) && (He.eqO (PySem.W.specialIn K (.builtin "object.__class__") "__get__") (some (some (.builtin "getset_descriptor.__get__"))) && (decide (PySem.W.takesIn K (.builtin "object.__class__") = some true) &&
  (decide (PySem.W.mroIn K (He.ga K (xN c)) (.type "object") = some true) && (decide (PySem.W.kitOne K (.ref (He.ga K (xN c))) (.ref (He.ga K (xN 0))) = some (c == 0)) && (decide (PySem.W.kitOne K (.ref (He.ga K (xN c))) (.ref (He.ga K (xN 1))) = some (c == 1)) &&
  (decide (PySem.W.kitOne K (.ref (He.ga K (xN c))) (.ref (He.ga K (xN 2))) = some (c == 2)) && (decide (PySem.W.kitOne K (.ref (He.ga K (xN c))) (.ref (He.ga K (xN 3))) = some (c == 3)) && decide (PySem.W.kitOne K (.ref (He.ga K (xN c))) (.type "ValueError") = some true)))))))))))
def ex9 (K : PySem.W.Frag) : Bool := exB K 0 && (exB K 1 && (exB K 2 && (exB K 3 && decide ((He.cT K ("_law_doors_right", none)).2 ≠ (He.cT K ("law", none)).2))))
def loA : List PySem.Str := ["_wall", "SortError", "BadBase", "BadLength", "BadNumber", "BadSteps", "GREATEST", "LONGEST", "is_whole", "power_of", "check_both", "check_number", "figures_of", "written_by", "step_of", "step", "course_of", "after", "Answer", "all_falls", "made_by", "differences_to", "Came", "Never", "came"]
def loB : List PySem.Str := ["turns_of", "lows_of", "many_with", "came_many", "least_first", "round_of", "led_to", "rounds", "falls", "_law_cell_at", "_law_draw", "_law_value", "_law_power", "_law_room", "_law_kinds", "_law_due", "_law_strange", "_law_doors_right"]
def lo9 : List PySem.Str := loA ++ loB
abbrev R9 : PySem.W.OpenRow := PySem.W.OpenLaw.row PySem.Challenge.rw_sortless_k09_refused
abbrev hk9 : PySem.W.Hook := He.hookX 3 fa9 fn9 [] tf9 ex9
noncomputable def ob9 (s : PySem.W.SharedT) : He.AlX := He.obsX 3 fa9 fn9 [] tf9 ex9 (HandSHeadRun.getT s)
theorem ob9_eq (s : PySem.W.SharedT) : ob9 s = hk9.obs s.abs := He.obsX_eq (HandSHeadRun.getT_eq s)
set_option maxHeartbeats 0 in
theorem run9 (w : World) : HandSHeadRun.RunEq R9 (PySem.W.view R9.prog [49]) hk9 ob9 6000 lo9 w := by
  intro os
  kernel_rfl
end Sl
namespace Sl
open PySem PySem.Spec PyProof.Rows L2 Evl
theorem fun_of_D {K : PySem.W.Frag} {x q : Str} {st : Stmt} {f : Addr} {fd : FuncData} (F : FunD K x q (defArgs st) (defBody st) (defScope st) [] [] f fd) : Fun K x q st f fd := by
  obtain ⟨oc, od, dV, kV, doc, pm, an, cdv, ct, osl, rfl, lk, hcd, hd, _⟩ := F.ex
  rcases hd with ⟨_, rfl⟩ | ⟨h, _⟩
  · exact ⟨⟨oc, od, kV, doc, pm, an, cdv, ct, osl, rfl, lk, hcd⟩, F.kp⟩
  · exact absurd rfl h
theorem code_of {K : PySem.W.Frag} {x q : Str} {st : Stmt} {p : Str × Option Str} {fd : FuncData} (F : Fun K x q st (He.fAd K p) fd) : FunC K x q st (He.fAd K p) fd (He.codeOf K p) := by
  obtain ⟨oc, od, kV, doc, pm, an, cdv, ct, osl, rfl, lk, hcd⟩ := F.ex
  obtain ⟨c, rfl⟩ := He.codeIn_ref hcd
  rw [He.codeOf_eq lk rfl]
  exact ⟨oc, od, kV, doc, pm, an, ct, osl, rfl, lk, hcd⟩
theorem xc_of {K : PySem.W.Frag} {h : Heap} {mg : Str → Option Value} {c : Nat} (X : K.In h) (G : h.Ns mainGlobals mg) (gS : (He.Fa.glo "SortError").ok K = true) (g0 : (He.Fa.glo (xN 0)).ok K = true) (g1 : (He.Fa.glo (xN 1)).ok K = true) (g2 : (He.Fa.glo (xN 2)).ok K = true) (g3 : (He.Fa.glo (xN 3)).ok K = true)
    (g : (He.Fa.glo (xN c)).ok K = true) (x : (He.Fa.exc (xN c)).ok K = true) (e : (He.Fa.exm (xN c) "SortError" true).ok K = true) (b : exB K c = true) : Xc K mg c := by
  have m := He.glo_ok X G g
  have eA : xA mg c = He.ga K (xN c) := refA_of m
  have e0 : xA mg 0 = He.ga K (xN 0) := refA_of (He.glo_ok X G g0)
  have e1 : xA mg 1 = He.ga K (xN 1) := refA_of (He.glo_ok X G g1)
  have e2 : xA mg 2 = He.ga K (xN 2) := refA_of (He.glo_ok X G g2)
  have e3 : xA mg 3 = He.ga K (xN 3) := refA_of (He.glo_ok X G g3)
  have eS : refA mg "SortError" = He.ga K "SortError" := refA_of (He.glo_ok X G gS)
  obtain ⟨x1, x2, x3, x4⟩ := He.exc_ok x
  have h1 := He.exm_ok e
  obtain ⟨b1, b⟩ := He.ba b
  obtain ⟨b2, b⟩ := He.ba b
  obtain ⟨b3, b⟩ := He.ba b
  obtain ⟨b4, b⟩ := He.ba b
  obtain ⟨b5, b⟩ := He.ba b
  obtain ⟨b6, b⟩ := He.ba b
  obtain ⟨b7, b⟩ := He.ba b
  obtain ⟨i0, b⟩ := He.ba b
  obtain ⟨i1, b⟩ := He.ba b
  obtain ⟨i2, b⟩ := He.ba b
  obtain ⟨i3, iV⟩ := He.ba b
  refine ⟨?_, ?_, ?_, ?_, ?_, ?_, ?_, ?_, ?_, ?_, ?_, ?_⟩
  · rw [eA]
    exact m
  · rw [eA]
    exact x1
  · rw [eA]
    exact x2
  · rw [eA]
    exact x3
  · rw [eA]
    exact x4
  · rw [eA, eS]
    exact h1
  · rw [eA]
    exact ⟨He.eqO_ok b1, He.eqO_ok b2, x3, b3, He.eqO_ok b4, He.eqO_ok b5, of_decide_eq_true b6, of_decide_eq_true b7⟩
  · rw [eA, e0]
    exact of_decide_eq_true i0
  · rw [eA, e1]
    exact of_decide_eq_true i1
  · rw [eA, e2]
    exact of_decide_eq_true i2
  · rw [eA, e3]
    exact of_decide_eq_true i3
  · rw [eA]
    exact of_decide_eq_true iV
set_option maxHeartbeats 0 in
theorem facts9 {w : World} {K : PySem.W.Frag} {h : Heap} {mg : Str → Option Value} {f : Addr} (X : K.In h) (G : h.Ns mainGlobals mg) (hfa : mg "law" = some (.ref f)) (c : He.SaysX fa9 fn9 [] tf9 ex9 w h K) : LamX.LawAtS PySem.Challenge.rw_sortless_k09_refused w K CX0 8 63 "_law_script" mg f h := by
  have D := c.t.d
  obtain ⟨fd_is_whole, FD_is_whole⟩ := D.def_ 0 (d := dd_is_whole) rfl
  have F_is_whole : Fun K "is_whole" "is_whole" s_is_whole (He.fAd K ("is_whole", none)) fd_is_whole := fun_of_D FD_is_whole
  have m_is_whole : mg "is_whole" = some (.ref (He.fAd K ("is_whole", none))) := He.glo_ok X G (D.fact 0 (f := .glo "is_whole") rfl)
  have b_is_whole := F_is_whole.binds (ps := ["thing"]) fun _ _ _ _ _ _ us hl => match us, hl with | [_], _ => rfl
  obtain ⟨fd_power_of, FD_power_of⟩ := D.def_ 1 (d := dd_power_of) rfl
  have F_power_of : Fun K "power_of" "power_of" s_power_of (He.fAd K ("power_of", none)) fd_power_of := fun_of_D FD_power_of
  have m_power_of : mg "power_of" = some (.ref (He.fAd K ("power_of", none))) := He.glo_ok X G (D.fact 1 (f := .glo "power_of") rfl)
  have b_power_of := F_power_of.binds (ps := ["base", "many"]) fun _ _ _ _ _ _ us hl => match us, hl with | [_, _], _ => rfl
  obtain ⟨fd_check_both, FD_check_both⟩ := D.def_ 2 (d := dd_check_both) rfl
  have F_check_both : Fun K "check_both" "check_both" s_check_both (He.fAd K ("check_both", none)) fd_check_both := fun_of_D FD_check_both
  have m_check_both : mg "check_both" = some (.ref (He.fAd K ("check_both", none))) := He.glo_ok X G (D.fact 2 (f := .glo "check_both") rfl)
  have b_check_both := F_check_both.binds (ps := ["base", "length"]) fun _ _ _ _ _ _ us hl => match us, hl with | [_, _], _ => rfl
  obtain ⟨fd_check_number, FD_check_number⟩ := D.def_ 3 (d := dd_check_number) rfl
  have F_check_number : Fun K "check_number" "check_number" s_check_number (He.fAd K ("check_number", none)) fd_check_number := fun_of_D FD_check_number
  have m_check_number : mg "check_number" = some (.ref (He.fAd K ("check_number", none))) := He.glo_ok X G (D.fact 3 (f := .glo "check_number") rfl)
  have b_check_number := F_check_number.binds (ps := ["base", "length", "number"]) fun _ _ _ _ _ _ us hl => match us, hl with | [_, _, _], _ => rfl
  obtain ⟨fd_figures_of, FD_figures_of⟩ := D.def_ 4 (d := dd_figures_of) rfl
  have F_figures_of : Fun K "figures_of" "figures_of" s_figures_of (He.fAd K ("figures_of", none)) fd_figures_of := fun_of_D FD_figures_of
  have m_figures_of : mg "figures_of" = some (.ref (He.fAd K ("figures_of", none))) := He.glo_ok X G (D.fact 4 (f := .glo "figures_of") rfl)
  have b_figures_of := F_figures_of.binds (ps := ["base", "length", "number"]) fun _ _ _ _ _ _ us hl => match us, hl with | [_, _, _], _ => rfl
  obtain ⟨fd_written_by, FD_written_by⟩ := D.def_ 5 (d := dd_written_by) rfl
  have F_written_by : Fun K "written_by" "written_by" s_written_by (He.fAd K ("written_by", none)) fd_written_by := fun_of_D FD_written_by
  have m_written_by : mg "written_by" = some (.ref (He.fAd K ("written_by", none))) := He.glo_ok X G (D.fact 5 (f := .glo "written_by") rfl)
  have b_written_by := F_written_by.binds (ps := ["base", "figures"]) fun _ _ _ _ _ _ us hl => match us, hl with | [_, _], _ => rfl
  obtain ⟨fd_step_of, FD_step_of⟩ := D.def_ 6 (d := dd_step_of) rfl
  have F_step_of : Fun K "step_of" "step_of" s_step_of (He.fAd K ("step_of", none)) fd_step_of := fun_of_D FD_step_of
  have m_step_of : mg "step_of" = some (.ref (He.fAd K ("step_of", none))) := He.glo_ok X G (D.fact 6 (f := .glo "step_of") rfl)
  have b_step_of := F_step_of.binds (ps := ["base", "length", "number"]) fun _ _ _ _ _ _ us hl => match us, hl with | [_, _, _], _ => rfl
  obtain ⟨fd_step, FD_step⟩ := D.def_ 7 (d := dd_step) rfl
  have F_step : Fun K "step" "step" s_step (He.fAd K ("step", none)) fd_step := fun_of_D FD_step
  have m_step : mg "step" = some (.ref (He.fAd K ("step", none))) := He.glo_ok X G (D.fact 7 (f := .glo "step") rfl)
  have b_step := F_step.binds (ps := ["base", "length", "number"]) fun _ _ _ _ _ _ us hl => match us, hl with | [_, _, _], _ => rfl
  obtain ⟨fd_course_of, FD_course_of⟩ := D.def_ 8 (d := dd_course_of) rfl
  have F_course_of : Fun K "course_of" "course_of" s_course_of (He.fAd K ("course_of", none)) fd_course_of := fun_of_D FD_course_of
  have m_course_of : mg "course_of" = some (.ref (He.fAd K ("course_of", none))) := He.glo_ok X G (D.fact 8 (f := .glo "course_of") rfl)
  have b_course_of := F_course_of.binds (ps := ["base", "length", "number"]) fun _ _ _ _ _ _ us hl => match us, hl with | [_, _, _], _ => rfl
  obtain ⟨fd_after, FD_after⟩ := D.def_ 9 (d := dd_after) rfl
  have F_after : Fun K "after" "after" s_after (He.fAd K ("after", none)) fd_after := fun_of_D FD_after
  have m_after : mg "after" = some (.ref (He.fAd K ("after", none))) := He.glo_ok X G (D.fact 9 (f := .glo "after") rfl)
  have b_after := F_after.binds (ps := ["base", "length", "number", "steps"]) fun _ _ _ _ _ _ us hl => match us, hl with | [_, _, _, _], _ => rfl
  obtain ⟨fd_came, FD_came⟩ := D.def_ 10 (d := dd_came) rfl
  have F_came : Fun K "came" "came" s_came (He.fAd K ("came", none)) fd_came := fun_of_D FD_came
  have m_came : mg "came" = some (.ref (He.fAd K ("came", none))) := He.glo_ok X G (D.fact 10 (f := .glo "came") rfl)
  have b_came := F_came.binds (ps := ["base", "length", "number"]) fun _ _ _ _ _ _ us hl => match us, hl with | [_, _, _], _ => rfl
  obtain ⟨fd_came_many, FD_came_many⟩ := D.def_ 11 (d := dd_came_many) rfl
  have F_came_many : Fun K "came_many" "came_many" s_came_many (He.fAd K ("came_many", none)) fd_came_many := fun_of_D FD_came_many
  have m_came_many : mg "came_many" = some (.ref (He.fAd K ("came_many", none))) := He.glo_ok X G (D.fact 11 (f := .glo "came_many") rfl)
  have b_came_many := F_came_many.binds (ps := ["base", "length", "number"]) fun _ _ _ _ _ _ us hl => match us, hl with | [_, _, _], _ => rfl
  obtain ⟨fd_round_of, FD_round_of⟩ := D.def_ 12 (d := dd_round_of) rfl
  have F_round_of : Fun K "round_of" "round_of" s_round_of (He.fAd K ("round_of", none)) fd_round_of := fun_of_D FD_round_of
  have m_round_of : mg "round_of" = some (.ref (He.fAd K ("round_of", none))) := He.glo_ok X G (D.fact 12 (f := .glo "round_of") rfl)
  have b_round_of := F_round_of.binds (ps := ["base", "length", "number"]) fun _ _ _ _ _ _ us hl => match us, hl with | [_, _, _], _ => rfl
  obtain ⟨fd_rounds, FD_rounds⟩ := D.def_ 13 (d := dd_rounds) rfl
  have F_rounds : Fun K "rounds" "rounds" s_rounds (He.fAd K ("rounds", none)) fd_rounds := fun_of_D FD_rounds
  have m_rounds : mg "rounds" = some (.ref (He.fAd K ("rounds", none))) := He.glo_ok X G (D.fact 13 (f := .glo "rounds") rfl)
  have b_rounds := F_rounds.binds (ps := ["base", "length"]) fun _ _ _ _ _ _ us hl => match us, hl with | [_, _], _ => rfl
  obtain ⟨fd_falls, FD_falls⟩ := D.def_ 14 (d := dd_falls) rfl
  have F_falls : Fun K "falls" "falls" s_falls (He.fAd K ("falls", none)) fd_falls := fun_of_D FD_falls
  have m_falls : mg "falls" = some (.ref (He.fAd K ("falls", none))) := He.glo_ok X G (D.fact 14 (f := .glo "falls") rfl)
  have b_falls := F_falls.binds (ps := ["base", "length"]) fun _ _ _ _ _ _ us hl => match us, hl with | [_, _], _ => rfl
  obtain ⟨fd__law_cell_at, FD__law_cell_at⟩ := D.def_ 15 (d := dd__law_cell_at) rfl
  have F__law_cell_at : Fun K "_law_cell_at" "_law_cell_at" s__law_cell_at (He.fAd K ("_law_cell_at", none)) fd__law_cell_at := fun_of_D FD__law_cell_at
  have m__law_cell_at : mg "_law_cell_at" = some (.ref (He.fAd K ("_law_cell_at", none))) := He.glo_ok X G (D.fact 15 (f := .glo "_law_cell_at") rfl)
  have b__law_cell_at := F__law_cell_at.binds (ps := ["_law_script", "_law_k"]) fun _ _ _ _ _ _ us hl => match us, hl with | [_, _], _ => rfl
  obtain ⟨fd__law_draw, FD__law_draw⟩ := D.def_ 16 (d := dd__law_draw) rfl
  have F__law_draw : Fun K "_law_draw" "_law_draw" s__law_draw (He.fAd K ("_law_draw", none)) fd__law_draw := fun_of_D FD__law_draw
  have m__law_draw : mg "_law_draw" = some (.ref (He.fAd K ("_law_draw", none))) := He.glo_ok X G (D.fact 16 (f := .glo "_law_draw") rfl)
  have b__law_draw := F__law_draw.binds (ps := ["_law_cell", "_law_k", "_law_many"]) fun _ _ _ _ _ _ us hl => match us, hl with | [_, _, _], _ => rfl
  obtain ⟨fd__law_value, FD__law_value⟩ := D.def_ 17 (d := dd__law_value) rfl
  have F__law_value : Fun K "_law_value" "_law_value" s__law_value (He.fAd K ("_law_value", none)) fd__law_value := fun_of_D FD__law_value
  have m__law_value : mg "_law_value" = some (.ref (He.fAd K ("_law_value", none))) := He.glo_ok X G (D.fact 17 (f := .glo "_law_value") rfl)
  have b__law_value := F__law_value.binds (ps := ["_law_cell", "_law_turn"]) fun _ _ _ _ _ _ us hl => match us, hl with | [_, _], _ => rfl
  obtain ⟨fd__law_power, FD__law_power⟩ := D.def_ 18 (d := dd__law_power) rfl
  have F__law_power : Fun K "_law_power" "_law_power" s__law_power (He.fAd K ("_law_power", none)) fd__law_power := fun_of_D FD__law_power
  have m__law_power : mg "_law_power" = some (.ref (He.fAd K ("_law_power", none))) := He.glo_ok X G (D.fact 18 (f := .glo "_law_power") rfl)
  have b__law_power := F__law_power.binds (ps := ["_law_base", "_law_many"]) fun _ _ _ _ _ _ us hl => match us, hl with | [_, _], _ => rfl
  obtain ⟨fd__law_room, FD__law_room⟩ := D.def_ 19 (d := dd__law_room) rfl
  have F__law_room : Fun K "_law_room" "_law_room" s__law_room (He.fAd K ("_law_room", none)) fd__law_room := fun_of_D FD__law_room
  have m__law_room : mg "_law_room" = some (.ref (He.fAd K ("_law_room", none))) := He.glo_ok X G (D.fact 19 (f := .glo "_law_room") rfl)
  have b__law_room := F__law_room.binds (ps := ["_law_script", "_law_by"]) fun _ _ _ _ _ _ us hl => match us, hl with | [_, _], _ => rfl
  obtain ⟨fd__law_kinds, FD__law_kinds⟩ := D.def_ 20 (d := dd__law_kinds) rfl
  have F__law_kinds : Fun K "_law_kinds" "_law_kinds" s__law_kinds (He.fAd K ("_law_kinds", none)) fd__law_kinds := fun_of_D FD__law_kinds
  have m__law_kinds : mg "_law_kinds" = some (.ref (He.fAd K ("_law_kinds", none))) := He.glo_ok X G (D.fact 20 (f := .glo "_law_kinds") rfl)
  have b__law_kinds := F__law_kinds.binds (ps := ["_law_ask"]) fun _ _ _ _ _ _ us hl => match us, hl with | [_], _ => rfl
  obtain ⟨fd__law_due, FD__law_due⟩ := D.def_ 21 (d := dd__law_due) rfl
  have F__law_due : Fun K "_law_due" "_law_due" s__law_due (He.fAd K ("_law_due", none)) fd__law_due := fun_of_D FD__law_due
  have m__law_due : mg "_law_due" = some (.ref (He.fAd K ("_law_due", none))) := He.glo_ok X G (D.fact 21 (f := .glo "_law_due") rfl)
  have b__law_due := F__law_due.binds (ps := ["_law_at"]) fun _ _ _ _ _ _ us hl => match us, hl with | [_], _ => rfl
  obtain ⟨fd__law_strange, FD__law_strange⟩ := D.def_ 22 (d := dd__law_strange) rfl
  have F__law_strange : Fun K "_law_strange" "_law_strange" s__law_strange (He.fAd K ("_law_strange", none)) fd__law_strange := fun_of_D FD__law_strange
  have m__law_strange : mg "_law_strange" = some (.ref (He.fAd K ("_law_strange", none))) := He.glo_ok X G (D.fact 22 (f := .glo "_law_strange") rfl)
  have b__law_strange := F__law_strange.binds (ps := ["_law_far"]) fun _ _ _ _ _ _ us hl => match us, hl with | [_], _ => rfl
  obtain ⟨fd__law_doors_right, FD__law_doors_right⟩ := D.def_ 23 (d := dd__law_doors_right) rfl
  have F__law_doors_right : Fun K "_law_doors_right" "_law_doors_right" s__law_doors_right (He.fAd K ("_law_doors_right", none)) fd__law_doors_right := fun_of_D FD__law_doors_right
  have m__law_doors_right : mg "_law_doors_right" = some (.ref (He.fAd K ("_law_doors_right", none))) := He.glo_ok X G (D.fact 23 (f := .glo "_law_doors_right") rfl)
  have b__law_doors_right := F__law_doors_right.binds (ps := ["_law_base", "_law_length", "_law_due_here"]) fun _ _ _ _ _ _ us hl => match us, hl with | [_, _, _], _ => rfl
  obtain ⟨fd_law, FD_law⟩ := D.def_ 24 (d := dd_law) rfl
  have F_law : Fun K "law" "law" s_law (He.fAd K ("law", none)) fd_law := fun_of_D FD_law
  have m_law : mg "law" = some (.ref (He.fAd K ("law", none))) := He.glo_ok X G (D.fact 24 (f := .glo "law") rfl)
  have e := hfa.symm.trans m_law
  cases e
  have B : Bf K mg := ⟨He.free_ok X G (D.fact 30 (f := .free "ValueError") rfl), He.free_ok X G (D.fact 31 (f := .free "bool") rfl), He.free_ok X G (D.fact 32 (f := .free "enumerate") rfl), He.free_ok X G (D.fact 33 (f := .free "int") rfl), He.free_ok X G (D.fact 34 (f := .free "isinstance") rfl), He.free_ok X G (D.fact 35 (f := .free "len") rfl), He.free_ok X G (D.fact 36 (f := .free "min") rfl), He.free_ok X G (D.fact 37 (f := .free "range") rfl), He.free_ok X G (D.fact 38 (f := .free "sorted") rfl), He.free_ok X G (D.fact 39 (f := .free "sum") rfl), He.free_ok X G (D.fact 40 (f := .free "zip") rfl), He.int_ok X G (D.fact 41 (f := .int "GREATEST" 12) rfl), He.int_ok X G (D.fact 42 (f := .int "LONGEST" 8) rfl)⟩
  have gS := (D.fact 25 (f := .glo "SortError") rfl)
  have g0 : (He.Fa.glo (xN 0)).ok K = true := (D.fact 26 (f := .glo "BadBase") rfl)
  have g1 : (He.Fa.glo (xN 1)).ok K = true := (D.fact 27 (f := .glo "BadLength") rfl)
  have g2 : (He.Fa.glo (xN 2)).ok K = true := (D.fact 28 (f := .glo "BadNumber") rfl)
  have g3 : (He.Fa.glo (xN 3)).ok K = true := (D.fact 29 (f := .glo "BadSteps") rfl)
  obtain ⟨z0, z⟩ := He.ba c.more
  obtain ⟨z1, z⟩ := He.ba z
  obtain ⟨z2, z⟩ := He.ba z
  obtain ⟨z3, z⟩ := He.ba z
  have hne := of_decide_eq_true z
  have T : Xf K mg := ⟨by rw [refA_of (He.glo_ok X G gS)]; exact He.glo_ok X G gS, xc_of X G gS g0 g1 g2 g3 g0 (D.fact 43 (f := .exc "BadBase") rfl) (D.fact 47 (f := .exm "BadBase" "SortError" true) rfl) z0, xc_of X G gS g0 g1 g2 g3 g1 (D.fact 44 (f := .exc "BadLength") rfl) (D.fact 48 (f := .exm "BadLength" "SortError" true) rfl) z1, xc_of X G gS g0 g1 g2 g3 g2 (D.fact 45 (f := .exc "BadNumber") rfl) (D.fact 49 (f := .exm "BadNumber" "SortError" true) rfl) z2, xc_of X G gS g0 g1 g2 g3 g3 (D.fact 46 (f := .exc "BadSteps") rfl) (D.fact 50 (f := .exm "BadSteps" "SortError" true) rfl) z3⟩
  have kin : Kin K mg := ⟨_, _, F__law_kinds, m__law_kinds, b__law_kinds⟩
  have FC1 := code_of F__law_doors_right
  have FC2 := code_of F_law
  have bl := FunD.bindsA (ps := ["_law_script"]) FD_law fun _ _ _ _ _ _ us hl => match us, hl with | [_], _ => rfl
  refine ⟨fd_law, tf9.map (He.cT K), SpLaw9 (Tb (He.cT K ("_law_doors_right", none)).2 (He.cT K ("law", none)).2) K, fun p hp => ?_, fun p hp => ?_, fun p hp => ?_, fun s u => bl s [u] rfl, fun H a ns hl hbits hH hS => ⟨a, ns, rfl, hS, hl, fun z hz => Bt.of (hbits z hz), fun p hp => ?_, fun _ => rfl⟩, fun base KB GB TBs => ?_⟩
  · obtain ⟨q, hq, rfl⟩ := List.mem_map.mp hp
    exact c.empty q hq
  · obtain ⟨q, hq, rfl⟩ := List.mem_map.mp hp
    exact c.out q hq
  · obtain ⟨q, hq, rfl⟩ := List.mem_map.mp hp
    exact PySem.W.codeHd_of_K X (c.hd q hq)
  · rcases List.mem_cons.mp hp with rfl | hp
    · exact LamX.TabS.nil (hH _ (List.mem_map.mpr ⟨("_law_doors_right", none), List.mem_cons_self, rfl⟩))
    · rcases List.mem_cons.mp hp with rfl | hp
      · exact LamX.TabS.nil (hH _ (List.mem_map.mpr ⟨("law", none), List.mem_cons_of_mem _ List.mem_cons_self, rfl⟩))
      · cases hp
  · have TB1 : LamX.TabB base mg (He.codeOf K ("_law_doors_right", none)) (He.cT K ("_law_doors_right", none)).2 := TBs _ (List.mem_map.mpr ⟨("_law_doors_right", none), List.mem_cons_self, rfl⟩)
    have TB2 : LamX.TabB base mg (He.codeOf K ("law", none)) (He.cT K ("law", none)).2 := TBs _ (List.mem_map.mpr ⟨("law", none), List.mem_cons_of_mem _ List.mem_cons_self, rfl⟩)
    have C_is_whole : Fn PySem.Challenge.rw_sortless_k09_refused.prog w K mg base 1 "is_whole" ["thing"] (sp_is_whole K mg) := ⟨_, _, m_is_whole, ok_is_whole F_is_whole B , F_is_whole.kp, b_is_whole⟩
    have C_power_of : Fn PySem.Challenge.rw_sortless_k09_refused.prog w K mg base 1 "power_of" ["base", "many"] (sp_power_of K mg) := ⟨_, _, m_power_of, ok_power_of F_power_of B , F_power_of.kp, b_power_of⟩
    have C_check_both : Fn PySem.Challenge.rw_sortless_k09_refused.prog w K mg base 2 "check_both" ["base", "length"] (sp_check_both K mg) := ⟨_, _, m_check_both, ok_check_both F_check_both B C_is_whole, F_check_both.kp, b_check_both⟩
    have C_check_number : Fn PySem.Challenge.rw_sortless_k09_refused.prog w K mg base 3 "check_number" ["base", "length", "number"] (sp_check_number K mg) := ⟨_, _, m_check_number, ok_check_number F_check_number B C_check_both C_is_whole C_power_of, F_check_number.kp, b_check_number⟩
    have C_figures_of : Fn PySem.Challenge.rw_sortless_k09_refused.prog w K mg base 1 "figures_of" ["base", "length", "number"] (sp_figures_of K mg) := ⟨_, _, m_figures_of, ok_figures_of F_figures_of B , F_figures_of.kp, b_figures_of⟩
    have C_written_by : Fn PySem.Challenge.rw_sortless_k09_refused.prog w K mg base 1 "written_by" ["base", "figures"] (sp_written_by K mg) := ⟨_, _, m_written_by, ok_written_by F_written_by B , F_written_by.kp, b_written_by⟩
    have C_step_of : Fn PySem.Challenge.rw_sortless_k09_refused.prog w K mg base 2 "step_of" ["base", "length", "number"] (sp_step_of K mg) := ⟨_, _, m_step_of, ok_step_of F_step_of B C_figures_of C_written_by, F_step_of.kp, b_step_of⟩
    have C_step : Fn PySem.Challenge.rw_sortless_k09_refused.prog w K mg base 4 "step" ["base", "length", "number"] (sp_step K mg) := ⟨_, _, m_step, ok_step F_step B C_check_number C_step_of, F_step.kp, b_step⟩
    have C_course_of : Fn PySem.Challenge.rw_sortless_k09_refused.prog w K mg base 3 "course_of" ["base", "length", "number"] (sp_course_of K mg) := ⟨_, _, m_course_of, ok_course_of F_course_of B C_step_of, F_course_of.kp, b_course_of⟩
    have C_after : Fn PySem.Challenge.rw_sortless_k09_refused.prog w K mg base 4 "after" ["base", "length", "number", "steps"] (sp_after K mg) := ⟨_, _, m_after, ok_after F_after B C_check_number C_course_of C_is_whole, F_after.kp, b_after⟩
    have C__law_cell_at : Fn PySem.Challenge.rw_sortless_k09_refused.prog w K mg base 1 "_law_cell_at" ["_law_script", "_law_k"] (sp__law_cell_at K mg) := ⟨_, _, m__law_cell_at, ok__law_cell_at F__law_cell_at B , F__law_cell_at.kp, b__law_cell_at⟩
    have C__law_draw : Fn PySem.Challenge.rw_sortless_k09_refused.prog w K mg base 1 "_law_draw" ["_law_cell", "_law_k", "_law_many"] (sp__law_draw K mg) := ⟨_, _, m__law_draw, ok__law_draw F__law_draw B , F__law_draw.kp, b__law_draw⟩
    have C__law_value : Fn PySem.Challenge.rw_sortless_k09_refused.prog w K mg base 2 "_law_value" ["_law_cell", "_law_turn"] (sp__law_value K mg) := ⟨_, _, m__law_value, ok__law_value F__law_value B C__law_draw, F__law_value.kp, b__law_value⟩
    have C__law_power : Fn PySem.Challenge.rw_sortless_k09_refused.prog w K mg base 1 "_law_power" ["_law_base", "_law_many"] (sp__law_power K mg) := ⟨_, _, m__law_power, ok__law_power F__law_power B , F__law_power.kp, b__law_power⟩
    have C__law_room : Fn PySem.Challenge.rw_sortless_k09_refused.prog w K mg base 3 "_law_room" ["_law_script", "_law_by"] (sp__law_room K mg) := ⟨_, _, m__law_room, ok__law_room F__law_room B C__law_cell_at C__law_power C__law_value, F__law_room.kp, b__law_room⟩
    have C__law_due : Fn PySem.Challenge.rw_sortless_k09_refused.prog w K mg base 1 "_law_due" ["_law_at"] (sp__law_due K mg) := ⟨_, _, m__law_due, ok__law_due F__law_due B , F__law_due.kp, b__law_due⟩
    have C__law_strange : Fn PySem.Challenge.rw_sortless_k09_refused.prog w K mg base 1 "_law_strange" ["_law_far"] (sp__law_strange K mg) := ⟨_, _, m__law_strange, ok__law_strange F__law_strange B , F__law_strange.kp, b__law_strange⟩
    have X_check_both : FnX PySem.Challenge.rw_sortless_k09_refused.prog w K mg base 2 "check_both" ["base", "length"] (spx2 mg) := ⟨_, _, m_check_both, okx_check_both F_check_both B T C_is_whole, F_check_both.kp, b_check_both⟩
    have X_check_number : FnX PySem.Challenge.rw_sortless_k09_refused.prog w K mg base 3 "check_number" ["base", "length", "number"] (spx3 mg) := ⟨_, _, m_check_number, okx_check_number F_check_number B T C_is_whole C_power_of C_check_both X_check_both, F_check_number.kp, b_check_number⟩
    have X_after : FnX PySem.Challenge.rw_sortless_k09_refused.prog w K mg base 4 "after" ["base", "length", "number", "steps"] (spx4 mg) := ⟨_, _, m_after, okx_after F_after B T C_is_whole C_check_number X_check_number, F_after.kp, b_after⟩
    have X_step : FnX PySem.Challenge.rw_sortless_k09_refused.prog w K mg base 4 "step" ["base", "length", "number"] (spx3 mg) := ⟨_, _, m_step, okx_step F_step X_check_number, F_step.kp, b_step⟩
    have X_round_of : FnX PySem.Challenge.rw_sortless_k09_refused.prog w K mg base 4 "round_of" ["base", "length", "number"] (spx3 mg) := ⟨_, _, m_round_of, okx_round_of F_round_of X_check_number, F_round_of.kp, b_round_of⟩
    have X_came : FnX PySem.Challenge.rw_sortless_k09_refused.prog w K mg base 4 "came" ["base", "length", "number"] (spx3 mg) := ⟨_, _, m_came, okx_came F_came X_check_number, F_came.kp, b_came⟩
    have X_came_many : FnX PySem.Challenge.rw_sortless_k09_refused.prog w K mg base 4 "came_many" ["base", "length", "number"] (spx3 mg) := ⟨_, _, m_came_many, okx_came_many F_came_many X_check_number, F_came_many.kp, b_came_many⟩
    have X_rounds : FnX PySem.Challenge.rw_sortless_k09_refused.prog w K mg base 3 "rounds" ["base", "length"] (spx2 mg) := ⟨_, _, m_rounds, okx_rounds F_rounds X_check_both, F_rounds.kp, b_rounds⟩
    have X_falls : FnX PySem.Challenge.rw_sortless_k09_refused.prog w K mg base 3 "falls" ["base", "length"] (spx2 mg) := ⟨_, _, m_falls, okx_falls F_falls X_check_both, F_falls.kp, b_falls⟩
    have C__law_doors_right : Fn PySem.Challenge.rw_sortless_k09_refused.prog w K mg base 7 "_law_doors_right" ["_law_base", "_law_length", "_law_due_here"] (sp__law_doors_right (Tb (He.cT K ("_law_doors_right", none)).2 (He.cT K ("law", none)).2) mg) := ⟨_, _, m__law_doors_right, ok__law_doors_right FC1 B T kin TB1 hne X_step X_round_of X_came X_came_many X_rounds X_falls X_after, F__law_doors_right.kp, b__law_doors_right⟩
    exact ok_law FC2 B T kin TB2 hne C__law_room C__law_value C__law_cell_at C__law_strange C__law_due C__law_power C_step C_after C__law_doors_right X_step X_round_of X_came X_came_many X_after
end Sl
open PySem PySem.W PySem.Calls PyProof.Rows
set_option maxHeartbeats 0 in
theorem PySem.Challenge.cw_sortless_k09_refused_holds : PySem.Challenge.rw_sortless_k09_refused.Holds := by
  w_on; o_law
  refine HandSHeadRun.head_any (r := OpenLaw.row PySem.Challenge.rw_sortless_k09_refused) (q := view (OpenLaw.row PySem.Challenge.rw_sortless_k09_refused).prog [49]) (H := Sl.hk9) (ob := Sl.ob9) (M := 6000) (loose := Sl.lo9) (d := HandSHeadRun.topDef (OpenLaw.row PySem.Challenge.rw_sortless_k09_refused).prog 49) (kwd := []) Sl.ob9_eq
    (by kernel_rfl) (fun s => by kernel_rfl) Sl.run9 (by kernel_rfl) (by kernel_rfl) (by kernel_rfl) (by rfl) (by first | assumption | decide +kernel) (by decide +kernel) ⟨rfl, rfl, rfl, rfl, rfl, by decide +kernel⟩ ?hw ?hc
  case hw => w_witness2
  case hc =>
    refine LamX.walk_ofTsE (l := PySem.Challenge.rw_sortless_k09_refused) (n := 63) (k := 8) (x := "_law_script") (CX := fun _ => L2.CX0) rfl (by decide) (by kernel_rfl) ⟨rfl, by decide, by decide⟩ ?F (fun _ _ _ _ _ z => z)
    intro w mg fa h Y G hmg0
    obtain ⟨K, KX, c⟩ := Y
    have hmg : mg ("law" : PySem.Str) = some (.ref fa) := by
      have e : (HandSHeadRun.topDef (OpenLaw.row PySem.Challenge.rw_sortless_k09_refused).prog 49).name = ("law" : PySem.Str) := by kernel_rfl
      rw [← e]
      exact hmg0
    exact ⟨K, KX, Sl.facts9 KX G hmg c⟩
