import PyProof.Rows.All
import Wide.All
import OpenK.AllK
import Wide.FinOn
import HandS.ForMost
import HandS.Wide
import HandS.IsInst
import HandS.Conv
import HandS.Walk
import HandS.TupAny
import HandS.SetFor
import HandS.Zip
import KE.GoesEnum
import KE.GoesZip
import KE.KTupSum
import PySem.Challenge.RW_shoporders_k00_whole_sums_of_ends
import HandS.Style
import KE.KSortedM
set_option Elab.async false
set_option linter.all false
set_option maxHeartbeats 4000000
/-! The mathematics of the law: orders, sums, Smith's rule, the number of best orders. No Python here. -/
namespace Mt
/-! ### sums of an order -/
def cost (t w : Nat → Int) : Int → List Nat → Int
  | _, [] => 0
  | d, j :: l => w j * (d + t j) + cost t w (d + t j) l
def wsum (w : Nat → Int) (l : List Nat) : Int := (l.map w).sum
theorem wsum_cons (w : Nat → Int) (j : Nat) (l : List Nat) : wsum w (j :: l) = w j + wsum w l := by simp [wsum]
theorem wsum_app (w : Nat → Int) (a b : List Nat) : wsum w (a ++ b) = wsum w a + wsum w b := by simp [wsum]
theorem sum_perm {a b : List Int} (h : a.Perm b) : a.sum = b.sum := by
  induction h with
  | nil => rfl
  | cons x _ ih => simp [ih]
  | swap x y l => simp; omega
  | trans _ _ i j => rw [i, j]
theorem wsum_perm (w : Nat → Int) {a b : List Nat} (h : a.Perm b) : wsum w a = wsum w b := sum_perm (h.map w)
theorem cost_shift (t w : Nat → Int) : ∀ (l : List Nat) (d : Int), cost t w d l = d * wsum w l + cost t w 0 l
  | [], d => by simp [cost, wsum]
  | j :: l, d => by
    unfold cost
    rw [cost_shift t w l (d + t j), cost_shift t w l (0 + t j), wsum_cons, Int.mul_add, Int.mul_add, Int.add_mul, Int.mul_add, Int.add_mul]
    have := Int.mul_comm (w j) d
    omega
theorem cost_cons (t w : Nat → Int) (j : Nat) (l : List Nat) : cost t w 0 (j :: l) = w j * t j + t j * wsum w l + cost t w 0 l := by
  conv => lhs; unfold cost
  rw [cost_shift t w l (0 + t j)]
  simp only [Int.zero_add]
  omega
/-! ### the order of jobs by their ratios: R a b: a may stand ahead of b -/
def R (t w : Nat → Int) (a b : Nat) : Prop := t a * w b ≤ t b * w a
instance (t w : Nat → Int) (a b : Nat) : Decidable (R t w a b) := inferInstanceAs (Decidable (_ ≤ _))
abbrev Sd (t w : Nat → Int) (l : List Nat) : Prop := l.Pairwise (R t w)
theorem R_total (t w : Nat → Int) (a b : Nat) : R t w a b ∨ R t w b a := Int.le_total _ _
theorem R_refl (t w : Nat → Int) (a : Nat) : R t w a a := Int.le_refl _
theorem R_trans {t w : Nat → Int} (pos : ∀ j, 0 < t j) {a b c : Nat} (h1 : R t w a b) (h2 : R t w b c) : R t w a c := by
  unfold R at *
  have e1 : t a * (t b * w c) ≤ t a * (t c * w b) := Int.mul_le_mul_of_nonneg_left h2 (Int.le_of_lt (pos a))
  have e2 : t c * (t a * w b) ≤ t c * (t b * w a) := Int.mul_le_mul_of_nonneg_left h1 (Int.le_of_lt (pos c))
  have e3 : t b * (t a * w c) ≤ t b * (t c * w a) := by
    have a1 : t b * (t a * w c) = t a * (t b * w c) := by rw [Int.mul_left_comm]
    have a2 : t a * (t c * w b) = t c * (t a * w b) := by rw [Int.mul_left_comm]
    have a3 : t c * (t b * w a) = t b * (t c * w a) := by rw [Int.mul_left_comm]
    omega
  exact Int.le_of_mul_le_mul_left e3 (pos b)
/-- what moving x from behind l1 to the front is worth -/
theorem cost_move (t w : Nat → Int) (x : Nat) : ∀ (l1 l2 : List Nat), cost t w 0 (l1 ++ x :: l2) = cost t w 0 (x :: (l1 ++ l2)) + (l1.map fun a => t a * w x - t x * w a).sum
  | [], l2 => by simp
  | a :: l1, l2 => by
    have ih := cost_move t w x l1 l2
    rw [List.cons_append, cost_cons, ih, cost_cons, cost_cons, List.cons_append, cost_cons, wsum_cons, wsum_app, wsum_app, wsum_cons, List.map_cons, List.sum_cons]
    simp only [Int.mul_add]
    omega
theorem sum_nonneg : ∀ {l : List Int}, (∀ x ∈ l, 0 ≤ x) → 0 ≤ l.sum
  | [], _ => by simp
  | a :: l, h => by
    rw [List.sum_cons]
    have h1 := h a (by simp)
    have h2 := sum_nonneg (l := l) fun x hx => h x (List.mem_cons_of_mem _ hx)
    omega
theorem sum_zero : ∀ {l : List Int}, (∀ x ∈ l, 0 ≤ x) → l.sum = 0 → ∀ x ∈ l, x = 0
  | [], _, _, x, hx => by simp at hx
  | a :: l, h, e, x, hx => by
    rw [List.sum_cons] at e
    have h1 := h a (by simp)
    have h2 := sum_nonneg (l := l) fun x hx => h x (List.mem_cons_of_mem _ hx)
    rcases List.mem_cons.mp hx with q | q
    · omega
    · exact sum_zero (fun x hx => h x (List.mem_cons_of_mem _ hx)) (by omega) x q
/-- Smith: a sorted order has the least sum, and only sorted ones have it -/
theorem smith {t w : Nat → Int} : ∀ (s l : List Nat), Sd t w s → l.Perm s → cost t w 0 s ≤ cost t w 0 l ∧ (cost t w 0 l = cost t w 0 s → Sd t w l)
  | [], l, _, p => by
    have e := p.eq_nil
    subst e
    exact ⟨Int.le_refl _, fun _ => List.Pairwise.nil⟩
  | x :: s, l, hs, p => by
    obtain ⟨hx, hs'⟩ := List.pairwise_cons.mp hs
    have hm : x ∈ l := p.mem_iff.mpr (by simp)
    obtain ⟨l1, l2, rfl⟩ := List.append_of_mem hm
    have p2 : (l1 ++ l2).Perm s := (List.perm_middle.symm.trans p).cons_inv
    obtain ⟨i1, i2⟩ := smith s (l1 ++ l2) hs' p2
    have mv := cost_move t w x l1 l2
    have c1 := cost_cons t w x (l1 ++ l2)
    have c2 := cost_cons t w x s
    have we := wsum_perm w p2
    rw [we] at c1
    have nn : ∀ y ∈ l1.map fun a => t a * w x - t x * w a, 0 ≤ y := fun y hy => by
      obtain ⟨a, ha, rfl⟩ := List.mem_map.mp hy
      have q : R t w x a := hx a (p2.mem_iff.mp (List.mem_append_left _ ha))
      unfold R at q
      omega
    have n0 := sum_nonneg nn
    refine ⟨by omega, fun e => ?_⟩
    have z := sum_zero nn (by omega)
    have sd := i2 (by omega)
    obtain ⟨s1, s2, s3⟩ := List.pairwise_append.mp sd
    refine List.pairwise_append.mpr ⟨s1, List.pairwise_cons.mpr ⟨fun b hb => hx b (p2.mem_iff.mp (List.mem_append_right _ hb)), s2⟩, fun a ha b hb => ?_⟩
    rcases List.mem_cons.mp hb with rfl | hb
    · have q := z _ (List.mem_map.mpr ⟨a, ha, rfl⟩)
      unfold R
      omega
    · exact s3 a ha b hb
theorem smith_eq {t w : Nat → Int} {s l : List Nat} (hs : Sd t w s) (hl : Sd t w l) (p : l.Perm s) : cost t w 0 l = cost t w 0 s :=
  Int.le_antisymm (smith l s hl p.symm).1 (smith s l hs p).1
/-! ### the number of sorted orders -/
def alk (t w : Nat → Int) (a b : Nat) : Bool := t a * w b == t b * w a
theorem alk_iff {t w : Nat → Int} {a b : Nat} : alk t w a b = true ↔ R t w a b ∧ R t w b a := by
  unfold alk R
  rw [beq_iff_eq]
  constructor
  · intro e; omega
  · intro e; omega
def grp (t w : Nat → Int) : List Nat → Nat
  | [] => 1
  | x :: l => (1 + l.countP (alk t w x)) * grp t w l
inductive Pt (t w : Nat → Int) : List Nat → List Nat → Prop
  | nil : Pt t w [] []
  | cons {a b : Nat} {l m : List Nat} (h : alk t w a b = true) (r : Pt t w l m) : Pt t w (a :: l) (b :: m)
theorem alk_refl (t w : Nat → Int) (a : Nat) : alk t w a a = true := by unfold alk; exact beq_self_eq_true _
theorem alk_symm {t w : Nat → Int} {a b : Nat} (h : alk t w a b = true) : alk t w b a = true := by
  rw [alk_iff] at *
  exact ⟨h.2, h.1⟩
theorem alk_trans {t w : Nat → Int} (pos : ∀ j, 0 < t j) {a b c : Nat} (h : alk t w a b = true) (k : alk t w b c = true) : alk t w a c = true := by
  rw [alk_iff] at *
  exact ⟨R_trans pos h.1 k.1, R_trans pos k.2 h.2⟩
theorem Pt.refl (t w : Nat → Int) : ∀ l, Pt t w l l
  | [] => .nil
  | a :: l => .cons (alk_refl t w a) (Pt.refl t w l)
theorem countP_pt {t w : Nat → Int} (pos : ∀ j, 0 < t j) {a b : Nat} (h : alk t w a b = true) {l m : List Nat} (p : Pt t w l m) : l.countP (alk t w a) = m.countP (alk t w b) := by
  induction p with
  | nil => rfl
  | @cons c d l m q r ih =>
    have e : alk t w a c = alk t w b d := by
      cases hb : alk t w b d with
      | true => exact alk_trans pos h (alk_trans pos hb (alk_symm q))
      | false =>
        cases ha : alk t w a c with
        | false => rfl
        | true =>
          rw [alk_trans pos (alk_symm h) (alk_trans pos ha q)] at hb
          cases hb
    rw [List.countP_cons, List.countP_cons, ih, e]
theorem grp_pt {t w : Nat → Int} (pos : ∀ j, 0 < t j) {l m : List Nat} (p : Pt t w l m) : grp t w l = grp t w m := by
  induction p with
  | nil => rfl
  | cons q r ih =>
    unfold grp
    rw [ih, countP_pt pos q r]
theorem pt_erase {t w : Nat → Int} (pos : ∀ j, 0 < t j) (j : Nat) : ∀ (l : List Nat) (x : Nat), Sd t w (x :: l) → j ∈ l → R t w j x → Pt t w (x :: l.erase j) l
  | [], _, _, h, _ => by simp at h
  | y :: l, x, hs, h, hj => by
    obtain ⟨hx, hs'⟩ := List.pairwise_cons.mp hs
    obtain ⟨hy, hs2⟩ := List.pairwise_cons.mp hs'
    by_cases e : y = j
    · subst e
      rw [List.erase_cons_head]
      exact .cons (alk_iff.mpr ⟨hx _ (by simp), hj⟩) (Pt.refl t w l)
    · rw [List.erase_cons_tail (by simpa using e)]
      have hm : j ∈ l := by
        rcases List.mem_cons.mp h with q | q
        · exact absurd q.symm e
        · exact q
      have xy : R t w x y := hx y (by simp)
      exact .cons (alk_iff.mpr ⟨xy, R_trans pos (hy j hm) hj⟩) (pt_erase pos j l y hs' hm (R_trans pos hj xy))
/-! ### all orders, as they are made -/
def ext1 (n : Nat) (p : List Nat) : List (List Nat) := ((List.range n).filter fun j => !(p.contains j)).map fun j => p ++ [j]
def lev (n : Nat) : Nat → List (List Nat)
  | 0 => [[]]
  | k + 1 => (lev n k).flatMap (ext1 n)
def gen (n : Nat) : Nat → List Nat → List (List Nat)
  | 0, p => [p]
  | k + 1, p => (ext1 n p).flatMap (gen n k)
theorem lev_gen (n : Nat) : ∀ (m k : Nat), (lev n k).flatMap (gen n m) = lev n (k + m)
  | 0, k => by
    show (lev n k).flatMap (fun p => [p]) = lev n k
    simp
  | m + 1, k => by
    have ih := lev_gen n m (k + 1)
    have e : (lev n k).flatMap (gen n (m + 1)) = ((lev n k).flatMap (ext1 n)).flatMap (gen n m) := by
      rw [List.flatMap_assoc]
      rfl
    rw [e]
    show (lev n (k + 1)).flatMap (gen n m) = lev n (k + (m + 1))
    rw [ih]
    congr 1
    omega
theorem lev_eq (n : Nat) : lev n n = gen n n [] := by
  have h := lev_gen n n 0
  rw [Nat.zero_add] at h
  rw [← h]
  show ([[]] : List (List Nat)).flatMap (gen n n) = _
  simp
theorem cands_perm {n : Nat} {p s : List Nat} (h : (p ++ s).Perm (List.range n)) : ((List.range n).filter fun j => !(p.contains j)).Perm s := by
  have nd : (p ++ s).Nodup := h.nodup_iff.mpr List.nodup_range
  obtain ⟨_, _, dj⟩ := List.pairwise_append.mp nd
  refine (h.symm.filter _).trans ?_
  rw [List.filter_append]
  have e1 : (p.filter fun j => !(p.contains j)) = [] := by
    rw [List.filter_eq_nil_iff]
    intro a ha
    simp [ha]
  have e2 : (s.filter fun j => !(p.contains j)) = s := by
    rw [List.filter_eq_self]
    intro a ha
    have : a ∉ p := fun q => dj a q a ha rfl
    simp [this]
  rw [e1, e2, List.nil_append]
theorem next_perm {n j : Nat} {p s : List Nat} (h : (p ++ s).Perm (List.range n)) (hj : j ∈ s) : ((p ++ [j]) ++ s.erase j).Perm (List.range n) := by
  refine List.Perm.trans ?_ h
  rw [List.append_assoc]
  exact (List.perm_cons_erase hj).symm.append_left p
theorem gen_perm (n : Nat) : ∀ (k : Nat) (p s o : List Nat), s.length = k → (p ++ s).Perm (List.range n) → o ∈ gen n k p → o.Perm (List.range n) ∧ ∃ r, o = p ++ r
  | 0, p, s, o, hl, h, ho => by
    have e : s = [] := List.eq_nil_of_length_eq_zero hl
    subst e
    have e2 : o = p := by
      have : o ∈ [p] := ho
      simpa using this
    subst e2
    rw [List.append_nil] at h
    exact ⟨h, [], by simp⟩
  | k + 1, p, s, o, hl, h, ho => by
    have ho : o ∈ (ext1 n p).flatMap (gen n k) := ho
    obtain ⟨q, hq, ho⟩ := List.mem_flatMap.mp ho
    obtain ⟨j, hj, rfl⟩ := List.mem_map.mp hq
    have hj : j ∈ s := (cands_perm h).mem_iff.mp hj
    obtain ⟨h1, r, rfl⟩ := gen_perm n k (p ++ [j]) (s.erase j) o (by rw [List.length_erase_of_mem hj]; omega) (next_perm h hj) ho
    exact ⟨h1, j :: r, by simp⟩
theorem lev_perm {n : Nat} {o : List Nat} (h : o ∈ lev n n) : o.Perm (List.range n) := by
  rw [lev_eq] at h
  exact (gen_perm n n [] (List.range n) o List.length_range (by simp) h).1
theorem sum_ite {α : Type} (f : α → Bool) (g : Nat) : ∀ l : List α, (l.map fun a => if f a = true then g else 0).sum = l.countP f * g
  | [] => by simp
  | a :: l => by
    rw [List.map_cons, List.sum_cons, sum_ite f g l, List.countP_cons, Nat.add_mul, Nat.add_comm]
    cases f a <;> simp
theorem countP_flat {α β : Type} (f : β → Bool) (g : α → List β) : ∀ l : List α, (l.flatMap g).countP f = (l.map fun a => (g a).countP f).sum
  | [] => by simp
  | a :: l => by
    rw [List.flatMap_cons, List.countP_append, countP_flat f g l, List.map_cons, List.sum_cons]
theorem gen_count {t w : Nat → Int} (pos : ∀ j, 0 < t j) (n : Nat) : ∀ (k : Nat) (p s : List Nat), s.length = k → (p ++ s).Perm (List.range n) → Sd t w (p ++ s) → (gen n k p).countP (fun o => decide (Sd t w o)) = grp t w s
  | 0, p, s, hl, h, hs => by
    have e : s = [] := List.eq_nil_of_length_eq_zero hl
    subst e
    rw [List.append_nil] at hs
    show [p].countP _ = 1
    rw [List.countP_cons, decide_eq_true hs]
    rfl
  | k + 1, p, [], hl, h, hs => by simp at hl
  | k + 1, p, x :: s, hl, h, hs => by
    have hk : s.length = k := by simpa using hl
    obtain ⟨sp, sx, sb⟩ := List.pairwise_append.mp hs
    obtain ⟨hx, ss⟩ := List.pairwise_cons.mp sx
    have nd : (p ++ x :: s).Nodup := h.nodup_iff.mpr List.nodup_range
    obtain ⟨_, ndx, dj⟩ := List.pairwise_append.mp nd
    show ((ext1 n p).flatMap (gen n k)).countP _ = _
    rw [countP_flat]
    unfold ext1
    rw [List.map_map]
    have cp := cands_perm h
    have key : ∀ j ∈ (List.range n).filter (fun j => !(p.contains j)), ((fun a => (gen n k a).countP fun o => decide (Sd t w o)) ∘ fun j => p ++ [j]) j = if alk t w x j = true then grp t w s else 0 := fun j hj => by
      have hj : j ∈ x :: s := cp.mem_iff.mp hj
      show (gen n k (p ++ [j])).countP _ = _
      have hp2 := next_perm h hj
      have hl2 : ((x :: s).erase j).length = k := by rw [List.length_erase_of_mem hj]; simp [hk]
      by_cases ha : alk t w x j = true
      · rw [if_pos ha]
        obtain ⟨a1, a2⟩ := alk_iff.mp ha
        have jall : ∀ b ∈ x :: s, R t w j b := fun b hb => by
          rcases List.mem_cons.mp hb with rfl | hb
          · exact a2
          · exact R_trans pos a2 (hx b hb)
        have sd2 : Sd t w (p ++ [j] ++ (x :: s).erase j) := by
          rw [List.append_assoc]
          refine List.pairwise_append.mpr ⟨sp, ?_, fun a ha b hb => ?_⟩
          · exact List.pairwise_cons.mpr ⟨fun b hb => jall b (List.mem_of_mem_erase hb), sx.sublist List.erase_sublist⟩
          · have hb2 : b ∈ x :: s := by
              rcases List.mem_cons.mp hb with e | q
              · rw [e]; exact hj
              · exact List.mem_of_mem_erase q
            exact sb a ha b hb2
        rw [gen_count pos n k (p ++ [j]) _ hl2 hp2 sd2]
        by_cases e : x = j
        · subst e
          rw [List.erase_cons_head]
        · rw [List.erase_cons_tail (by simpa using e)]
          have hjs : j ∈ s := by
            rcases List.mem_cons.mp hj with q | q
            · exact absurd q.symm e
            · exact q
          exact grp_pt pos (pt_erase pos j s x sx hjs a2)
      · rw [if_neg ha, List.countP_eq_zero]
        intro o ho hd
        have hd : Sd t w o := of_decide_eq_true hd
        obtain ⟨op, r, rfl⟩ := gen_perm n k (p ++ [j]) _ o hl2 hp2 ho
        have xj : R t w x j := by
          rcases List.mem_cons.mp hj with rfl | q
          · exact R_refl t w _
          · exact hx j q
        have xo : x ∈ p ++ [j] ++ r := op.mem_iff.mpr (h.mem_iff.mp (by simp))
        have xr : x ∈ r := by
          rcases List.mem_append.mp xo with q | q
          · rcases List.mem_append.mp q with q | q
            · exact absurd rfl (dj x q x (by simp))
            · have : x = j := by simpa using q
              subst this
              exact absurd (alk_refl t w x) ha
          · exact q
        obtain ⟨_, _, z⟩ := List.pairwise_append.mp hd
        exact ha (alk_iff.mpr ⟨xj, z j (by simp) x xr⟩)
    rw [List.map_congr_left key, sum_ite, cp.countP_eq]
    show _ = (1 + s.countP (alk t w x)) * grp t w s
    rw [List.countP_cons, alk_refl]
    simp only [if_true]
    rw [Nat.add_comm]
theorem lev_count {t w : Nat → Int} (pos : ∀ j, 0 < t j) {n : Nat} {s : List Nat} (hp : s.Perm (List.range n)) (hs : Sd t w s) : (lev n n).countP (fun o => decide (cost t w 0 o = cost t w 0 s)) = grp t w s := by
  rw [lev_eq, ← gen_count pos n n [] s (by rw [hp.length_eq, List.length_range]) hp hs]
  refine List.countP_congr fun o ho => ?_
  rw [decide_eq_true_iff, decide_eq_true_iff]
  have op := (gen_perm n n [] s o (by rw [hp.length_eq, List.length_range]) hp ho).1
  have p2 : o.Perm s := op.trans hp.symm
  exact ⟨(smith s o hs p2).2, fun h => smith_eq hs h p2⟩
theorem grp_pos (t w : Nat → Int) : ∀ l, 0 < grp t w l
  | [] => Nat.one_pos
  | x :: l => Nat.mul_pos (by omega) (grp_pos t w l)
/-- some order that was made is sorted -/
theorem lev_some {t w : Nat → Int} (pos : ∀ j, 0 < t j) {n : Nat} {s : List Nat} (hp : s.Perm (List.range n)) (hs : Sd t w s) : ∃ o ∈ lev n n, cost t w 0 o = cost t w 0 s := by
  have h := lev_count pos hp hs
  have h2 : 0 < (lev n n).countP (fun o => decide (cost t w 0 o = cost t w 0 s)) := by rw [h]; exact grp_pos t w s
  obtain ⟨o, ho, e⟩ := List.countP_pos_iff.mp h2
  exact ⟨o, ho, of_decide_eq_true e⟩
/-- min and count of the sums of all orders -/
theorem min_count {t w : Nat → Int} (pos : ∀ j, 0 < t j) {n : Nat} {s : List Nat} (hp : s.Perm (List.range n)) (hs : Sd t w s) {m : Int} (hm : m ∈ (lev n n).map (cost t w 0)) (hle : ∀ y ∈ (lev n n).map (cost t w 0), m ≤ y) :
    m = cost t w 0 s ∧ ((lev n n).map (cost t w 0)).count m = grp t w s := by
  have e : m = cost t w 0 s := by
    obtain ⟨o, ho, e1⟩ := lev_some pos hp hs
    have h1 := hle _ (List.mem_map.mpr ⟨o, ho, e1⟩)
    obtain ⟨o2, ho2, e2⟩ := List.mem_map.mp hm
    have h2 := (smith s o2 hs ((lev_perm ho2).trans hp.symm)).1
    omega
  refine ⟨e, ?_⟩
  subst e
  rw [← lev_count pos hp hs, List.count, List.countP_map]
  refine List.countP_congr fun o _ => ?_
  simp
end Mt
set_option Elab.async false
set_option linter.all false
set_option maxHeartbeats 4000000
/-! The ends of an order as the loop makes them, and the sum of weights times ends. -/
namespace Mt
def tm (ts : List Int) (j : Nat) : Int := ts.getD j 1
def wt (ws : List Int) (j : Nat) : Int := ws.getD j 0
def stp (t : Nat → Int) (s : Int × List Int) (j : Nat) : Int × List Int := (s.1 + t j, s.2.set j (s.1 + t j))
def run (t : Nat → Int) (n : Nat) (l : List Nat) : Int × List Int := l.foldl (stp t) (0, List.replicate n 0)
theorem run_len (t : Nat → Int) (n : Nat) (l : List Nat) : (run t n l).2.length = n := by
  unfold run
  have : ∀ (l : List Nat) (s : Int × List Int), (l.foldl (stp t) s).2.length = s.2.length := by
    intro l
    induction l with
    | nil => intro s; rfl
    | cons j l ih => intro s; rw [List.foldl_cons, ih]; exact List.length_set
  rw [this]
  exact List.length_replicate
theorem run_snoc (t : Nat → Int) (n : Nat) (l : List Nat) (j : Nat) : run t n (l ++ [j]) = stp t (run t n l) j := by
  unfold run
  rw [List.foldl_append]
  rfl
def wd (w : Nat → Int) : List Int → Int
  | [] => 0
  | x :: f => w 0 * x + wd (fun k => w (k + 1)) f
theorem wd_range : ∀ (f : List Int) (w : Nat → Int), ((List.range f.length).map fun k => w k * f.getD k 0).sum = wd w f
  | [], w => rfl
  | x :: f, w => by
    rw [List.length_cons, List.range_succ_eq_map, List.map_cons, List.sum_cons, List.map_map]
    have ih := wd_range f fun k => w (k + 1)
    unfold wd
    rw [← ih]
    rfl
theorem wd_set : ∀ (f : List Int) (w : Nat → Int) (j : Nat) (v : Int), j < f.length → f.getD j 0 = 0 → wd w (f.set j v) = wd w f + w j * v
  | [], w, j, v, h, _ => by simp at h
  | x :: f, w, 0, v, h, z => by
    have z : x = 0 := z
    subst z
    show w 0 * v + wd _ f = w 0 * 0 + wd _ f + w 0 * v
    rw [Int.mul_zero]
    omega
  | x :: f, w, j + 1, v, h, z => by
    have ih := wd_set f (fun k => w (k + 1)) j v (by simpa using h) z
    show w 0 * x + wd _ (f.set j v) = w 0 * x + wd _ f + w (j + 1) * v
    rw [ih]
    omega
theorem getD_set_ne {f : List Int} {i j : Nat} {v : Int} (h : i ≠ j) : (f.set i v).getD j 0 = f.getD j 0 := by
  rw [List.getD_eq_getElem?_getD, List.getD_eq_getElem?_getD, List.getElem?_set_ne h]
theorem wd_fold (t w : Nat → Int) : ∀ (l : List Nat) (d : Int) (f : List Int), l.Nodup → (∀ j ∈ l, j < f.length ∧ f.getD j 0 = 0) → wd w (l.foldl (stp t) (d, f)).2 = wd w f + cost t w d l
  | [], d, f, _, _ => by simp [cost]
  | j :: l, d, f, nd, h => by
    obtain ⟨nj, nl⟩ := List.nodup_cons.mp nd
    obtain ⟨h1, h2⟩ := h j (by simp)
    rw [List.foldl_cons]
    show wd w (l.foldl (stp t) (d + t j, f.set j (d + t j))).2 = _
    rw [wd_fold t w l (d + t j) (f.set j (d + t j)) nl (fun k hk => ?_), wd_set f w j _ h1 h2]
    · show wd w f + w j * (d + t j) + cost t w (d + t j) l = wd w f + (w j * (d + t j) + cost t w (d + t j) l)
      omega
    · obtain ⟨a, b⟩ := h k (List.mem_cons_of_mem _ hk)
      refine ⟨by rw [List.length_set]; exact a, ?_⟩
      rw [getD_set_ne (fun e : j = k => nj (by rw [e]; exact hk))]
      exact b
theorem wd_zero : ∀ (n : Nat) (w : Nat → Int), wd w (List.replicate n 0) = 0
  | 0, w => rfl
  | n + 1, w => by
    rw [List.replicate_succ]
    unfold wd
    rw [wd_zero n, Int.mul_zero]
    omega
/-- the sum of weights times ends is the cost -/
theorem run_cost (t w : Nat → Int) {n : Nat} {l : List Nat} (h : l.Perm (List.range n)) : ((List.range n).map fun k => w k * (run t n l).2.getD k 0).sum = cost t w 0 l := by
  have e := wd_range (run t n l).2 w
  rw [run_len] at e
  rw [e]
  unfold run
  rw [wd_fold t w l 0 _ (h.nodup_iff.mpr List.nodup_range) (fun j hj => ?_), wd_zero]
  · omega
  · have hj : j < n := List.mem_range.mp (h.mem_iff.mp hj)
    refine ⟨by rw [List.length_replicate]; exact hj, ?_⟩
    rw [List.getD_eq_getElem?_getD, List.getElem?_replicate, if_pos hj]
    rfl
/-! bounds: what the products ask -/
theorem run_bound (t : Nat → Int) (b : Int) (h0 : ∀ j, 0 < t j) (hb : ∀ j, t j ≤ b) (n : Nat) : ∀ (l : List Nat), 0 ≤ (run t n l).1 ∧ (run t n l).1 ≤ l.length * b ∧ ∀ x ∈ (run t n l).2, 0 ≤ x ∧ x ≤ l.length * b := by
  have b0 : 0 < b := Int.lt_of_lt_of_le (h0 0) (hb 0)
  have key : ∀ (l : List Nat) (m : Nat) (s : Int × List Int), 0 ≤ s.1 → s.1 ≤ m * b → (∀ x ∈ s.2, 0 ≤ x ∧ x ≤ m * b) →
      0 ≤ (l.foldl (stp t) s).1 ∧ (l.foldl (stp t) s).1 ≤ (m + l.length : Nat) * b ∧ ∀ x ∈ (l.foldl (stp t) s).2, 0 ≤ x ∧ x ≤ (m + l.length : Nat) * b := by
    intro l
    induction l with
    | nil => intro m s h1 h2 h3; exact ⟨h1, h2, h3⟩
    | cons j l ih =>
      intro m s h1 h2 h3
      rw [List.foldl_cons]
      have e : m + (j :: l).length = (m + 1) + l.length := by rw [List.length_cons]; omega
      rw [e]
      have e2 : ((m + 1 : Nat) : Int) * b = m * b + b := by
        rw [Int.natCast_add, Int.add_mul]
        simp
      have p := h0 j
      have q := hb j
      refine ih (m + 1) (stp t s j) ?_ ?_ ?_
      · show 0 ≤ s.1 + t j
        omega
      · show s.1 + t j ≤ _
        rw [e2]
        omega
      · intro x hx
        rw [e2]
        rcases List.mem_or_eq_of_mem_set (show x ∈ s.2.set j (s.1 + t j) from hx) with z | z
        · obtain ⟨y1, y2⟩ := h3 x z
          omega
        · omega
  intro l
  have := key l 0 (0, List.replicate n 0) (Int.le_refl _) (by simp) (fun x hx => by
    have : x = 0 := (List.mem_replicate.mp hx).2
    subst this
    simp)
  rw [Nat.zero_add] at this
  exact this
end Mt
set_option Elab.async false
set_option linter.all false
set_option maxHeartbeats 4000000
/-! A run of alike jobs in a sorted order. -/
namespace Mt
def fct : Nat → Nat
  | 0 => 1
  | k + 1 => fct k * (k + 1)
theorem grp_run {t w : Nat → Int} (pos : ∀ j, 0 < t j) (x : Nat) : ∀ (k : Nat) (l : List Nat), k ≤ l.length → (∀ y ∈ l.take k, alk t w x y = true) → (∀ y ∈ l.drop k, alk t w x y = false) → grp t w l = fct k * grp t w (l.drop k)
  | 0, l, _, _, _ => by
    show grp t w l = 1 * grp t w l
    omega
  | k + 1, [], h, _, _ => by simp at h
  | k + 1, y :: l, h, h1, h2 => by
    have hk : k ≤ l.length := by simpa using h
    have hy : alk t w x y = true := h1 y (by simp)
    have ih := grp_run pos x k l hk (fun z hz => h1 z (by simp [hz])) (fun z hz => h2 z (by simpa using hz))
    have c : l.countP (alk t w y) = k := by
      have e : l.take k ++ l.drop k = l := List.take_append_drop k l
      have c1 : (l.take k).countP (alk t w y) = (l.take k).length := List.countP_eq_length.mpr fun z hz => alk_trans pos (alk_symm hy) (h1 z (by simp [hz]))
      have c2 : (l.drop k).countP (alk t w y) = 0 := List.countP_eq_zero.mpr fun z hz q => by
        have r : alk t w x z = false := h2 z (by simpa using hz)
        rw [alk_trans pos hy q] at r
        cases r
      rw [← e, List.countP_append, c1, c2, List.length_take]
      omega
    show (1 + l.countP (alk t w y)) * grp t w l = (fct k * (k + 1)) * grp t w (l.drop k)
    rw [c, ih, Nat.add_comm 1 k, Nat.mul_comm (fct k) (k + 1), Nat.mul_assoc]
/-- a run that ends, in a sorted order -/
theorem grp_end {t w : Nat → Int} (pos : ∀ j, 0 < t j) {o : List Nat} (sd : Sd t w o) {a k x : Nat} (hx : o[a]? = some x) (hk : a + k ≤ o.length) (h1 : ∀ i y, i < k → o[a + i]? = some y → alk t w x y = true)
    (h2 : ∀ y, o[a + k]? = some y → alk t w x y = false) : grp t w (o.drop a) = fct k * grp t w (o.drop (a + k)) := by
  have g := grp_run (w := w) pos x k (o.drop a) (by rw [List.length_drop]; omega) (fun y hy => ?_) (fun y hy => ?_)
  · rw [List.drop_drop] at g
    exact g
  · obtain ⟨i, hi⟩ := List.mem_iff_getElem?.mp hy
    rw [List.getElem?_take] at hi
    by_cases q : i < k
    · rw [if_pos q, List.getElem?_drop] at hi
      exact h1 i y q hi
    · rw [if_neg q] at hi
      cases hi
  · rw [List.drop_drop] at hy
    obtain ⟨i, hi⟩ := List.mem_iff_getElem?.mp hy
    rw [List.getElem?_drop] at hi
    have hl : a + k + i < o.length := (List.getElem?_eq_some_iff.mp hi).1
    have hz : o[a + k]? = some o[a + k] := List.getElem?_eq_getElem (by omega)
    have nz := h2 _ hz
    have pw := List.pairwise_iff_getElem.mp sd
    have hal : a < o.length := by omega
    have ex : o[a] = x := (List.getElem?_eq_some_iff.mp hx).2
    have ey : o[a + k + i] = y := (List.getElem?_eq_some_iff.mp hi).2
    cases hb : alk t w x y with
    | false => rfl
    | true =>
      have ryx := (alk_iff.mp hb).2
      have rzx : R t w o[a + k] x := by
        by_cases q : i = 0
        · subst q
          have : o[a + k] = y := by simpa using ey
          rw [this]
          exact ryx
        · have z := pw (a + k) (a + k + i) (by omega) hl (by omega)
          rw [ey] at z
          exact R_trans pos z ryx
      have rxz : R t w x o[a + k] := by
        by_cases q : k = 0
        · subst q
          have : o[a + 0] = x := by simpa using ex
          rw [this]
          exact R_refl t w x
        · have z := pw a (a + k) hal (by omega) (by omega)
          rw [ex] at z
          exact z
      rw [alk_iff.mpr ⟨rxz, rzx⟩] at nz
      cases nz
end Mt
set_option Elab.async false
set_option linter.all false
set_option maxRecDepth 100000
set_option maxHeartbeats 4000000
/-! The text by places, what the top leaves, words about heaps. -/
namespace Kd
open PySem PySem.Spec PyProof.Rows L2
def topS (i : Nat) : Stmt := PySem.Challenge.pw_shoporders_k00_whole_sums_of_ends.main.body.getD i (.Pass ⟨0, 0, 0, 0⟩)
abbrev sIsInt : Stmt := topS 7
abbrev sIsIn : Stmt := topS 8
abbrev sIsList : Stmt := topS 9
abbrev sFirst : Stmt := topS 14
abbrev sNeedT : Stmt := topS 15
abbrev sNeedW : Stmt := topS 16
abbrev sIsOrd : Stmt := topS 17
abbrev sNeedO : Stmt := topS 18
abbrev sEndsIn : Stmt := topS 20
abbrev sEnds : Stmt := topS 21
abbrev sNeedX : Stmt := topS 22
abbrev sSumIn : Stmt := topS 23
abbrev sWSum : Stmt := topS 24
abbrev sRatio : Stmt := topS 25
abbrev sSmith : Stmt := topS 26
abbrev sCount : Stmt := topS 27
abbrev sAlike : Stmt := topS 28
abbrev sTaken : Stmt := topS 30
abbrev sPick : Stmt := topS 31
abbrev sLAlike : Stmt := topS 32
abbrev sJobs : Stmt := topS 33
abbrev sOrder : Stmt := topS 34
abbrev sOrders : Stmt := topS 35
abbrev sLEnds : Stmt := topS 36
abbrev sLSum : Stmt := topS 37
abbrev sLaw : Stmt := topS 38
/-- a def of the text, where it stands -/
structure Df (K : PySem.W.Frag) (mg : Str → Option Value) (x : Str) (st : Stmt) (ps : List Str) (f : Addr) (fd : FuncData) : Prop where
  gm : mg x = some (.ref f)
  F : Fun K x x st f fd
  b : Binds K fd ps []
/-- the built-in names that the text uses are the built-ins -/
structure Bl (mg : Str → Option Value) : Prop where
  isi : mg "isinstance" = none
  int : mg "int" = none
  bool : mg "bool" = none
  tuple : mg "tuple" = none
  list : mg "list" = none
  str : mg "str" = none
  len : mg "len" = none
  enum : mg "enumerate" = none
  all : mg "all" = none
  set : mg "set" = none
  sum : mg "sum" = none
  zip : mg "zip" = none
  range : mg "range" = none
  sorted : mg "sorted" = none
  min : mg "min" = none
/-! ### heaps -/
def zs (l : List Nat) : List Int := l.map fun (j : Nat) => (j : Int)
abbrev iv (ns : List Int) : List V := ns.map V.int
theorem zs_len (l : List Nat) : (zs l).length = l.length := List.length_map _
theorem iv_len (ns : List Int) : (iv ns).length = ns.length := List.length_map _
theorem iv_at {ns : List Int} {i : Nat} {x : Int} (h : ns[i]? = some x) : (iv ns)[i]? = some (.int x) := by
  rw [List.getElem?_map, h]
  rfl
theorem iv_of {ns : List Int} {i : Nat} {v : V} (h : (iv ns)[i]? = some v) : ∃ x, ns[i]? = some x ∧ v = .int x := by
  rw [List.getElem?_map] at h
  cases e : ns[i]? with
  | none => rw [e] at h; cases h
  | some x => rw [e] at h; exact ⟨x, rfl, (Option.some.inj h).symm⟩
theorem zs_at {l : List Nat} {i j : Nat} (h : l[i]? = some j) : (zs l)[i]? = some (j : Int) := by
  unfold zs
  rw [List.getElem?_map, h]
  rfl
theorem zs_of {l : List Nat} {i : Nat} {x : Int} (h : (zs l)[i]? = some x) : ∃ j, l[i]? = some j ∧ x = (j : Int) := by
  unfold zs at h
  rw [List.getElem?_map] at h
  cases e : l[i]? with
  | none => rw [e] at h; cases h
  | some j => rw [e] at h; exact ⟨j, rfl, (Option.some.inj h).symm⟩
theorem same_new {H : Hp} {p : Addr} {o : HO} (h : H p = none) : Same H (upd H p o) := fun b x e => by
  rw [upd_ne (ne_of_none e h)]
  exact e
theorem Same.sqt {K : PySem.W.Frag} {H H' : Hp} {a : Addr} {xs : List V} (e : Same H H') (h : SqT K H a xs) : SqT K H' a xs := by
  rcases h with (h | ⟨o, h⟩) | h
  · exact .inl (.inl (e _ _ h))
  · exact .inl (.inr ⟨o, e _ _ h⟩)
  · exact .inr h
/-- all that was tracked but r is as it was -/
def SameX (r : Addr) (H H' : Hp) : Prop := ∀ b o, b ≠ r → H b = some o → H' b = some o
theorem SameX.refl (r : Addr) (H : Hp) : SameX r H H := fun _ _ _ h => h
theorem SameX.trans {r : Addr} {H H1 H2 : Hp} (a : SameX r H H1) (b : SameX r H1 H2) : SameX r H H2 := fun c o n h => b c o n (a c o n h)
theorem SameX.of {r : Addr} {H H' : Hp} (h : Same H H') : SameX r H H' := fun c o _ e => h c o e
theorem SameX.put {r : Addr} {H : Hp} {o : HO} : SameX r H (upd H r o) := fun c u n e => by
  rw [upd_ne n]
  exact e
theorem SameX.sql {K : PySem.W.Frag} {r : Addr} {H H' : Hp} {a : Addr} {xs : List V} (e : SameX r H H') (n : a ≠ r) (h : SqL K H a xs) : SqL K H' a xs := by
  rcases h with (h | ⟨o, h⟩) | h
  · exact .inl (.inl (e _ _ n h))
  · exact .inl (.inr ⟨o, e _ _ n h⟩)
  · exact .inr h
theorem SameX.sqt {K : PySem.W.Frag} {r : Addr} {H H' : Hp} {a : Addr} {xs : List V} (e : SameX r H H') (n : a ≠ r) (h : SqT K H a xs) : SqT K H' a xs := by
  rcases h with (h | ⟨o, h⟩) | h
  · exact .inl (.inl (e _ _ n h))
  · exact .inl (.inr ⟨o, e _ _ n h⟩)
  · exact .inr h
theorem sqt {K : PySem.W.Frag} {H : Hp} {a : Addr} {xs : List V} (h : H a = some (.tup xs)) : SqT K H a xs := .inl (.inl h)
theorem sql {K : PySem.W.Frag} {H : Hp} {a : Addr} {xs : List V} (h : H a = some (.lst xs)) : SqL K H a xs := .inl (.inl h)
theorem at_nat {xs : List V} {z : Int} {j : Nat} {v : V} (e : z = (j : Int)) (h : xs[j]? = some v) : atI xs z = some v := by
  rw [e]
  exact atI_nat h
theorem sz {n : Nat} (h : n ≤ 100000) : n ≤ sizeLine := Nat.le_trans h (by decide)
theorem sz' {n : Nat} (h : n < 100000) : n < sizeLine := Nat.lt_of_lt_of_le h (by decide)
theorem bt {p : Prop} [Decidable p] (h : p) : V.bl (decide p) = V.bl true := congrArg V.bl (decide_eq_true h)
theorem bf {p : Prop} [Decidable p] (h : ¬ p) : V.bl (decide p) = V.bl false := congrArg V.bl (decide_eq_false h)
theorem qv {Q : VK} {x y : V} {H : Hp} (e : x = y) (q : Q y H) : Q x H := by
  rw [e]
  exact q
theorem same_put {H H1 : Hp} {p : Addr} {o : HO} (e : Same H H1) (h : H p = none) : Same H (upd H1 p o) := fun b x q => by
  rw [upd_ne (ne_of_none q h)]
  exact e b x q
/-- the module's constants -/
structure Cn (mg : Str → Option Value) : Prop where
  jobs : ∃ t, mg "MOST_JOBS" = some (.int 10 t)
  time : ∃ t, mg "MOST_TIME" = some (.int 60 t)
  weight : ∃ t, mg "MOST_WEIGHT" = some (.int 60 t)
/-- times and weights as the program wants them -/
structure Jb (ts ws : List Int) : Prop where
  len : ws.length = ts.length
  pos : 1 ≤ ts.length
  most : ts.length ≤ 10
  t : ∀ x ∈ ts, 1 ≤ x ∧ x ≤ 60
  w : ∀ x ∈ ws, 0 ≤ x ∧ x ≤ 60
theorem zs_nodup {o : List Nat} (h : o.Nodup) : (zs o).Nodup := by
  unfold zs
  rw [List.nodup_iff_pairwise_ne, List.pairwise_map]
  exact h.imp fun hab e => hab (by omega)
theorem perm_lt {o : List Nat} {n : Nat} (h : o.Perm (List.range n)) : ∀ j ∈ o, j < n := fun j hj => List.mem_range.mp (h.mem_iff.mp hj)
theorem perm_nd {o : List Nat} {n : Nat} (h : o.Perm (List.range n)) : o.Nodup := h.nodup_iff.mpr List.nodup_range
theorem perm_len {o : List Nat} {n : Nat} (h : o.Perm (List.range n)) : o.length = n := by rw [h.length_eq, List.length_range]
theorem ixN_nat {n j : Nat} (h : j < n) : ixN n (j : Int) = some j := by
  unfold ixN
  rw [if_pos (Int.natCast_nonneg j), if_pos (by omega), Int.toNat_natCast]
theorem iv_set (f : List Int) (j : Nat) (v : Int) : (iv f).set j (.int v) = iv (f.set j v) := List.map_set.symm
theorem iv_snoc (f : List Int) (v : Int) : iv f ++ [.int v] = iv (f ++ [v]) := by
  rw [iv, iv, List.map_append]
  rfl
theorem iv_getD {f : List Int} {i : Nat} (h : i < f.length) : (iv f).getD i .non = .int (f.getD i 0) := by
  rw [List.getD_eq_getElem?_getD, List.getD_eq_getElem?_getD, iv_at (List.getElem?_eq_getElem h), List.getElem?_eq_getElem h]
  rfl
theorem rep_iv (n : Nat) (a : Int) : (List.replicate n [V.int a]).flatten = iv (List.replicate n a) := by
  rw [List.flatten_replicate_singleton, iv, List.map_replicate]
theorem take_snoc {α : Type} {l : List α} {i : Nat} {a : α} (h : l[i]? = some a) : l.take (i + 1) = l.take i ++ [a] := by
  rw [List.take_add_one, h]
  rfl
theorem range_snoc (i : Nat) : List.range (i + 1) = List.range i ++ [i] := List.range_succ
theorem jv_of {l : List Nat} {i : Nat} {v : V} (h : (iv (zs l))[i]? = some v) : ∃ j, l[i]? = some j ∧ v = .int (j : Nat) := by
  obtain ⟨x, hx, rfl⟩ := iv_of h
  obtain ⟨j, hj, rfl⟩ := zs_of hx
  exact ⟨j, hj, rfl⟩
theorem tm_at {ts : List Int} {j : Nat} (h : j < ts.length) : ts[j]? = some (Mt.tm ts j) := by
  unfold Mt.tm
  rw [List.getD_eq_getElem?_getD, List.getElem?_eq_getElem h]
  rfl
theorem wt_at {ws : List Int} {j : Nat} (h : j < ws.length) : ws[j]? = some (Mt.wt ws j) := by
  unfold Mt.wt
  rw [List.getD_eq_getElem?_getD, List.getElem?_eq_getElem h]
  rfl
theorem Jb.tpos {ts ws : List Int} (J : Jb ts ws) (j : Nat) : 0 < Mt.tm ts j := by
  unfold Mt.tm
  rw [List.getD_eq_getElem?_getD]
  cases e : ts[j]? with
  | none => show (0 : Int) < 1; omega
  | some x =>
    have := (J.t x (List.mem_of_getElem? e)).1
    show (0 : Int) < x
    omega
theorem Jb.tle {ts ws : List Int} (J : Jb ts ws) (j : Nat) : Mt.tm ts j ≤ 60 := by
  unfold Mt.tm
  rw [List.getD_eq_getElem?_getD]
  cases e : ts[j]? with
  | none => show (1 : Int) ≤ 60; omega
  | some x => exact (J.t x (List.mem_of_getElem? e)).2
theorem Jb.wb {ts ws : List Int} (J : Jb ts ws) (j : Nat) : 0 ≤ Mt.wt ws j ∧ Mt.wt ws j ≤ 60 := by
  unfold Mt.wt
  rw [List.getD_eq_getElem?_getD]
  cases e : ws[j]? with
  | none => show (0 : Int) ≤ 0 ∧ (0 : Int) ≤ 60; omega
  | some x => exact J.w x (List.mem_of_getElem? e)
end Kd
set_option Elab.async false
set_option linter.all false
set_option maxRecDepth 100000
set_option maxHeartbeats 4000000
/-! checks.py -/
namespace Kd
open PySem PySem.Spec PyProof.Rows L2
section
variable {P : Program} {w : World} {K : PySem.W.Frag} {mg : Str → Option Value} {base : Heap}
theorem scIsInt : FnScope ["value"] ["value"] (defScope sIsInt) := ⟨rfl, rfl, rfl, by decide +kernel, rfl, by decide +kernel, by decide +kernel⟩
def spIsInt : Sp := fun vs H Q _ => ∃ i : Int, vs = [.int i] ∧ Q (.bl true) H
theorem ok_isInt {f : Addr} {fd : FuncData} (D : Df K mg "is_integer" sIsInt ["value"] f fd) (B : Bl mg) : FnOk P w K mg base CX0 1 f fd ["value"] spIsInt := by
  refine D.F.ok scIsInt (fun vs H Q E h => ?_) (fun cdv A outer s H vs Q E hr h => ?_)
  · obtain ⟨i, rfl, _⟩ := h
    rfl
  · obtain ⟨i, rfl, q⟩ := h
    refine ⟨_, pss_one (ps_ret (pe_and (pe_callB call_isi (by rfl) B.isi boot_isinstance (pa_cons (pv 0) (pa_cons (pe_bltn (v := .ty "int") (by rfl) B.int boot_int rfl) pa_nil)))
      (pe_one (pe_not (pe_callB call_isi (by rfl) B.isi boot_isinstance (pa_cons (pv 0) (pa_cons (pe_bltn (v := .ty "bool") (by rfl) B.bool boot_bool rfl) pa_nil))))))), ?_⟩
    refine ⟨.int i, rfl, .int i, .ty "int", _, _, true, rfl, .ty "int", .base (.int i), kit_ty (by decide +kernel), true, rfl, iteT ?_⟩
    refine ⟨.int i, rfl, .int i, .ty "bool", _, _, false, rfl, .ty "bool", .base (.int i), kit_ty (by decide +kernel), false, rfl, ?_⟩
    exact q
theorem scIsIn : FnScope ["value", "least", "most"] ["value", "least", "most"] (defScope sIsIn) := ⟨rfl, rfl, rfl, by decide +kernel, rfl, by decide +kernel, by decide +kernel⟩
def spIsIn : Sp := fun vs H Q _ => ∃ i a b : Int, vs = [.int i, .int a, .int b] ∧ a ≤ i ∧ i ≤ b ∧ Q (.bl true) H
theorem ok_isIn {f g : Addr} {fd gd : FuncData} (D : Df K mg "is_in" sIsIn ["value", "least", "most"] f fd) (G : Df K mg "is_integer" sIsInt ["value"] g gd) (B : Bl mg) : FnOk P w K mg base CX0 2 f fd ["value", "least", "most"] spIsIn := by
  have GG : FnOk P w K mg base CX0 1 g gd ["value"] spIsInt := ok_isInt G B
  refine D.F.ok scIsIn (fun vs H Q E h => ?_) (fun cdv A outer s H vs Q E hr h => ?_)
  · obtain ⟨i, a, b, rfl, _⟩ := h
    rfl
  · obtain ⟨i, a, b, rfl, h1, h2, q⟩ := h
    refine ⟨_, pss_one (ps_ret (pe_and (pe_call GG hr (by rfl) G.gm G.F.kp G.b .nil pass0 (pa_cons (pv 0) pa_nil)) (pe_one (pe_chain op_le op_le (pv 1) (pv 0) (pv 2))))), ?_⟩
    refine ⟨.int i, rfl, i, rfl, true, rfl, iteT ?_⟩
    refine ⟨.int a, rfl, .int i, rfl, a, i, rfl, rfl, true, ?_, iteT ?_⟩
    · exact bt h1
    · refine ⟨.int b, rfl, i, b, rfl, rfl, ?_⟩
      exact qv (Q := Q) (bt h2) q
theorem scIsList : FnScope ["value", "least", "most"] ["value", "least", "most"] (defScope sIsList) := ⟨rfl, rfl, rfl, by decide +kernel, rfl, by decide +kernel, by decide +kernel⟩
def spIsList : Sp := fun vs H Q _ => ∃ (t : Addr) (xs : List V) (a b : Int), vs = [.ref t, .int a, .int b] ∧ H t = some (.tup xs) ∧ a ≤ xs.length ∧ (xs.length : Int) ≤ b ∧ Q (.bl true) H
theorem ok_isList {f : Addr} {fd : FuncData} (D : Df K mg "is_list" sIsList ["value", "least", "most"] f fd) (B : Bl mg) : FnOk P w K mg base CX0 1 f fd ["value", "least", "most"] spIsList := by
  refine D.F.ok scIsList (fun vs H Q E h => ?_) (fun cdv A outer s H vs Q E hr h => ?_)
  · obtain ⟨t, xs, a, b, rfl, _⟩ := h
    rfl
  · obtain ⟨t, xs, a, b, rfl, ht, h1, h2, q⟩ := h
    refine ⟨_, pss_one (ps_ret (pe_and (pe_callB call_isi (by rfl) B.isi boot_isinstance (pa_cons (pv 0) (pa_cons (pe_bltn (v := .ty "tuple") (by rfl) B.tuple boot_tuple rfl) pa_nil)))
      (pe_one (pe_chain op_le op_le (pv 1) (pe_callB call_len_seq (by rfl) B.len PySem.boot_len (pa_cons (pv 0) pa_nil)) (pv 2))))), ?_⟩
    refine ⟨.ref t, rfl, .ref t, .ty "tuple", _, _, true, rfl, .ty "tuple", .base (.tup ht), kit_ty (by decide +kernel), true, rfl, iteT ?_⟩
    refine ⟨.int a, rfl, .ref t, rfl, t, xs, rfl, .inr (sqt ht), a, _, rfl, rfl, true, ?_, iteT ?_⟩
    · exact bt h1
    · refine ⟨.int b, rfl, _, b, rfl, rfl, ?_⟩
      exact qv (Q := Q) (bt h2) q
end
end Kd
set_option Elab.async false
set_option linter.all false
set_option maxRecDepth 100000
set_option maxHeartbeats 4000000
/-! Rules that the layer has for lists alone, for tuples: sum, sorted, len(set(..)), enumerate, zip of a tuple and a list. -/
namespace Kd
open PySem PySem.Spec PyProof.Rows L2
section
variable {X : Cx}
/-- sum of a tuple of ints -/
theorem cr_sumT (hc : X.calm = true) : CallR X (.builtin "sum") (fun vs H Q => ∃ (a : Addr) (ns : List Int), vs = [V.ref a] ∧ SqT X.K H a (iv ns) ∧ Q (.int ns.sum) H) := by
  intro pins s σ H vs us Q I r q
  obtain ⟨a, ns, ev, hT, q⟩ := q
  subst ev
  rw [Vals.ref1 r]
  obtain ⟨its, rv, ht, _⟩ := I.tuple hT
  have hi := rv.ints
  obtain ⟨xs, ex⟩ := hi.allInts.items
  have hn : numsOf (intItems xs).toList = ns := (congrArg numsOf (congrArg Array.toList ex).symm).trans hi.numsOf
  rw [nums_intItems] at hn
  have ht2 : s.heap.IsTuple a (intItems xs) := ex ▸ (show s.heap.IsTuple a its.toArray from ht)
  refine PySem.W.ktm_sumG (I.ok.hd hc) ht2 fun h' tk t' hk => ⟨.int ns.sum, H, I.kept hk, ⟨t', ?_⟩, q⟩
  have e2 : preSum (numAt xs) xs.size = ns.sum := by
    rw [preSum_eq, hn, List.take_of_length_le]
    rw [← hn]
    simp
  rw [e2]
/-- sorted of a tuple of fewer than 64 ints -/
theorem cr_sortedTu (hc : X.calm = true) : CallR X (.builtin "sorted") (fun vs H Q => ∃ (a : Addr) (ns : List Int), vs = [V.ref a] ∧ SqT X.K H a (iv ns) ∧ ns.length < 64 ∧
    ∀ (ms : List Int) (p : Addr), ms.Perm ns → ms.Pairwise (· ≤ ·) → H p = none → Q (.ref p) (upd H p (.lst (iv ms)))) := by
  intro pins s σ H vs us Q I r q
  obtain ⟨a, ns, ev, hT, h64, q⟩ := q
  subst ev
  rw [Vals.ref1 r]
  obtain ⟨its, rv, ⟨o, ho, hcl, n, hd⟩, _⟩ := I.tuple hT
  have hi := rv.ints
  have hl : its.length = ns.length := hi.length
  refine Calls.call_function_entry kind_sorted plain_sorted entry_sorted (args_sorted1 _) ?_
  unfold Builtin.«sorted»
  refine wpAny_bind (m := checkCount "sorted" 1 1 _) (wpAny_pure (wpAny_bind ?_))
  refine wpAny_collect_seq (T := "tuple") a (.inr rfl) ho hcl hd (fun h1 hk => ?_) (by rw [List.size_toArray, hl]; exact sz (by omega))
  have I1 : Inv X pins σ H { s with heap := h1, toks := s.toks } := I.kept hk
  rw [show its.toArray.toList = its from rfl]
  refine wpAny_bind (wpAny_newList ?_ (by rw [hl]; exact sz (by omega)))
  have hN : (h1.push (seqObj "list" its.toArray 0)).get? h1.objs.size = some (seqObj "list" its.toArray 0) := Heap.get?_push_size _ rfl
  refine wpAny_bind (wpAny_holding (wpAny_call_entry slot_list_sort ⟨_, hN, rfl⟩ entry_list_sort (list_sort_tree (s := { s with heap := h1.push (seqObj "list" its.toArray 0) }) hN hi (by rw [hl]; exact h64)
    fun out ms g1 g2 g3 => ⟨_, rfl, wpAny_pure ⟨_, rfl, ?_⟩⟩) (args_list_sort _)))
  obtain ⟨ep, he⟩ := sortedHeap_at (out := out) hN
  have hz : (iv ms).length ≤ sizeLine := by rw [iv_len, g2.length_eq]; exact sz (by omega)
  refine ⟨.ref h1.objs.size, _, I1.laid (a := h1.objs.size) (o := .lst (iv ms)) (t' := s.toks) (fun b u e => ?_) (Nat.le_refl _) ⟨hz, out.toList, ep, vals_of_ints g1, he⟩, rfl, q ms _ g2 g3 (I1.hok.fresh (Nat.le_refl _))⟩
  have hb := Heap.lt_size e
  rw [sortedHeap_old (Nat.ne_of_lt hb) (by rw [size_push']; exact Nat.lt_succ_of_lt hb)]
  exact Heap.get?_push_of_some _ e
/-- len(set(t)), t a tuple of ints that differ -/
theorem pe_lenSetT {a : Expr} {ta : TE} {p p2 q pos : Pos} (hg : Gl X "len") (hm : X.mg "len" = none) (hg2 : Gl X "set") (hm2 : X.mg "set" = none) (ha : PE X a ta) (hc : X.calm = true := by rfl)
    (na : starEach [a] X.env = (false, eval a X.env) :: starEach [] X.env := by rfl) : PE X (.Call (.Name "len" p) [.Call (.Name "set" p2) [a] [] q] [] pos)
      (fun σ H Q => ta σ H fun x H1 => ∃ (t : Addr) (ns : List Int), x = .ref t ∧ SqT X.K H1 t (iv ns) ∧ ns.Nodup ∧ ns.length ≤ 1000 ∧ Q (.int (ns.length : Nat)) H1) := by
  refine ⟨fun pins s σ H Q I h => Call_ (ld_blt I hg hm boot_len (callWith_builtin1 (args_cons (Call_ (ld_blt I hg2 hm2 boot_set (callWith_type1 (args_cons
    (thn (ha.run pins s σ H _ I h) fun v s1 ⟨x, H1, I1, r1, q1⟩ => args_nil ?_) na) na rfl))) rfl) rfl rfl))⟩
  obtain ⟨t, ns, ex, hT, nd, hl, q1⟩ := q1
  subst ex
  cases r1
  obtain ⟨its, rv, ht, _⟩ := I1.tuple hT
  have hi : IntsAre its.toArray.toList ns := rv.ints
  refine call_set_tupI ns (I1.ok.hd hc) (show s1.heap.IsTuple t its.toArray from ht) hi (by unfold scanBound; omega) fun h' tk c hR hcn hk => args_nil ?_
  obtain ⟨o, es, ep, tb, ho, hex, hd, g, ndk, hmem, hb, hf, hn, _⟩ := hR
  have I2 : Inv X pins σ H1 { s1 with heap := h', toks := tk } := I1.kept hk
  have pm : (es.toList.map keyOf).Perm ns := (List.perm_ext_iff_of_nodup ndk nd).mpr fun j => by
    have z := hmem j
    exact ⟨fun hj => of_decide_eq_true (z.mpr hj), fun hj => z.mp (decide_eq_true hj)⟩
  have en : es.size = ns.length := by
    have z := pm.length_eq
    rw [List.length_map, Array.length_toList] at z
    exact z
  exact call_len_set ho hex hd hf (by rw [en]; omega) ⟨.int ns.length, H1, I2.tok _, ⟨_, by rw [en]⟩, q1⟩
end
/-! ### pairs: enumerate(t), zip(t, l) -/
/-- n turns, each with a new pair that f tells; G: what stands all the while -/
def Jp (n : Nat) (f : Nat → V × V) (G : Hp → Prop) : It :=
  ⟨fun i H => i < n ∧ G H, fun i H v H' => ∃ T, v = .ref T ∧ H T = none ∧ H' = upd H T (.tup [(f i).1, (f i).2]), fun i H => i = n ∧ G H⟩
def Yp (f : Nat → V × V) : Nat → Hp → V → Hp → Prop := fun i H v H' => ∃ T, v = .ref T ∧ H T = none ∧ H' = upd H T (.tup [(f i).1, (f i).2])
theorem walk_p {n : Nat} {f : Nat → V × V} {G : Hp → Prop} : Walk (Jp n f G) n G (Yp f) :=
  ⟨fun _ _ hi g => ⟨hi, g⟩, fun _ g => ⟨rfl, g⟩, fun _ _ _ _ _ _ y => y⟩
/-- what the library tells of an iterator of pairs (WalksT), as a turn of the layer -/
theorem turn_p {P : Program} {w : World} {K : PySem.W.Frag} {elts : List Expr} {kk : Nat} {tpos : Pos} {n : Nat} {f : Nat → V × V} {G : Hp → Prop} {e : Addr} {fp : List Addr} {own : Nat → Heap → Prop}
    (mem : e ∈ fp) (obj : ∀ i h, own i h → ∀ b ∈ fp, ∃ o, h.get? b = some o ∧ ∀ v, o.data ≠ .cell v) (keep : ∀ i h h', own i h → (∀ b ∈ fp, ∀ o, h.get? b = some o → h'.get? b = some o) → own i h')
    (self : ∀ (A : Around) (i : Nat) (s : Shared) (Q : Value → Shared → Prop) (E : Value → Shared → Prop), own i s.heap → Q (.ref e) s → wpAny (model P w) A (pyIter (.ref e)) Q E s)
    (W : ∀ (X : Cx), X.prog = P → X.w = w → X.K = K → X.calm = true → ∀ (pins : List (Addr × Obj)) (s : Shared) (σ : L2.St) (H : Hp), Inv X pins σ H s → G H →
      ∃ (fpw wr : List Addr) (Pt : Nat → Array Value → Prop) (St : Nat → Heap → Prop) (Mid : Nat → Addr → Heap → Prop), WalksT P w X.A e fpw wr n Pt St Mid ∧ (∀ b ∈ wr, b ∈ fp) ∧ (∀ i, own i s.heap → St i s.heap) ∧
        (∀ i h, St i h → own i h) ∧ ∀ i vals, Pt i vals → ∃ u v, vals = #[u, v] ∧ RelV (f i).1 u ∧ RelV (f i).2 v) :
    Turn P w K (.Tuple elts kk tpos) (Jp n f G) fp e own where
  mem := mem
  obj := obj
  keep := keep
  item := by
    intro X hP hw hK hc i pins s σ H E I hf st hg
    obtain ⟨hi, hG⟩ := hg
    obtain ⟨fpw, wr, Pt, St, Mid, WT, sub, toS, ofS, val⟩ := W X hP hw hK hc pins s σ H I hG
    refine WT.item i s _ _ hi (toS i st) fun T vals h1 tk hv hT hTup hM k1 => ⟨_, rfl, ?_⟩
    refine WT.go elts kk tpos i T { s with heap := h1, toks := tk } _ _ hM fun h2 st2 k2 => ?_
    obtain ⟨u, v, ev, ru, rv⟩ := val i vals hv
    have hTw := WT.apart i T h1 hM
    obtain ⟨o, ho, hcl, m, hd⟩ := hTup
    have new : ObjOk X.prog X.w (upd H T (.tup [(f i).1, (f i).2])) h2 T (.tup [(f i).1, (f i).2]) :=
      ⟨sz (by show 2 ≤ 100000; omega), [u, v], .cons ru (.cons rv .nil), o, k2 T o hTw ho, hcl, m, by rw [hd, ev]⟩
    have I1 := I.turnedNew (h' := h2) (t' := tk) (ch := wr) (fun b o hb q => k2 b o hb (k1 b o hb q)) (fun b hb => hf b (sub b hb)) hT new
    refine ⟨.ref T, _, I1, rfl, ⟨T, rfl, I.hok.fresh hT, rfl⟩, ofS _ _ st2, fun b hb => ?_⟩
    obtain ⟨ob, hob, _⟩ := obj i _ st b hb
    rw [upd_ne (Nat.ne_of_lt (Nat.lt_of_lt_of_le (Heap.lt_size hob) hT))]
    exact (hf b hb).1
  done := by
    intro X hP hw hK hc i pins s σ H E I hf st hg
    obtain ⟨hi, hG⟩ := hg
    subst hi
    obtain ⟨fpw, wr, Pt, St, Mid, WT, sub, toS, ofS, val⟩ := W X hP hw hK hc pins s σ H I hG
    refine WT.done s _ _ (toS _ st) fun h1 tk k1 => ⟨rfl, ?_⟩
    exact I.turnedL (fun b o hb q => k1 b o hb q) fun b hb => hf b (sub b hb)
  self := self
/-- enumerate(v) of one argument, v told by how its iterator begins -/
theorem meets_enT {v : Value} {o : Obj} {S : Heap → Prop} (B : Begins v o S) :
    Meets (Builtin.«enumerate.__new__» ⟨[.type "enumerate", v], []⟩) (fun _ R s => S s.heap ∧
      R (.ok (.ret (.ref (s.heap.push o).objs.size))) { s with heap := (s.heap.push o).push { cls := .type "enumerate", data := .fields #[.none, .bool false, .ref s.heap.objs.size, rawInt 0, .none, .none] } }) :=
  .of_wp fun prog w A R s h => by
    obtain ⟨hp, g, d, tk, os⟩ := s
    obtain ⟨hS, h⟩ := h
    have hsub := sub_enumerate
    have begin_ : ∀ {A' : Around} {E : Value → Shared → Prop} {Q : Value → Shared → Prop}, Q (.ref hp.objs.size) ⟨hp.push o, g, d, tk, os⟩ → wpAny (model prog w) A' (pyIter v) Q E ⟨hp, g, d, tk, os⟩ :=
      fun q => B.iter prog w _ _ ⟨hp, g, d, tk, os⟩ _ hS q
    wp_walk using begin_
    refine wpAny_stack_any fun st => wpAny_pure ?_
    split
    · rename_i c _ _ _ _ _
      cases (c == Value.type "enumerate") <;> (wp_walk using begin_; exact ⟨_, rfl, h⟩)
    · wp_walk using begin_
      exact ⟨_, rfl, h⟩
theorem call_enumerateT {prog : Program} {w : World} {A : Around} {E : Value → Shared → Prop} {s : Shared} {t : Addr} {items : Array Value} {Q : Value → Shared → Prop} (hT : s.heap.IsTuple t items)
    (h : ∀ h', IsEnum h' (s.heap.objs.size + 1) s.heap.objs.size 0 .none → h'.IsTupleIter s.heap.objs.size t 0 → (∀ b o, s.heap.get? b = some o → h'.get? b = some o) → Q (.ref (s.heap.objs.size + 1)) { s with heap := h' }) :
    wpAny (model prog w) A (call (.type "enumerate") [.ref t]) Q E s := by
  refine callType_new F.called_enumerate (by decide) (F.typeCall_enumerate_1 _) (F.newCall_enumerate_1 _) (fun obj => F.args_object_init_2 obj _) F.entry_enumerate_new (meets_enT (begins_tuple t items)) ⟨hT, ?_⟩
  generalize ho : ({ cls := .type "tuple_iterator", data := .fields #[.ref t, .int 0 0] } : Obj) = o
  generalize hu : ({ cls := .type "enumerate", data := .fields #[.none, .bool false, .ref s.heap.objs.size, rawInt 0, .none, .none] } : Obj) = u
  have z : (s.heap.push o).objs.size = s.heap.objs.size + 1 := Heap.size_push ..
  have e1 : ((s.heap.push o).push u).get? (s.heap.objs.size + 1) = some u := by
    rw [← z]
    exact Heap.get?_push_size _ (by rw [← hu]; rfl)
  have e2 : ((s.heap.push o).push u).get? s.heap.objs.size = some o := Heap.get?_push_of_some _ (Heap.get?_push_size _ (by rw [← ho]; rfl))
  show _ ∧ _
  rw [z]
  subst ho hu
  exact ⟨⟨_, e1, rfl⟩, h _ e1 ⟨_, e2, rfl, rfl⟩ fun b o x => Heap.get?_push_of_some _ (Heap.get?_push_of_some _ x)⟩
theorem notin2 (N a : Nat) (h : a < N) : N + 1 ∉ [N, a] := by
  intro z
  have z2 : N + 1 = N ∨ N + 1 = a := by simpa using z
  omega
section
variable {X : Cx}
/-- the pairs of enumerate -/
def fEn (xs : List V) (i : Nat) : V × V := (.int (i : Nat), xs.getD i .non)
/-- enumerate(t), t a tuple -/
theorem pi_enumT {e : Expr} {ta : TA} {p pos tpos : Pos} {elts : List Expr} {kk : Nat} (hg : Gl X "enumerate") (hm : X.mg "enumerate" = none) (ha : PA X [e] ta) (hs : starEach [e] X.env = [(false, eval e X.env)] := by rfl) :
    PI X (.Tuple elts kk tpos) (.Call (.Name "enumerate" p) [e] [] pos)
      (fun σ H R => ta σ H fun vs H1 => ∃ (a : Addr) (xs : List V), vs = [.ref a] ∧ SqT X.K H1 a xs ∧ R (Jp xs.length (fEn xs) fun H => SqT X.K H a xs) H1) := by
  refine ⟨fun pins s σ H R I h => Call_ (ld_blt I hg hm boot_enumerate (callWith_type1 (thn (ha.run pos pins s σ H _ I h) fun us s1 ⟨vs, H1, I1, r1, q1⟩ => ?_) hs rfl))⟩
  obtain ⟨a, xs, ev, hT, q⟩ := q1
  subst ev
  rw [Vals.ref1 r1]
  obtain ⟨its, rv, ht, _⟩ := I1.tuple hT
  have ht : s1.heap.IsTuple a its.toArray := ht
  have hal : a < s1.heap.objs.size := by obtain ⟨o, ho, _⟩ := ht; exact Heap.lt_size ho
  have hlen := rv.length
  refine call_enumerateT ht fun h' he hit hk => wpAny_pyIter_enum he ?_
  generalize hN : s1.heap.objs.size = N at *
  have I2 : Inv X pins σ H1 { s1 with heap := h', toks := s1.toks } := I1.kept hk
  have n1 : (N + 1 : Nat) ≠ N := by omega
  have n2 : a ≠ N := Nat.ne_of_lt hal
  have n3 : N + 1 ∉ [N, a] := notin2 N a hal
  have he0 : IsEnum h' (N + 1) N (0 + ((0 : Nat) : Int)) .none := by
    rw [show (0 : Int) + ((0 : Nat) : Int) = 0 from rfl]
    exact he
  refine ⟨N + 1, [N + 1, N], fun i h => (∃ old, IsEnum h (N + 1) N (0 + ((i : Nat) : Int)) old) ∧ h.IsTupleIter N a i, _, H1, rfl, I2,
    turn_p (by simp) (fun i h st b hb => ?_) (fun i h h' st k => ⟨?_, st.2.at fun o q => k N (by simp) o q⟩) (fun A i s Q E st q => ?_) (fun Y hP hw hK hc pins s σ H I hG => ?_), ⟨⟨_, he0⟩, hit⟩, fun b hb => ?_, q⟩
  · obtain ⟨⟨old, q1⟩, o, q2, _, q3⟩ := st
    have z : b = N + 1 ∨ b = N := by simpa using hb
    rcases z with z | z
    · rw [z]; exact ⟨_, q1, fun v q => nomatch q⟩
    · rw [z]; exact ⟨o, q2, fun v q => by rw [q3] at q; cases q⟩
  · obtain ⟨⟨old, q1⟩, _⟩ := st
    exact ⟨old, k (N + 1) (by simp) _ q1⟩
  · obtain ⟨⟨old, q1⟩, _⟩ := st
    exact wpAny_pyIter_enum q1 q
  · rw [← hK] at hG
    rw [← hP, ← hw]
    obtain ⟨jts, rj, tj, _⟩ := I.tuple hG
    have tj : s.heap.IsTuple a jts.toArray := tj
    have hl2 := rj.length
    have W := WalksT.enumFrom (prog := Y.prog) (w := Y.w) (A := Y.A) 0 (Draws.tuple (A := Y.A.in1) (I.ok.hd hc) N a n2 jts.toArray) (N + 1) n1 n3 (by simp)
    rw [show jts.toArray.size = xs.length by rw [List.size_toArray, hl2]] at W
    refine ⟨_, _, _, _, _, W, fun b hb => hb, fun i st => ⟨st.1, st.2, tj⟩, fun i h st => ⟨st.1, st.2.1⟩, fun i vals hv => ?_⟩
    obtain ⟨t, x, hx, rfl⟩ := hv
    have hx : jts[i]? = some x := by simpa using hx
    refine ⟨_, _, rfl, ⟨t, by rw [Int.zero_add]⟩, ?_⟩
    have hi : i < xs.length := by rw [hl2]; exact (List.getElem?_eq_some_iff.mp hx).1
    obtain ⟨u, hu, ru⟩ := rj.get (List.getElem?_eq_getElem hi)
    rw [hx] at hu
    cases hu
    show RelV (xs.getD i .non) x
    rw [List.getD_eq_getElem?_getD, List.getElem?_eq_getElem hi]
    exact ru
  · have z : b = N + 1 ∨ b = N := by simpa using hb
    have hle : s1.heap.objs.size ≤ b := by
      rw [hN]
      rcases z with z | z
      · rw [z]; exact Nat.le_succ N
      · rw [z]; exact Nat.le_refl N
    exact I1.fpOk hle (I1.hok.fresh hle)
/-- the pairs of zip -/
def fZp (xs ys : List V) (i : Nat) : V × V := (xs.getD i .non, ys.getD i .non)
theorem rel_at {xs : List V} {its : List Value} {i : Nat} {u : Value} (r : Vals xs its) (h : its.toArray[i]? = some u) : RelV (xs.getD i .non) u := by
  have h : its[i]? = some u := by simpa using h
  have hi : i < xs.length := by
    rw [r.length]
    exact (List.getElem?_eq_some_iff.mp h).1
  obtain ⟨u2, h2, r2⟩ := r.get (List.getElem?_eq_getElem hi)
  rw [h] at h2
  cases h2
  rw [List.getD_eq_getElem?_getD, List.getElem?_eq_getElem hi]
  exact r2
theorem five {N b : Nat} (h : b ∈ [N + 4, N + 2, N + 3, N, N + 1]) : N ≤ b ∧ (b = N + 4 ∨ b = N + 2 ∨ b = N + 3 ∨ b = N ∨ b = N + 1) := by
  have z : b = N + 4 ∨ b = N + 2 ∨ b = N + 3 ∨ b = N ∨ b = N + 1 := by simpa using h
  exact ⟨by omega, z⟩
theorem four {z TI TO i1 i2 c : Nat} (h : c ∈ [z, TO, i1, i2]) : c ∈ [z, TI, TO, i1, i2] := by
  simp only [List.mem_cons, List.not_mem_nil, or_false] at *
  omega
theorem lt1 {N a : Nat} (h : a < N) : ∀ b ∈ [a], b < N := fun b hb => by
  have e : b = a := by simpa using hb
  omega
theorem ne1 {N a : Nat} (h : a < N) : a ≠ N + 1 := by omega
/-- zip(t, l), t a tuple, l a list -/
theorem pi_zipTL {e e2 : Expr} {ta : TA} {p pos tpos : Pos} {elts : List Expr} {kk : Nat} (hg : Gl X "zip") (hm : X.mg "zip" = none) (ha : PA X [e, e2] ta)
    (hs : starEach [e, e2] X.env = (false, eval e X.env) :: starEach [e2] X.env := by rfl) (hpl : (backTo pos (starEach [e2] X.env)).any (·.1) = false := by rfl) :
    PI X (.Tuple elts kk tpos) (.Call (.Name "zip" p) [e, e2] [] pos)
      (fun σ H R => ta σ H fun vs H1 => ∃ (a b : Addr) (xs ys : List V), vs = [.ref a, .ref b] ∧ SqT X.K H1 a xs ∧ SqL X.K H1 b ys ∧ R (Jp (min xs.length ys.length) (fZp xs ys) fun H => SqT X.K H a xs ∧ SqL X.K H b ys) H1) := by
  refine ⟨fun pins s σ H R I h => Call_ (ld_blt I hg hm boot_zip (callWith_type1 (thn (ha.run pos pins s σ H _ I h) fun us s1 ⟨vs, H1, I1, r1, q1⟩ => ?_) hs hpl))⟩
  obtain ⟨a, b, xs, ys, ev, hT, hL, q⟩ := q1
  subst ev
  obtain ⟨u1, u2, rfl, ra, rb⟩ := vals2 r1
  cases ra
  cases rb
  obtain ⟨its, rv, ht, _⟩ := I1.tuple hT
  obtain ⟨its2, rv2, hl, _⟩ := I1.list hL
  have ht : s1.heap.IsTuple a its.toArray := ht
  have hl : s1.heap.IsList b its2.toArray := hl.isList
  have hal : a < s1.heap.objs.size := by obtain ⟨o, ho, _⟩ := ht; exact Heap.lt_size ho
  have hbl : b < s1.heap.objs.size := by obtain ⟨o, ho, _⟩ := hl; exact Heap.lt_size ho
  refine zip_begins2 (begins_tuple a its.toArray) (begins_list b its2.toArray) ht hl fun h' hz hTI hTO g1 g2 hsz hk => wpAny_pyIter_zip hz ?_
  have I2 : Inv X pins σ H1 { s1 with heap := h', toks := s1.toks } := I1.kept hk
  have hfresh : ∀ c, s1.heap.objs.size ≤ c → FpOk X pins H1 c := fun c hle => I1.fpOk hle (I1.hok.fresh hle)
  generalize hN : s1.heap.objs.size = N at *
  have n1 : a ≠ N := Nat.ne_of_lt hal
  have n2 : b ≠ N + 1 := ne1 hbl
  have S : ZipSep2 (N + 4) (N + 2) (N + 3) N (N + 1) [N, a] [N + 1, b] := zip_sep2 (lt1 hal) (lt1 hbl)
  refine ⟨N + 4, [N + 4, N + 2, N + 3, N, N + 1], fun i h => IsZip h (N + 4) (N + 2) (N + 3) .none ∧ IsTupOf2 h (N + 2) (.ref N) (.ref (N + 1)) ∧ (∃ a1 a2, IsTupOf2 h (N + 3) a1 a2) ∧ h.IsTupleIter N a i ∧ h.IsListIter (N + 1) b i, _, H1, rfl, I2,
    turn_p (by simp) (fun i h st c hc => ?_) (fun i h h' st k => ?_) (fun A i s Q E st q => wpAny_pyIter_zip st.1 q) (fun Y hP hw hK hc pins s σ H I hG => ?_), ⟨hz, hTI, ⟨_, _, hTO⟩, ⟨_, g1, rfl, rfl⟩, ⟨_, g2, rfl, rfl⟩⟩, fun c hc => hfresh c (five hc).1, q⟩
  · obtain ⟨q1, q2, ⟨a1, a2, q3⟩, ⟨o4, q4, _, d4⟩, o5, q5, _, d5⟩ := st
    rcases (five hc).2 with z | z | z | z | z
    · rw [z]; exact ⟨_, q1, fun v q => nomatch q⟩
    · rw [z]; exact ⟨_, q2, fun v q => nomatch q⟩
    · rw [z]; exact ⟨_, q3, fun v q => nomatch q⟩
    · rw [z]; exact ⟨o4, q4, fun v q => by rw [d4] at q; cases q⟩
    · rw [z]; exact ⟨o5, q5, fun v q => by rw [d5] at q; cases q⟩
  · obtain ⟨q1, q2, ⟨a1, a2, q3⟩, q4, q5⟩ := st
    exact ⟨k _ (by simp) _ q1, k _ (by simp) _ q2, ⟨a1, a2, k _ (by simp) _ q3⟩, q4.at fun o q => k N (by simp) o q, q5.at fun o q => k (N + 1) (by simp) o q⟩
  · rw [← hK] at hG
    rw [← hP, ← hw]
    obtain ⟨hG1, hG2⟩ := hG
    obtain ⟨jts, rj, tj, _⟩ := I.tuple hG1
    obtain ⟨jts2, rj2, tj2, _⟩ := I.list hG2
    have tj : s.heap.IsTuple a jts.toArray := tj
    have tj2 : s.heap.IsList b jts2.toArray := tj2.isList
    have W := WalksT.zipD2 (prog := Y.prog) (w := Y.w) (A := Y.A) S (Draws.tuple (A := Y.A.in1) (I.ok.hd hc) N a n1 jts.toArray) (Draws.list (A := Y.A.in1) (I.ok.hd hc) (N + 1) b n2 jts2.toArray)
    rw [show jts.toArray.size = xs.length by rw [List.size_toArray, rj.length], show jts2.toArray.size = ys.length by rw [List.size_toArray, rj2.length]] at W
    refine ⟨_, _, _, _, _, W, fun c hc => four hc, fun i st => ⟨st.1, st.2.1, st.2.2.1, ⟨st.2.2.2.1, tj⟩, ⟨st.2.2.2.2, tj2⟩⟩, fun i h st => ⟨st.1, st.2.1, st.2.2.1, st.2.2.2.1.1, st.2.2.2.2.1⟩, fun i vals hv => ?_⟩
    obtain ⟨x, y, hx, hy, rfl⟩ := hv
    exact ⟨x, y, rfl, rel_at rj hx, rel_at rj2 hy⟩
end
end Kd
set_option Elab.async false
set_option linter.all false
set_option maxRecDepth 100000
set_option maxHeartbeats 4000000
/-! jobs.py: the looks at arguments. -/
namespace Kd
open PySem PySem.Spec PyProof.Rows L2
section
variable {P : Program} {w : World} {K : PySem.W.Frag} {mg : Str → Option Value} {base : Heap}
theorem scFirst : FnScope ["value", "many", "low", "high", "index", "item"] ["value", "many", "low", "high"] (defScope sFirst) := ⟨rfl, rfl, rfl, by decide +kernel, rfl, by decide +kernel, by decide +kernel⟩
def spFirst : Sp := fun vs H Q _ => ∃ (t : Addr) (ns : List Int) (m a b : Int), vs = [.ref t, .int m, .int a, .int b] ∧ H t = some (.tup (iv ns)) ∧ m = (ns.length : Nat) ∧ (∀ x ∈ ns, a ≤ x ∧ x ≤ b) ∧ ∀ H', Same H H' → Q (.int (-1)) H'
theorem ok_first {f g l i : Addr} {fd gd ld id : FuncData} (D : Df K mg "first_bad" sFirst ["value", "many", "low", "high"] f fd) (G : Df K mg "is_in" sIsIn ["value", "least", "most"] g gd)
    (L : Df K mg "is_list" sIsList ["value", "least", "most"] l ld) (J : Df K mg "is_integer" sIsInt ["value"] i id) (B : Bl mg) : FnOk P w K mg base CX0 3 f fd ["value", "many", "low", "high"] spFirst := by
  have GG : FnOk P w K mg base CX0 2 g gd ["value", "least", "most"] spIsIn := ok_isIn G J B
  have GL : FnOk P w K mg base CX0 1 l ld ["value", "least", "most"] spIsList := ok_isList L B
  refine D.F.ok scFirst (fun vs H Q E h => ?_) (fun cdv A outer s H vs Q E hr h => ?_)
  · obtain ⟨t, ns, m, a, b, rfl, _⟩ := h
    rfl
  · obtain ⟨t, ns, m, a, b, rfl, ht, hm, hall, q⟩ := h
    have hr1 : Room 1 _ := hr.mono (by decide)
    refine ⟨_, pss_cons (ps_if (pt_not (pt_val (pe_call GL hr1 (by rfl) L.gm L.F.kp L.b .nil pass0 (pa_cons (pv 0) (pa_cons (pv 1) (pa_cons (pv 1) pa_nil)))))) (pss_one ps_never) pss_nil)
      (pss_cons (ps_for PassesOwn.never rfl (pi_enumT (by rfl) B.enum (pa_cons (pv 0) pa_nil)) (pg_tup rfl (pgs_cons (pg_name (i := 4) scFirst.nd rfl (.inl rfl)) (pgs_cons (pg_name (i := 5) scFirst.nd rfl (.inl rfl)) pgs_nil)))
        (pss_one (ps_if (pt_not (pt_val (pe_call GG hr (by rfl) G.gm G.F.kp G.b .nil pass0 (pa_cons (pv 5) (pa_cons (pv 2) (pa_cons (pv 3) pa_nil)))))) (pss_one ps_never) pss_nil)))
      (pss_one (ps_ret (pe_un un_neg pe_int)))), ?_⟩
    refine ⟨.ref t, rfl, .int m, rfl, .int m, rfl, t, iv ns, m, m, rfl, ht, by rw [iv_len]; omega, by rw [iv_len]; omega, true, rfl, iteF ?_⟩
    refine ⟨.ref t, rfl, t, iv ns, rfl, sqt ht, for_it walk_p (fun i σ H' => ∃ y4 y5, σ = [some (.ref t), some (.int m), some (.int a), some (.int b), y4, y5] ∧ Same H H') ⟨none, none, rfl, Same.refl H⟩
      (fun i σ H' _ ⟨_, _, _, sm⟩ => Same.sqt sm (sqt ht)) (fun i x σ H1 H2 hi hP hY => ?_) (fun σ H1 hP => ?_)⟩
    · obtain ⟨y4, y5, rfl, sm⟩ := hP
      obtain ⟨T, rfl, nT, rfl⟩ := hY
      have hi2 : i < ns.length := by rw [iv_len] at hi; exact hi
      have ex : (iv ns).getD i .non = .int ns[i] := by
        rw [List.getD_eq_getElem?_getD, iv_at (List.getElem?_eq_getElem hi2)]
        rfl
      obtain ⟨b1, b2⟩ := hall ns[i] (List.getElem_mem hi2)
      refine ⟨T, _, rfl, sqt upd_same, rfl, _, _, rfl, _, [], rfl, rfl, ?_⟩
      refine ⟨.int ns[i], congrArg (fun z => some (some z)) ex, .int a, rfl, .int b, rfl, ns[i], a, b, rfl, b1, b2, true, rfl, iteF ?_⟩
      exact ⟨_, _, rfl, same_put sm (sm.free nT)⟩
    · obtain ⟨y4, y5, rfl, sm⟩ := hP
      exact ⟨1, rfl, q H1 sm⟩
theorem scNeedT : FnScope ["times", "index"] ["times"] (defScope sNeedT) := ⟨rfl, rfl, rfl, by decide +kernel, rfl, by decide +kernel, by decide +kernel⟩
def spNeedT : Sp := fun vs H Q _ => ∃ (t : Addr) (ns : List Int), vs = [.ref t] ∧ H t = some (.tup (iv ns)) ∧ 1 ≤ ns.length ∧ ns.length ≤ 10 ∧ (∀ x ∈ ns, 1 ≤ x ∧ x ≤ 60) ∧ ∀ H', Same H H' → Q .non H'
/-- the looks below -/
structure Lk (K : PySem.W.Frag) (mg : Str → Option Value) where
  f : Addr
  fd : FuncData
  F : Df K mg "first_bad" sFirst ["value", "many", "low", "high"] f fd
  g : Addr
  gd : FuncData
  G : Df K mg "is_in" sIsIn ["value", "least", "most"] g gd
  l : Addr
  ld : FuncData
  L : Df K mg "is_list" sIsList ["value", "least", "most"] l ld
  i : Addr
  id : FuncData
  I : Df K mg "is_integer" sIsInt ["value"] i id
  B : Bl mg
  C : Cn mg
theorem ok_needT {f : Addr} {fd : FuncData} (D : Df K mg "need_times" sNeedT ["times"] f fd) (Z : Lk K mg) : FnOk P w K mg base CX0 4 f fd ["times"] spNeedT := by
  have GF : FnOk P w K mg base CX0 3 Z.f Z.fd ["value", "many", "low", "high"] spFirst := ok_first Z.F Z.G Z.L Z.I Z.B
  have GL : FnOk P w K mg base CX0 1 Z.l Z.ld ["value", "least", "most"] spIsList := ok_isList Z.L Z.B
  obtain ⟨tj, hj⟩ := Z.C.jobs
  obtain ⟨tt, htm⟩ := Z.C.time
  refine D.F.ok scNeedT (fun vs H Q E h => ?_) (fun cdv A outer s H vs Q E hr h => ?_)
  · obtain ⟨t, ns, rfl, _⟩ := h
    rfl
  · obtain ⟨t, ns, rfl, ht, h1, h10, hall, q⟩ := h
    have hr1 : Room 1 _ := hr.mono (by decide)
    refine ⟨_, pss_cons (ps_if (pt_not (pt_val (pe_call GL hr1 (by rfl) Z.L.gm Z.L.F.kp Z.L.b .nil pass0 (pa_cons (pv 0) (pa_cons pe_int (pa_cons (pe_glob (v := .int 10) rfl hj ⟨_, rfl⟩) pa_nil)))))) (pss_one ps_never) pss_nil)
      (pss_cons (ps_set (i := 1) scNeedT.nd rfl (.inl rfl) (pe_call GF hr (by rfl) Z.F.gm Z.F.F.kp Z.F.b .nil pass0 (pa_cons (pv 0) (pa_cons (pe_callB call_len_seq (by rfl) Z.B.len PySem.boot_len (pa_cons (pv 0) pa_nil)) (pa_cons pe_int (pa_cons (pe_glob (v := .int 60) rfl htm ⟨_, rfl⟩) pa_nil))))))
      (pss_one (ps_if (pt_cmpR op_ne (pv 1) (pe_un un_neg pe_int) (nomark _)) (pss_one ps_never) pss_nil))), ?_⟩
    refine ⟨.ref t, rfl, t, iv ns, _, _, rfl, ht, by rw [iv_len]; omega, by rw [iv_len]; omega, true, rfl, iteF ?_⟩
    refine ⟨.ref t, rfl, .ref t, rfl, t, _, rfl, .inr (sqt ht), t, ns, _, _, _, rfl, ht, by rw [iv_len], hall, fun H1 sm => ?_⟩
    refine ⟨_, rfl, 1, rfl, rfl, _, rfl, iteNS rfl ?_⟩
    exact q H1 sm
theorem scNeedW : FnScope ["weights", "many", "index"] ["weights", "many"] (defScope sNeedW) := ⟨rfl, rfl, rfl, by decide +kernel, rfl, by decide +kernel, by decide +kernel⟩
def spNeedW : Sp := fun vs H Q _ => ∃ (t : Addr) (ns : List Int) (m : Int), vs = [.ref t, .int m] ∧ H t = some (.tup (iv ns)) ∧ m = (ns.length : Nat) ∧ (∀ x ∈ ns, 0 ≤ x ∧ x ≤ 60) ∧ ∀ H', Same H H' → Q .non H'
theorem ok_needW {f : Addr} {fd : FuncData} (D : Df K mg "need_weights" sNeedW ["weights", "many"] f fd) (Z : Lk K mg) : FnOk P w K mg base CX0 4 f fd ["weights", "many"] spNeedW := by
  have GF : FnOk P w K mg base CX0 3 Z.f Z.fd ["value", "many", "low", "high"] spFirst := ok_first Z.F Z.G Z.L Z.I Z.B
  obtain ⟨tt, htm⟩ := Z.C.weight
  refine D.F.ok scNeedW (fun vs H Q E h => ?_) (fun cdv A outer s H vs Q E hr h => ?_)
  · obtain ⟨t, ns, m, rfl, _⟩ := h
    rfl
  · obtain ⟨t, ns, m, rfl, ht, hm, hall, q⟩ := h
    refine ⟨_, pss_cons (ps_set (i := 2) scNeedW.nd rfl (.inl rfl) (pe_call GF hr (by rfl) Z.F.gm Z.F.F.kp Z.F.b .nil pass0 (pa_cons (pv 0) (pa_cons (pv 1) (pa_cons pe_int (pa_cons (pe_glob (v := .int 60) rfl htm ⟨_, rfl⟩) pa_nil))))))
      (pss_one (ps_if (pt_cmpR op_ne (pv 2) (pe_un un_neg pe_int) (nomark _)) (pss_one ps_never) pss_nil)), ?_⟩
    refine ⟨.ref t, rfl, .int m, rfl, t, ns, m, _, _, rfl, ht, hm, hall, fun H1 sm => ?_⟩
    refine ⟨_, rfl, 1, rfl, rfl, _, rfl, iteNS rfl ?_⟩
    exact q H1 sm
theorem scNeedX : FnScope ["times", "weights"] ["times", "weights"] (defScope sNeedX) := ⟨rfl, rfl, rfl, by decide +kernel, rfl, by decide +kernel, by decide +kernel⟩
def spNeedX : Sp := fun vs H Q _ => ∃ (t u : Addr) (ts ws : List Int), vs = [.ref t, .ref u] ∧ H t = some (.tup (iv ts)) ∧ H u = some (.tup (iv ws)) ∧ Jb ts ws ∧ ∀ H', Same H H' → Q .non H'
theorem ok_needX {f g h : Addr} {fd gd hd : FuncData} (D : Df K mg "need_weighed" sNeedX ["times", "weights"] f fd) (GT : Df K mg "need_times" sNeedT ["times"] g gd) (GW : Df K mg "need_weights" sNeedW ["weights", "many"] h hd)
    (Z : Lk K mg) : FnOk P w K mg base CX0 5 f fd ["times", "weights"] spNeedX := by
  have OT : FnOk P w K mg base CX0 4 g gd ["times"] spNeedT := ok_needT GT Z
  have OW : FnOk P w K mg base CX0 4 h hd ["weights", "many"] spNeedW := ok_needW GW Z
  refine D.F.ok scNeedX (fun vs H Q E h => ?_) (fun cdv A outer s H vs Q E hr h => ?_)
  · obtain ⟨t, u, ts, ws, rfl, _⟩ := h
    rfl
  · obtain ⟨t, u, ts, ws, rfl, ht, hu, j, q⟩ := h
    refine ⟨_, pss_cons (ps_expr (pe_call OT hr (by rfl) GT.gm GT.F.kp GT.b .nil pass0 (pa_cons (pv 0) pa_nil)))
      (pss_one (ps_expr (pe_call OW hr (by rfl) GW.gm GW.F.kp GW.b .nil pass0 (pa_cons (pv 1) (pa_cons (pe_callB call_len_seq (by rfl) Z.B.len PySem.boot_len (pa_cons (pv 0) pa_nil)) pa_nil))))), ?_⟩
    refine ⟨.ref t, rfl, t, ts, rfl, ht, j.pos, j.most, j.t, fun H1 s1 => ?_⟩
    refine ⟨.ref u, rfl, .ref t, rfl, t, _, rfl, .inr (sqt (s1 _ _ ht)), u, ws, _, rfl, s1 _ _ hu, by rw [iv_len, j.len], j.w, fun H2 s2 => q H2 (s1.trans s2)⟩
end
end Kd
set_option Elab.async false
set_option linter.all false
set_option maxRecDepth 100000
set_option maxHeartbeats 4000000
/-! Orders looked at; ends and sums. -/
namespace Kd
open PySem PySem.Spec PyProof.Rows L2
section
variable {P : Program} {w : World} {K : PySem.W.Frag} {mg : Str → Option Value} {base : Heap}
theorem scIsOrd : FnScope ["value", "many", "job"] ["value", "many"] (defScope sIsOrd) := ⟨rfl, rfl, rfl, by decide +kernel, rfl, by decide +kernel, by decide +kernel⟩
def spIsOrd : Sp := fun vs H Q _ => ∃ (t : Addr) (o : List Nat) (n : Nat), vs = [.ref t, .int (n : Nat)] ∧ H t = some (.tup (iv (zs o))) ∧ o.Perm (List.range n) ∧ n ≤ 1000 ∧ ∀ H', Same H H' → Q (.bl true) H'
theorem ok_isOrd {f : Addr} {fd : FuncData} (D : Df K mg "is_order" sIsOrd ["value", "many"] f fd) (Z : Lk K mg) : FnOk P w K mg base CX0 3 f fd ["value", "many"] spIsOrd := by
  have GG : FnOk P w K mg base CX0 2 Z.g Z.gd ["value", "least", "most"] spIsIn := ok_isIn Z.G Z.I Z.B
  have GL : FnOk P w K mg base CX0 1 Z.l Z.ld ["value", "least", "most"] spIsList := ok_isList Z.L Z.B
  refine D.F.ok scIsOrd (fun vs H Q E h => ?_) (fun cdv A outer s H vs Q E hr h => ?_)
  · obtain ⟨t, o, n, rfl, _⟩ := h
    rfl
  · obtain ⟨t, o, n, rfl, ht, hp, hn, q⟩ := h
    have hr1 : Room 1 _ := hr.mono (by decide)
    have hl : (iv (zs o)).length = n := by rw [iv_len, zs_len, perm_len hp]
    refine ⟨_, pss_one (ps_ret (pe_and (pe_call GL hr1 (by rfl) Z.L.gm Z.L.F.kp Z.L.b .nil pass0 (pa_cons (pv 0) (pa_cons (pv 1) (pa_cons (pv 1) pa_nil))))
      (pe_and (pe_callB (cr_all rfl) (by rfl) Z.B.all (by decide +kernel) (pa_cons (pe_lc (own := [("job", 2)]) (g := gName 2) (tt := tYes) rfl scIsOrd.nd (pi_tup (pv 0)) (blkOk_by (own := [("job", 2)]) (N := ["value", "many", "job"]) (sc := defScope sIsOrd) (by decide +kernel))
          (fun _ _ _ _ _ => pg_name (i := 2) scIsOrd.nd rfl (.inl rfl)) (fun _ _ _ _ _ => pts_nil)
          (fun _ _ _ _ _ => pe_call GG hr (by rfl) Z.G.gm Z.G.F.kp Z.G.b .nil pass0 (pa_cons (pv 2) (pa_cons pe_int (pa_cons (pe_op op_sub (pv 1) pe_int) pa_nil))))) pa_nil))
        (pe_one (pe_cmpR op_eq (pe_lenSetT (by rfl) Z.B.len (by rfl) Z.B.set (pv 0)) (pv 1) (nomark _)))))), ?_⟩
    refine ⟨.ref t, rfl, .int n, rfl, .int n, rfl, t, iv (zs o), n, n, rfl, ht, by rw [hl]; exact Int.le_refl _, by rw [hl]; exact Int.le_refl _, true, rfl, iteT ?_⟩
    refine ⟨.ref t, rfl, t, rfl, ⟨_, sqt ht⟩, fun D nD => lc_it walk_tup (fun i H' => Same H H' ∧ H' D = some (.lst ((List.replicate i true).map V.bl))) ⟨same_new nD, upd_same⟩
      (fun i H' _ ⟨sm, _⟩ => Same.sqt sm (sqt ht)) (fun i x H1 H2 hi hP hY => ?_) (fun H1 hP => ?_)⟩
    · obtain ⟨sm, hD⟩ := hP
      obtain ⟨rfl, hx⟩ := hY
      obtain ⟨j, hj, rfl⟩ := jv_of hx
      have hjn : j < n := perm_lt hp j (List.mem_of_getElem? hj)
      refine ⟨rfl, .int (j : Nat), rfl, .int n, rfl, n, 1, rfl, rfl, (j : Nat), 0, (n : Int) - 1, rfl, by omega, by omega, ?_⟩
      refine ⟨_, hD, ?_, same_put sm nD, ?_⟩
      · rw [List.length_map, List.length_replicate]
        exact sz' (by rw [hl] at hi; omega)
      · rw [upd_same, List.replicate_succ', List.map_append]
        rfl
    · obtain ⟨sm, hD⟩ := hP
      refine ⟨D, _, rfl, sql hD, true, congrArg V.bl ?_, iteT ?_⟩
      · rw [List.all_eq_true]
        intro b hb
        exact (List.mem_replicate.mp hb).2
      · refine ⟨.ref t, rfl, t, zs o, rfl, Same.sqt sm (sqt ht), zs_nodup (perm_nd hp), by rw [zs_len, perm_len hp]; exact hn, .int n, rfl, rfl, ?_⟩
        exact qv (Q := Q) (bt (by rw [zs_len, perm_len hp])) (q H1 sm)
theorem scNeedO : FnScope ["order", "many"] ["order", "many"] (defScope sNeedO) := ⟨rfl, rfl, rfl, by decide +kernel, rfl, by decide +kernel, by decide +kernel⟩
def spNeedO : Sp := fun vs H Q _ => ∃ (t : Addr) (o : List Nat) (n : Nat), vs = [.ref t, .int (n : Nat)] ∧ H t = some (.tup (iv (zs o))) ∧ o.Perm (List.range n) ∧ n ≤ 1000 ∧ ∀ H', Same H H' → Q .non H'
theorem ok_needO {f g : Addr} {fd gd : FuncData} (D : Df K mg "need_order" sNeedO ["order", "many"] f fd) (G : Df K mg "is_order" sIsOrd ["value", "many"] g gd) (Z : Lk K mg) : FnOk P w K mg base CX0 4 f fd ["order", "many"] spNeedO := by
  have GG : FnOk P w K mg base CX0 3 g gd ["value", "many"] spIsOrd := ok_isOrd G Z
  refine D.F.ok scNeedO (fun vs H Q E h => ?_) (fun cdv A outer s H vs Q E hr h => ?_)
  · obtain ⟨t, o, n, rfl, _⟩ := h
    rfl
  · obtain ⟨t, o, n, rfl, ht, hp, hn, q⟩ := h
    refine ⟨_, pss_one (ps_if (pt_not (pt_val (pe_call GG hr (by rfl) G.gm G.F.kp G.b .nil pass0 (pa_cons (pv 0) (pa_cons (pv 1) pa_nil))))) (pss_one ps_never) pss_nil), ?_⟩
    exact ⟨.ref t, rfl, .int n, rfl, t, o, n, rfl, ht, hp, hn, fun H1 sm => ⟨true, rfl, iteF (q H1 sm)⟩⟩
theorem scEndsIn : FnScope ["times", "order", "found", "day", "job"] ["times", "order"] (defScope sEndsIn) := ⟨rfl, rfl, rfl, by decide +kernel, rfl, by decide +kernel, by decide +kernel⟩
/-- the ends of an order, as a new list -/
def spEndsIn : Sp := fun vs H Q _ => ∃ (t u : Addr) (ts : List Int) (l : List Nat), vs = [.ref t, .ref u] ∧ H t = some (.tup (iv ts)) ∧ H u = some (.tup (iv (zs l))) ∧ l.Perm (List.range ts.length) ∧ ts.length ≤ 1000 ∧
  ∀ H' p, Same H H' → H p = none → H' p = some (.lst (iv (Mt.run (Mt.tm ts) ts.length l).2)) → Q (.ref p) H'
theorem ok_endsIn {f : Addr} {fd : FuncData} (D : Df K mg "ends_in" sEndsIn ["times", "order"] f fd) (B : Bl mg) : FnOk P w K mg base CX0 1 f fd ["times", "order"] spEndsIn := by
  refine D.F.ok scEndsIn (fun vs H Q E h => ?_) (fun cdv A outer s H vs Q E hr h => ?_)
  · obtain ⟨t, u, ts, l, rfl, _⟩ := h
    rfl
  · obtain ⟨t, u, ts, l, rfl, ht, hu, hp, hn, q⟩ := h
    refine ⟨_, pss_cons (ps_par (by rfl) scEndsIn.nd (i := 2) (j := 3) rfl rfl (by decide) rfl rfl (pa_cons (pe_op op_rep (pe_lst (pa_cons pe_int pa_nil)) (pe_callB call_len_seq (by rfl) B.len PySem.boot_len (pa_cons (pv 0) pa_nil))) (pa_cons pe_int pa_nil)) (by rfl))
      (pss_cons (ps_for PassesOwn.never rfl (pi_tup (pv 1)) (pg_name (i := 4) scEndsIn.nd rfl (.inl rfl))
        (pss_cons (ps_aug (i := 3) scEndsIn.nd rfl (.inl rfl) (pe_ix ix_tup (pv 0) (pv 4) (fun _ _ => rfl)) ip_add)
        (pss_one (ps_asg (pv 3) (pg_sub (pv 2) (pv 4) set_list)))))
      (pss_one (ps_ret (pv 2)))), ?_⟩
    refine ⟨by show 1 ≤ _; exact sz (by omega), fun c nc => ?_⟩
    refine ⟨.ref t, rfl, t, _, rfl, .inr (Same.sqt (same_new nc) (sqt ht)), c, _, _, rfl, rfl, upd_same, by omega, by rw [iv_len]; omega, by rw [iv_len]; show 1 * _ ≤ _; rw [Nat.one_mul]; exact sz (by omega), fun p np => ?_⟩
    have npc : p ≠ c := fun e => by rw [e, upd_same] at np; cases np
    have np0 : H p = none := (same_new nc).free np
    refine ⟨_, _, rfl, ?_⟩
    refine ⟨.ref u, rfl, u, rfl, ⟨_, Same.sqt (same_new np) (Same.sqt (same_new nc) (sqt hu))⟩, for_tup (K := K) (xs := iv (zs l)) (fun i σ H' => ∃ y4, σ = [some (.ref t), some (.ref u), some (.ref p), some (.int (Mt.run (Mt.tm ts) ts.length (l.take i)).1), y4] ∧
      Same H H' ∧ H' p = some (.lst (iv (Mt.run (Mt.tm ts) ts.length (l.take i)).2))) ⟨none, rfl, (same_new nc).trans (same_new np), ?_⟩ (fun i σ H' _ ⟨_, _, sm, _⟩ => Same.sqt sm (sqt hu)) (fun i x σ H1 hx hP => ?_) (fun σ H1 hP => ?_)⟩
    · rw [upd_same]
      show some (HO.lst (List.replicate (((iv ts).length : Nat) : Int).toNat [V.int 0]).flatten) = _
      rw [Int.toNat_natCast, rep_iv, iv_len]
      rfl
    · obtain ⟨y4, rfl, sm, hL⟩ := hP
      obtain ⟨j, hj, rfl⟩ := jv_of hx
      have hjn : j < ts.length := perm_lt hp j (List.mem_of_getElem? hj)
      refine ⟨_, rfl, .ref t, rfl, .int (j : Nat), rfl, t, _, _, _, rfl, rfl, Same.sqt sm (sqt ht), atI_nat (iv_at (tm_at hjn)), _, _, rfl, rfl, ?_⟩
      refine ⟨_, rfl, .ref p, rfl, .int (j : Nat), rfl, p, _, _, j, rfl, rfl, hL, ixN_nat (by rw [iv_len, Mt.run_len]; exact hjn), ?_⟩
      refine ⟨some (.int (j : Nat)), ?_, same_put sm np0, ?_⟩
      · rw [take_snoc hj, Mt.run_snoc]
        rfl
      · rw [upd_same, take_snoc hj, Mt.run_snoc, iv_set]
        rfl
    · obtain ⟨y4, rfl, sm, hL⟩ := hP
      rw [iv_len, zs_len, List.take_length] at hL
      exact ⟨.ref p, rfl, q H1 p sm np0 hL⟩
theorem scEnds : FnScope ["times", "order"] ["times", "order"] (defScope sEnds) := ⟨rfl, rfl, rfl, by decide +kernel, rfl, by decide +kernel, by decide +kernel⟩
def spEnds : Sp := fun vs H Q _ => ∃ (t u : Addr) (ts : List Int) (l : List Nat), vs = [.ref t, .ref u] ∧ H t = some (.tup (iv ts)) ∧ H u = some (.tup (iv (zs l))) ∧ l.Perm (List.range ts.length) ∧ 1 ≤ ts.length ∧ ts.length ≤ 10 ∧ (∀ x ∈ ts, 1 ≤ x ∧ x ≤ 60) ∧
  ∀ H' p, Same H H' → H p = none → H' p = some (.tup (iv (Mt.run (Mt.tm ts) ts.length l).2)) → Q (.ref p) H'
theorem ok_ends {f g h k m : Addr} {fd gd hd kd md : FuncData} (D : Df K mg "ends" sEnds ["times", "order"] f fd) (GT : Df K mg "need_times" sNeedT ["times"] g gd) (GO : Df K mg "need_order" sNeedO ["order", "many"] h hd)
    (GI : Df K mg "is_order" sIsOrd ["value", "many"] k kd) (GE : Df K mg "ends_in" sEndsIn ["times", "order"] m md) (Z : Lk K mg) : FnOk P w K mg base CX0 5 f fd ["times", "order"] spEnds := by
  have OT : FnOk P w K mg base CX0 4 g gd ["times"] spNeedT := ok_needT GT Z
  have OO : FnOk P w K mg base CX0 4 h hd ["order", "many"] spNeedO := ok_needO GO GI Z
  have OE : FnOk P w K mg base CX0 1 m md ["times", "order"] spEndsIn := ok_endsIn GE Z.B
  refine D.F.ok scEnds (fun vs H Q E h => ?_) (fun cdv A outer s H vs Q E hr h => ?_)
  · obtain ⟨t, u, ts, l, rfl, _⟩ := h
    rfl
  · obtain ⟨t, u, ts, l, rfl, ht, hu, hp, h1, h10, hall, q⟩ := h
    refine ⟨_, pss_cons (ps_expr (pe_call OT hr (by rfl) GT.gm GT.F.kp GT.b .nil pass0 (pa_cons (pv 0) pa_nil)))
      (pss_cons (ps_expr (pe_call OO hr (by rfl) GO.gm GO.F.kp GO.b .nil pass0 (pa_cons (pv 1) (pa_cons (pe_callB call_len_seq (by rfl) Z.B.len PySem.boot_len (pa_cons (pv 0) pa_nil)) pa_nil))))
      (pss_one (ps_ret (pe_callTy call_tuple_of (by rfl) Z.B.tuple boot_tuple (pa_cons (pe_call OE (hr.mono (by decide)) (by rfl) GE.gm GE.F.kp GE.b .nil pass0 (pa_cons (pv 0) (pa_cons (pv 1) pa_nil))) pa_nil))))), ?_⟩
    refine ⟨.ref t, rfl, t, ts, rfl, ht, h1, h10, hall, fun H1 s1 => ?_⟩
    refine ⟨.ref u, rfl, .ref t, rfl, t, _, rfl, .inr (sqt (s1 _ _ ht)), u, l, ts.length, by rw [iv_len]; rfl, s1 _ _ hu, hp, by omega, fun H2 s2 => ?_⟩
    have s12 := s1.trans s2
    refine ⟨.ref t, rfl, .ref u, rfl, t, u, ts, l, rfl, s12 _ _ ht, s12 _ _ hu, hp, by omega, fun H3 p s3 np hL => ?_⟩
    refine ⟨p, _, rfl, .inl ⟨sql hL, fun v nv => ?_⟩⟩
    exact q _ v (s12.trans (s3.trans (same_new nv))) (s12.free (s3.free nv)) upd_same
end
end Kd
set_option Elab.async false
set_option linter.all false
set_option maxRecDepth 100000
set_option maxHeartbeats 4000000
/-! Sums of weights times ends: the program's and the law's own. -/
namespace Kd
open PySem PySem.Spec PyProof.Rows L2
section
variable {P : Program} {w : World} {K : PySem.W.Frag} {mg : Str → Option Value} {base : Heap}
/-- weights times ends, by numbers, of the first i jobs -/
def prods (ts ws : List Int) (l : List Nat) (i : Nat) : List Int := (List.range i).map fun k => Mt.wt ws k * (Mt.run (Mt.tm ts) ts.length l).2.getD k 0
theorem prods_len (ts ws : List Int) (l : List Nat) (i : Nat) : (prods ts ws l i).length = i := by
  unfold prods
  rw [List.length_map, List.length_range]
theorem prods_snoc (ts ws : List Int) (l : List Nat) (i : Nat) : prods ts ws l (i + 1) = prods ts ws l i ++ [Mt.wt ws i * (Mt.run (Mt.tm ts) ts.length l).2.getD i 0] := by
  unfold prods
  rw [range_snoc, List.map_append]
  rfl
theorem prods_sum {ts ws : List Int} {l : List Nat} (h : l.Perm (List.range ts.length)) : (prods ts ws l ts.length).sum = Mt.cost (Mt.tm ts) (Mt.wt ws) 0 l := Mt.run_cost _ _ h
theorem small_mul {ts ws : List Int} (J : Jb ts ws) (j : Nat) : -(2 ^ 64) < Mt.wt ws j ∧ Mt.wt ws j < 2 ^ 64 := by
  have := J.wb j
  omega
theorem scSumIn : FnScope ["times", "weights", "order", "weight", "end"] ["times", "weights", "order"] (defScope sSumIn) := ⟨rfl, rfl, rfl, by decide +kernel, rfl, by decide +kernel, by decide +kernel⟩
def spSum : Sp := fun vs H Q _ => ∃ (t u o : Addr) (ts ws : List Int) (l : List Nat), vs = [.ref t, .ref u, .ref o] ∧ H t = some (.tup (iv ts)) ∧ H u = some (.tup (iv ws)) ∧ H o = some (.tup (iv (zs l))) ∧ Jb ts ws ∧ l.Perm (List.range ts.length) ∧
  ∀ H', Same H H' → Q (.int (Mt.cost (Mt.tm ts) (Mt.wt ws) 0 l)) H'
theorem ok_sumIn {f m : Addr} {fd md : FuncData} (D : Df K mg "sum_in" sSumIn ["times", "weights", "order"] f fd) (GE : Df K mg "ends_in" sEndsIn ["times", "order"] m md) (B : Bl mg) : FnOk P w K mg base CX0 2 f fd ["times", "weights", "order"] spSum := by
  have OE : FnOk P w K mg base CX0 1 m md ["times", "order"] spEndsIn := ok_endsIn GE B
  refine D.F.ok scSumIn (fun vs H Q E h => ?_) (fun cdv A outer s H vs Q E hr h => ?_)
  · obtain ⟨t, u, o, ts, ws, l, rfl, _⟩ := h
    rfl
  · obtain ⟨t, u, o, ts, ws, l, rfl, ht, hu, ho, J, hp, q⟩ := h
    refine ⟨_, pss_one (ps_ret (pe_callB (cr_sum rfl) (by rfl) B.sum (by decide +kernel) (pa_cons (pe_lc (own := [("weight", 3), ("end", 4)]) (g := gTup K 2 (gCons (gName 3) (gCons (gName 4) gNil))) (tt := tYes) rfl scSumIn.nd
      (pi_zipTL (by rfl) B.zip (pa_cons (pv 1) (pa_cons (pe_call OE hr (by rfl) GE.gm GE.F.kp GE.b .nil pass0 (pa_cons (pv 0) (pa_cons (pv 2) pa_nil))) pa_nil)))
      (blkOk_by (own := [("weight", 3), ("end", 4)]) (N := ["times", "weights", "order", "weight", "end"]) (sc := defScope sSumIn) (by decide +kernel))
      (fun _ _ _ _ _ => pg_tup rfl (pgs_cons (pg_name (i := 3) scSumIn.nd rfl (.inl rfl)) (pgs_cons (pg_name (i := 4) scSumIn.nd rfl (.inl rfl)) pgs_nil))) (fun _ _ _ _ _ => pts_nil)
      (fun _ _ _ _ _ => pe_op op_mul (pv 3) (pv 4))) pa_nil))), ?_⟩
    refine ⟨.ref u, rfl, .ref t, rfl, .ref o, rfl, t, o, ts, l, rfl, ht, ho, hp, by have := J.most; omega, fun H1 p s1 np hL => ?_⟩
    have hwl : (iv ws).length = ts.length := by rw [iv_len, J.len]
    have hel : (iv (Mt.run (Mt.tm ts) ts.length l).2).length = ts.length := by rw [iv_len, Mt.run_len]
    refine ⟨u, p, _, _, rfl, sqt (s1 _ _ hu), sql hL, fun D nD => ?_⟩
    refine lc_it walk_p (fun i H' => Same H1 H' ∧ H' D = some (.lst (iv (prods ts ws l i)))) ⟨same_new nD, upd_same⟩ (fun i H' _ ⟨sm, _⟩ => ⟨Same.sqt sm (sqt (s1 _ _ hu)), sm.seq (sql hL)⟩) (fun i x H2 H3 hi hP hY => ?_) (fun H2 hP => ?_)
    · obtain ⟨sm, hD⟩ := hP
      obtain ⟨T, rfl, nT, rfl⟩ := hY
      have hi2 : i < ts.length := by
        have z : i < min (iv ws).length (iv (Mt.run (Mt.tm ts) ts.length l).2).length := hi
        omega
      have e1 : (fZp (iv ws) (iv (Mt.run (Mt.tm ts) ts.length l).2) i).1 = .int (Mt.wt ws i) := iv_getD (by rw [J.len]; exact hi2)
      have e2 : (fZp (iv ws) (iv (Mt.run (Mt.tm ts) ts.length l).2) i).2 = .int ((Mt.run (Mt.tm ts) ts.length l).2.getD i 0) := iv_getD (by rw [Mt.run_len]; exact hi2)
      have hDT : D ≠ T := ne_of_none hD nT
      refine ⟨T, _, rfl, sqt upd_same, rfl, _, _, rfl, _, [], rfl, rfl, ?_⟩
      refine ⟨rfl, _, congrArg (fun z => some (some z)) e1, _, congrArg (fun z => some (some z)) e2, _, _, rfl, rfl, .inl (small_mul J i), ?_⟩
      refine ⟨_, (upd_ne hDT).trans hD, ?_, same_put (same_put sm (sm.free nT)) nD, ?_⟩
      · rw [iv_len, prods_len]
        have := J.most
        exact sz' (by omega)
      · rw [upd_same, prods_snoc, iv_snoc]
    · obtain ⟨sm, hD⟩ := hP
      have em : min (iv ws).length (iv (Mt.run (Mt.tm ts) ts.length l).2).length = ts.length := by omega
      rw [em] at hD
      refine ⟨D, _, rfl, sql hD, ?_⟩
      rw [prods_sum hp]
      exact q H2 (s1.trans sm)
theorem scWSum : FnScope ["times", "weights", "order"] ["times", "weights", "order"] (defScope sWSum) := ⟨rfl, rfl, rfl, by decide +kernel, rfl, by decide +kernel, by decide +kernel⟩
/-- the defs of the program that look at arguments and sum -/
structure Lm (K : PySem.W.Frag) (mg : Str → Option Value) extends Lk K mg where
  t : Addr
  td : FuncData
  T : Df K mg "need_times" sNeedT ["times"] t td
  u : Addr
  ud : FuncData
  U : Df K mg "need_weights" sNeedW ["weights", "many"] u ud
  x : Addr
  xd : FuncData
  X : Df K mg "need_weighed" sNeedX ["times", "weights"] x xd
  o : Addr
  od : FuncData
  O : Df K mg "need_order" sNeedO ["order", "many"] o od
  p : Addr
  pd : FuncData
  P : Df K mg "is_order" sIsOrd ["value", "many"] p pd
  e : Addr
  ed : FuncData
  E : Df K mg "ends_in" sEndsIn ["times", "order"] e ed
  s : Addr
  sd : FuncData
  S : Df K mg "sum_in" sSumIn ["times", "weights", "order"] s sd
theorem ok_wSum {f : Addr} {fd : FuncData} (D : Df K mg "weighted_sum" sWSum ["times", "weights", "order"] f fd) (Z : Lm K mg) : FnOk P w K mg base CX0 6 f fd ["times", "weights", "order"] spSum := by
  have OX : FnOk P w K mg base CX0 5 Z.x Z.xd ["times", "weights"] spNeedX := ok_needX Z.X Z.T Z.U Z.toLk
  have OO : FnOk P w K mg base CX0 4 Z.o Z.od ["order", "many"] spNeedO := ok_needO Z.O Z.P Z.toLk
  have OS : FnOk P w K mg base CX0 2 Z.s Z.sd ["times", "weights", "order"] spSum := ok_sumIn Z.S Z.E Z.B
  refine D.F.ok scWSum (fun vs H Q E h => ?_) (fun cdv A outer s H vs Q E hr h => ?_)
  · obtain ⟨t, u, o, ts, ws, l, rfl, _⟩ := h
    rfl
  · obtain ⟨t, u, o, ts, ws, l, rfl, ht, hu, ho, J, hp, q⟩ := h
    refine ⟨_, pss_cons (ps_expr (pe_call OX hr (by rfl) Z.X.gm Z.X.F.kp Z.X.b .nil pass0 (pa_cons (pv 0) (pa_cons (pv 1) pa_nil))))
      (pss_cons (ps_expr (pe_call OO (hr.mono (by decide)) (by rfl) Z.O.gm Z.O.F.kp Z.O.b .nil pass0 (pa_cons (pv 2) (pa_cons (pe_callB call_len_seq (by rfl) Z.B.len PySem.boot_len (pa_cons (pv 0) pa_nil)) pa_nil))))
      (pss_one (ps_ret (pe_call OS (hr.mono (by decide)) (by rfl) Z.S.gm Z.S.F.kp Z.S.b .nil pass0 (pa_cons (pv 0) (pa_cons (pv 1) (pa_cons (pv 2) pa_nil))))))), ?_⟩
    refine ⟨.ref t, rfl, .ref u, rfl, t, u, ts, ws, rfl, ht, hu, J, fun H1 s1 => ?_⟩
    refine ⟨.ref o, rfl, .ref t, rfl, t, _, rfl, .inr (sqt (s1 _ _ ht)), o, l, ts.length, by rw [iv_len]; rfl, s1 _ _ ho, hp, by have := J.most; omega, fun H2 s2 => ?_⟩
    have s12 := s1.trans s2
    exact ⟨.ref t, rfl, .ref u, rfl, .ref o, rfl, t, u, o, ts, ws, l, rfl, s12 _ _ ht, s12 _ _ hu, s12 _ _ ho, J, hp, fun H3 s3 => q H3 (s12.trans s3)⟩
theorem scLEnds : FnScope ["_law_times", "_law_order_here", "_law_found", "_law_day", "_law_job"] ["_law_times", "_law_order_here"] (defScope sLEnds) := ⟨rfl, rfl, rfl, by decide +kernel, rfl, by decide +kernel, by decide +kernel⟩
theorem ok_lEnds {f : Addr} {fd : FuncData} (D : Df K mg "_law_ends" sLEnds ["_law_times", "_law_order_here"] f fd) (B : Bl mg) : FnOk P w K mg base CX0 1 f fd ["_law_times", "_law_order_here"] spEndsIn := by
  refine D.F.ok scLEnds (fun vs H Q E h => ?_) (fun cdv A outer s H vs Q E hr h => ?_)
  · obtain ⟨t, u, ts, l, rfl, _⟩ := h
    rfl
  · obtain ⟨t, u, ts, l, rfl, ht, hu, hp, hn, q⟩ := h
    refine ⟨_, pss_cons (ps_par (by rfl) scLEnds.nd (i := 2) (j := 3) rfl rfl (by decide) rfl rfl (pa_cons (pe_op op_rep (pe_lst (pa_cons pe_int pa_nil)) (pe_callB call_len_seq (by rfl) B.len PySem.boot_len (pa_cons (pv 0) pa_nil))) (pa_cons pe_int pa_nil)) (by rfl))
      (pss_cons (ps_for PassesOwn.never rfl (pi_tup (pv 1)) (pg_name (i := 4) scLEnds.nd rfl (.inl rfl))
        (pss_cons (ps_set (i := 3) scLEnds.nd rfl (.inl rfl) (pe_op op_add (pv 3) (pe_ix ix_tup (pv 0) (pv 4) (fun _ _ => rfl))))
        (pss_one (ps_asg (pv 3) (pg_sub (pv 2) (pv 4) set_list)))))
      (pss_one (ps_ret (pv 2)))), ?_⟩
    refine ⟨by show 1 ≤ _; exact sz (by omega), fun c nc => ?_⟩
    refine ⟨.ref t, rfl, t, _, rfl, .inr (Same.sqt (same_new nc) (sqt ht)), c, _, _, rfl, rfl, upd_same, by omega, by rw [iv_len]; omega, by rw [iv_len]; show 1 * _ ≤ _; rw [Nat.one_mul]; exact sz (by omega), fun p np => ?_⟩
    have np0 : H p = none := (same_new nc).free np
    refine ⟨_, _, rfl, ?_⟩
    refine ⟨.ref u, rfl, u, rfl, ⟨_, Same.sqt (same_new np) (Same.sqt (same_new nc) (sqt hu))⟩, for_tup (K := K) (xs := iv (zs l)) (fun i σ H' => ∃ y4, σ = [some (.ref t), some (.ref u), some (.ref p), some (.int (Mt.run (Mt.tm ts) ts.length (l.take i)).1), y4] ∧
      Same H H' ∧ H' p = some (.lst (iv (Mt.run (Mt.tm ts) ts.length (l.take i)).2))) ⟨none, rfl, (same_new nc).trans (same_new np), ?_⟩ (fun i σ H' _ ⟨_, _, sm, _⟩ => Same.sqt sm (sqt hu)) (fun i x σ H1 hx hP => ?_) (fun σ H1 hP => ?_)⟩
    · rw [upd_same]
      show some (HO.lst (List.replicate (((iv ts).length : Nat) : Int).toNat [V.int 0]).flatten) = _
      rw [Int.toNat_natCast, rep_iv, iv_len]
      rfl
    · obtain ⟨y4, rfl, sm, hL⟩ := hP
      obtain ⟨j, hj, rfl⟩ := jv_of hx
      have hjn : j < ts.length := perm_lt hp j (List.mem_of_getElem? hj)
      refine ⟨_, rfl, .ref t, rfl, .int (j : Nat), rfl, t, _, _, _, rfl, rfl, Same.sqt sm (sqt ht), atI_nat (iv_at (tm_at hjn)), _, _, rfl, rfl, ?_⟩
      refine ⟨_, rfl, .ref p, rfl, .int (j : Nat), rfl, p, _, _, j, rfl, rfl, hL, ixN_nat (by rw [iv_len, Mt.run_len]; exact hjn), ?_⟩
      refine ⟨some (.int (j : Nat)), ?_, same_put sm np0, ?_⟩
      · rw [take_snoc hj, Mt.run_snoc]
        rfl
      · rw [upd_same, take_snoc hj, Mt.run_snoc, iv_set]
        rfl
    · obtain ⟨y4, rfl, sm, hL⟩ := hP
      rw [iv_len, zs_len, List.take_length] at hL
      exact ⟨.ref p, rfl, q H1 p sm np0 hL⟩
theorem scLSum : FnScope ["_law_times", "_law_weights", "_law_order_here", "_law_days", "_law_at"] ["_law_times", "_law_weights", "_law_order_here"] (defScope sLSum) := ⟨rfl, rfl, rfl, by decide +kernel, rfl, by decide +kernel, by decide +kernel⟩
theorem ok_lSum {f m : Addr} {fd md : FuncData} (D : Df K mg "_law_sum" sLSum ["_law_times", "_law_weights", "_law_order_here"] f fd) (GE : Df K mg "_law_ends" sLEnds ["_law_times", "_law_order_here"] m md) (B : Bl mg) :
    FnOk P w K mg base CX0 2 f fd ["_law_times", "_law_weights", "_law_order_here"] spSum := by
  have OE : FnOk P w K mg base CX0 1 m md ["_law_times", "_law_order_here"] spEndsIn := ok_lEnds GE B
  refine D.F.ok scLSum (fun vs H Q E h => ?_) (fun cdv A outer s H vs Q E hr h => ?_)
  · obtain ⟨t, u, o, ts, ws, l, rfl, _⟩ := h
    rfl
  · obtain ⟨t, u, o, ts, ws, l, rfl, ht, hu, ho, J, hp, q⟩ := h
    refine ⟨_, pss_cons (ps_set (i := 3) scLSum.nd rfl (.inr rfl) (pe_call OE hr (by rfl) GE.gm GE.F.kp GE.b .nil pass0 (pa_cons (pv 0) (pa_cons (pv 2) pa_nil))))
      (pss_one (ps_ret (pe_callB (cr_sum rfl) (by rfl) B.sum (by decide +kernel) (pa_cons (pe_lc (own := [("_law_at", 4)]) (g := gName 4) (tt := tYes) rfl scLSum.nd
      (pi_range1 (by rfl) B.range (pa_cons (pe_callB call_len_seq (by rfl) B.len PySem.boot_len (pa_cons (pv 0) pa_nil)) pa_nil))
      (blkOk_by (own := [("_law_at", 4)]) (N := ["_law_times", "_law_weights", "_law_order_here", "_law_days", "_law_at"]) (sc := defScope sLSum) (by decide +kernel))
      (fun _ _ _ _ _ => pg_name (i := 4) scLSum.nd rfl (.inl rfl)) (fun _ _ _ _ _ => pts_nil)
      (fun _ _ _ _ _ => pe_op op_mul (pe_ix (r := rIxT K) ix_tup (pv 1) (pv 4) (fun _ _ => rfl)) (pe_ix (r := rIxL K) ix_list (pv 3) (pv 4) (fun _ _ => rfl)))) pa_nil)))), ?_⟩
    refine ⟨.ref t, rfl, .ref o, rfl, t, o, ts, l, rfl, ht, ho, hp, by have := J.most; omega, fun H1 p s1 np hL => ?_⟩
    have h10 := J.most
    refine ⟨.ref t, rfl, t, _, rfl, .inr (sqt (s1 _ _ ht)), _, rfl, by omega, by rw [iv_len]; omega, fun D nD => ?_⟩
    refine lc_it walk_range (fun i H' => Same H1 H' ∧ H' D = some (.lst (iv (prods ts ws l i)))) ⟨same_new nD, upd_same⟩ (fun i H' _ _ => True.intro) (fun i x H2 H3 hi hP hY => ?_) (fun H2 hP => ?_)
    · obtain ⟨sm, hD⟩ := hP
      obtain ⟨rfl, rfl⟩ := hY
      have hi2 : i < ts.length := by
        rw [Int.toNat_natCast, iv_len] at hi
        exact hi
      have hv : (Mt.run (Mt.tm ts) ts.length l).2[i]? = some ((Mt.run (Mt.tm ts) ts.length l).2.getD i 0) := by
        rw [List.getD_eq_getElem?_getD, List.getElem?_eq_getElem (by rw [Mt.run_len]; exact hi2)]
        rfl
      have ez : (0 : Int) + (i : Nat) = (i : Nat) := by omega
      refine ⟨rfl, .ref u, rfl, .int (0 + (i : Nat)), rfl, u, _, _, _, rfl, rfl, Same.sqt sm (sqt (s1 _ _ hu)), at_nat ez (iv_at (wt_at (by rw [J.len]; exact hi2))), .ref p, rfl, .int (0 + (i : Nat)), rfl, p, _, _, _, rfl, rfl, sm.seq (sql hL), at_nat ez (iv_at hv), _, _, rfl, rfl, .inl (small_mul J i), ?_⟩
      refine ⟨_, hD, ?_, same_put sm nD, ?_⟩
      · rw [iv_len, prods_len]
        exact sz' (by omega)
      · rw [upd_same, prods_snoc, iv_snoc]
    · obtain ⟨sm, hD⟩ := hP
      rw [Int.toNat_natCast, iv_len] at hD
      refine ⟨D, _, rfl, sql hD, ?_⟩
      rw [prods_sum hp]
      exact q H2 (s1.trans sm)
end
end Kd
set_option Elab.async false
set_option linter.all false
set_option maxRecDepth 100000
set_option maxHeartbeats 4000000
/-! The rule's order: ratio_order, smith_order. -/
namespace Kd
open PySem PySem.Spec PyProof.Rows L2
theorem dp_ints {K : PySem.W.Frag} {H : Hp} : ∀ ns : List Int, DpAll K H (iv ns) (ns.map PyData.int)
  | [] => .nil
  | _ :: r => .cons (.int _) (dp_ints r)
theorem eqv_ints : ∀ ns ms : List Int, PyData.eqvAll (ns.map PyData.int) (ms.map PyData.int) = decide (ns = ms)
  | [], [] => by simp [PyData.eqvAll]
  | [], _ :: _ => by simp [PyData.eqvAll]
  | _ :: _, [] => by simp [PyData.eqvAll]
  | a :: r, b :: q => by
    simp only [List.map_cons, PyData.eqvAll, PyData.eqv, eqv_ints r q]
    by_cases h : a = b <;> simp [h]
theorem eqv_lists (ns ms : List Int) : PyData.eqv (.list (ns.map PyData.int)) (.list (ms.map PyData.int)) = decide (ns = ms) := by
  simp only [PyData.eqv]
  exact eqv_ints ns ms
theorem cut_one (xs : List V) : cutV xs (some 1) none = xs.drop 1 := by
  unfold cutV
  rw [show HT.sIx xs.length 0 (some 1) = min 1 xs.length from HT.sIx_nat xs.length 0 1, HT.sIx_none]
  cases xs with
  | nil => rfl
  | cons x r =>
    rw [show min 1 (x :: r).length = 1 by rw [List.length_cons]; omega]
    exact List.take_of_length_le (by simp)
theorem rg_zs (n : Nat) : rgV 0 (n : Int) = iv (zs (List.range n)) := by
  unfold rgV iv zs
  rw [List.map_map, Int.sub_zero, Int.toNat_natCast]
  refine List.map_congr_left fun i _ => ?_
  show V.int (0 + (i : Int)) = V.int (i : Int)
  rw [Int.zero_add]
theorem zs_snoc (l : List Nat) (j : Nat) : zs l ++ [(j : Int)] = zs (l ++ [j]) := by
  unfold zs
  rw [List.map_append]
  rfl
theorem ivz_snoc (l : List Nat) (j : Nat) : iv (zs l) ++ [.int (j : Nat)] = iv (zs (l ++ [j])) := by
  rw [iv_snoc, zs_snoc]
theorem zs_drop (l : List Nat) (k : Nat) : (iv (zs l)).drop k = iv (zs (l.drop k)) := by
  unfold iv zs
  rw [List.map_drop, List.map_drop]
theorem jz_at {l : List Nat} {i j : Nat} (h : l[i]? = some j) : (iv (zs l))[i]? = some (.int (j : Nat)) := iv_at (zs_at h)
section
variable {P : Program} {w : World} {K : PySem.W.Frag} {mg : Str → Option Value} {base : Heap}
theorem small_t {ts ws : List Int} (J : Jb ts ws) (j : Nat) : -(2 ^ 64) < Mt.tm ts j ∧ Mt.tm ts j < 2 ^ 64 := by
  have a := J.tpos j
  have b := J.tle j
  omega
theorem t_at {K : PySem.W.Frag} {ts : List Int} {j : Nat} (h : j < ts.length) : atI (iv ts) (j : Nat) = some (.int (Mt.tm ts j)) := atI_nat (iv_at (tm_at h))
theorem w_at {K : PySem.W.Frag} {ts ws : List Int} (J : Jb ts ws) {j : Nat} (h : j < ts.length) : atI (iv ws) (j : Nat) = some (.int (Mt.wt ws j)) := atI_nat (iv_at (wt_at (by rw [J.len]; exact h)))
theorem scRatio : FnScope ["times", "weights", "left", "found", "best", "job"] ["times", "weights"] (defScope sRatio) := ⟨rfl, rfl, rfl, by decide +kernel, rfl, by decide +kernel, by decide +kernel⟩
def spRatio : Sp := fun vs H Q _ => ∃ (t u : Addr) (ts ws : List Int), vs = [.ref t, .ref u] ∧ H t = some (.tup (iv ts)) ∧ H u = some (.tup (iv ws)) ∧ Jb ts ws ∧
  ∀ H' p o, Same H H' → H p = none → H' p = some (.tup (iv (zs o))) → o.Perm (List.range ts.length) → Mt.Sd (Mt.tm ts) (Mt.wt ws) o → Q (.ref p) H'
/-- between two turns of the outer loop -/
structure RI (ts ws : List Int) (H H' : Hp) (pl pf : Addr) (lf fd : List Nat) : Prop where
  same : Same H H'
  new : H pf = none
  ne : pl ≠ pf
  hl : H' pl = some (.lst (iv (zs lf)))
  hf : H' pf = some (.lst (iv (zs fd)))
  perm : (fd ++ lf).Perm (List.range ts.length)
  sd : Mt.Sd (Mt.tm ts) (Mt.wt ws) fd
  cross : ∀ a ∈ fd, ∀ b ∈ lf, Mt.R (Mt.tm ts) (Mt.wt ws) a b
theorem ok_ratio {f : Addr} {fd : FuncData} (D : Df K mg "ratio_order" sRatio ["times", "weights"] f fd) (B : Bl mg) : FnOk P w K mg base CX0 1 f fd ["times", "weights"] spRatio := by
  refine D.F.ok scRatio (fun vs H Q E h => ?_) (fun cdv A outer s H vs Q E hr h => ?_)
  · obtain ⟨t, u, ts, ws, rfl, _⟩ := h
    rfl
  · obtain ⟨t, u, ts, ws, rfl, ht, hu, J, q⟩ := h
    have h10 := J.most
    refine ⟨_, pss_cons (ps_par (by rfl) scRatio.nd (i := 2) (j := 3) rfl rfl (by decide) rfl rfl (pa_cons (pe_listRg rfl (by rfl) B.list (prg_1 (by rfl) B.range (pe_callB call_len_seq (by rfl) B.len PySem.boot_len (pa_cons (pv 0) pa_nil)))) (pa_cons (pe_lst pa_nil) pa_nil)) (by rfl))
      (pss_cons (ps_while PassesOwn.never (pt_cmpR (op_neD hr.units) (pv 2) (pe_lst pa_nil) (nomark _))
        (pss_cons (ps_set (i := 4) scRatio.nd rfl (.inr rfl) (pe_ix ix_list (pv 2) pe_int (fun _ _ => rfl)))
        (pss_cons (ps_for PassesOwn.never rfl (pi_list (pe_slice sl_list (pv 2) (po_some pe_int) po_none)) (pg_name (i := 5) scRatio.nd rfl (.inl rfl))
          (pss_one (ps_if (pt_cmpR op_lt (pe_op op_mul (pe_ix ix_tup (pv 0) (pv 5) (fun _ _ => rfl)) (pe_ix ix_tup (pv 1) (pv 4) (fun _ _ => rfl))) (pe_op op_mul (pe_ix ix_tup (pv 0) (pv 4) (fun _ _ => rfl)) (pe_ix ix_tup (pv 1) (pv 5) (fun _ _ => rfl))) (nomark _))
            (pss_one (ps_set (i := 4) scRatio.nd rfl (.inr rfl) (pv 5))) pss_nil)))
        (pss_cons (ps_expr (pe_bm PySem.F.plainAttrs_list PySem.F.slot_list_append PySem.F.type_list_append mt_append (pv 3) (pa_cons (pv 4) pa_nil)))
        (pss_one (ps_setLc (i := 2) (own := [("job", 5)]) (g := gName 5) (by rfl) scRatio.nd rfl rfl (sw_true rfl rfl rfl (by decide +kernel)) (pi_list (pv 2)) (blkOk_by (own := [("job", 5)]) (N := ["times", "weights", "left", "found", "best", "job"]) (sc := defScope sRatio) (by decide +kernel))
          (fun _ _ _ _ _ => pg_name (i := 5) scRatio.nd rfl (.inl rfl)) (fun _ _ _ _ _ => pts_one (pt_cmpR op_ne (pv 5) (pv 4) (nomark _))) (fun _ _ _ _ _ => pv 5)))))))
      (pss_one (ps_ret (pe_callTy call_tuple_of (by rfl) B.tuple boot_tuple (pa_cons (pv 3) pa_nil))))), ?_⟩
    refine ⟨.ref t, rfl, t, _, rfl, .inr (sqt ht), _, rfl, .of_le (by omega) (by rw [iv_len]; omega) (by omega) (by omega), fun l0 n0 => ?_⟩
    refine ⟨Nat.zero_le _, fun f0 m0 => ?_⟩
    have nlf : l0 ≠ f0 := fun e => by rw [← e, upd_same] at m0; cases m0
    refine ⟨_, _, rfl, ?_⟩
    refine ⟨fun m σ H' => ∃ (pl pf : Addr) (lf fd : List Nat) (y4 y5 : Option V), σ = [some (.ref t), some (.ref u), some (.ref pl), some (.ref pf), y4, y5] ∧ RI ts ws H H' pl pf lf fd ∧ m = lf.length,
      ⟨_, l0, f0, List.range ts.length, [], none, none, rfl, ⟨(same_new n0).trans (same_new m0), (same_new n0).free m0, nlf, ?_, upd_same, by simp, List.Pairwise.nil, fun a ha => by cases ha⟩, rfl⟩, fun m σ H1 hW => ?_⟩
    · rw [upd_ne nlf, upd_same, iv_len, rg_zs]
    · obtain ⟨pl, pf, lf, fd, y4, y5, rfl, I, rfl⟩ := hW
      refine ⟨.ref pl, rfl, Nat.zero_le _, fun c nc => ?_⟩
      have sc : Same H1 (upd H1 c (.lst [])) := same_new nc
      refine ⟨_, _, .lst (sc.seq (sql I.hl)) (dp_ints (zs lf)), .lst (sql upd_same) .nil, PySem.W.ke_shaped_ints _, PySem.W.ke_shaped_ints [], _, rfl, ?_⟩
      rw [show PyData.eqv (.list ((zs lf).map PyData.int)) (.list []) = decide (zs lf = []) from eqv_lists (zs lf) []]
      cases lf with
      | nil =>
        refine iteNS rfl ?_
        have hp := I.perm
        rw [List.append_nil] at hp
        refine ⟨.ref pf, rfl, pf, _, rfl, .inl ⟨sc.seq (sql I.hf), fun v nv => ?_⟩⟩
        exact q _ v fd (I.same.trans (sc.trans (same_new nv))) (I.same.free (sc.free nv)) upd_same hp I.sd
      | cons x lf =>
        rw [show decide (zs (x :: lf) = []) = false from decide_eq_false (by unfold zs; simp)]
        have lt_of : ∀ b ∈ x :: lf, b < ts.length := fun b hb => List.mem_range.mp (I.perm.mem_iff.mp (List.mem_append_right _ hb))
        refine iteT ?_
        -- what the loop keeps; best = left[0]
        refine ⟨fun σ' H' => ∃ (pl' : Addr) (b : Nat) (y4 y5 : Option V), b ∈ x :: lf ∧ σ' = [some (.ref t), some (.ref u), some (.ref pl'), some (.ref pf), y4, y5] ∧ RI ts ws H H' pl' pf ((x :: lf).erase b) (fd ++ [b]), fun σ' H' hN => ?_, ?_⟩
        · obtain ⟨pl', b, z4, z5, hb, e, I2⟩ := hN
          refine ⟨((x :: lf).erase b).length, ?_, pl', pf, _, _, z4, z5, e, I2, rfl⟩
          rw [List.length_erase_of_mem hb]
          exact Nat.lt_succ_self _
        refine ⟨.ref pl, rfl, pl, _, 0, .int (x : Nat), rfl, rfl, sc.seq (sql I.hl), atI_nat (j := 0) rfl, ?_⟩
        -- for job in left[1:]
        refine ⟨.ref pl, rfl, 1, rfl, pl, _, rfl, sc.seq (sql I.hl), fun d nd => ?_⟩
        have sd := same_new (o := .lst (cutV (iv (zs (x :: lf))) (some 1) none)) nd
        have hdl : upd (upd H1 c (.lst [])) d (.lst (cutV (iv (zs (x :: lf))) (some 1) none)) d = some (.lst (iv (zs lf))) := by
          rw [upd_same, cut_one, zs_drop]
          rfl
        refine ⟨d, rfl, ⟨_, sql hdl⟩, for_it (walk_list (xs := iv (zs lf))) (fun i σ H' => ∃ (b : Nat) (y5 : Option V), σ = [some (.ref t), some (.ref u), some (.ref pl), some (.ref pf), some (.int (b : Nat)), y5] ∧ H' = upd (upd H1 c (.lst [])) d (.lst (cutV (iv (zs (x :: lf))) (some 1) none)) ∧
          b ∈ x :: lf ∧ ∀ k ∈ x :: lf.take i, Mt.R (Mt.tm ts) (Mt.wt ws) b k) ⟨x, y5, rfl, rfl, by simp, fun k hk => ?_⟩ (fun i σ H' _ ⟨b, y, _, e, _⟩ => by rw [e]; exact sql hdl) (fun i v σ H2 H3 hi hP hY => ?_) (fun σ H2 hP => ?_)⟩
        · have e : k = x := by simpa using hk
          rw [e]
          exact Mt.R_refl _ _ x
        · obtain ⟨b, y, rfl, rfl, hb, hall⟩ := hP
          obtain ⟨rfl, hv⟩ := hY
          obtain ⟨j, hj, rfl⟩ := jv_of hv
          have hjm : j ∈ x :: lf := List.mem_cons_of_mem _ (List.mem_of_getElem? hj)
          have s2 : Same H (upd (upd H1 c (.lst [])) d (.lst (cutV (iv (zs (x :: lf))) (some 1) none))) := I.same.trans (sc.trans sd)
          have htt := sqt (K := K) (s2 _ _ ht)
          have huu := sqt (K := K) (s2 _ _ hu)
          refine ⟨.ref t, rfl, .int (j : Nat), rfl, t, _, _, _, rfl, rfl, htt, t_at (K := K) (lt_of j hjm), .ref u, rfl, .int (b : Nat), rfl, u, _, _, _, rfl, rfl, huu, w_at (K := K) J (lt_of b hb), _, _, rfl, rfl, .inl (small_t J j), ?_⟩
          refine ⟨.ref t, rfl, .int (b : Nat), rfl, t, _, _, _, rfl, rfl, htt, t_at (K := K) (lt_of b hb), .ref u, rfl, .int (j : Nat), rfl, u, _, _, _, rfl, rfl, huu, w_at (K := K) J (lt_of j hjm), _, _, rfl, rfl, .inl (small_t J b), ?_⟩
          refine ⟨_, _, rfl, rfl, _, rfl, ite2 (fun hc => ?_) (fun hc => ?_)⟩
          · have hc : Mt.tm ts j * Mt.wt ws b < Mt.tm ts b * Mt.wt ws j := of_decide_eq_true hc
            have rjb : Mt.R (Mt.tm ts) (Mt.wt ws) j b := Int.le_of_lt hc
            refine ⟨_, rfl, j, _, rfl, rfl, hjm, fun k hk => ?_⟩
            rw [take_snoc hj] at hk
            rcases List.mem_append.mp (show k ∈ (x :: lf.take i) ++ [j] from hk) with z | z
            · exact Mt.R_trans J.tpos rjb (hall k z)
            · have e : k = j := by simpa using z
              rw [e]
              exact Mt.R_refl _ _ j
          · have hc : ¬ Mt.tm ts j * Mt.wt ws b < Mt.tm ts b * Mt.wt ws j := fun z => hc (decide_eq_true z)
            refine ⟨b, _, rfl, rfl, hb, fun k hk => ?_⟩
            rw [take_snoc hj] at hk
            rcases List.mem_append.mp (show k ∈ (x :: lf.take i) ++ [j] from hk) with z | z
            · exact hall k z
            · have e : k = j := by simpa using z
              rw [e]
              unfold Mt.R
              omega
        · obtain ⟨b, y, rfl, rfl, hb, hall⟩ := hP
          rw [iv_len, zs_len, List.take_length] at hall
          generalize hH2 : upd (upd H1 c (.lst [])) d (.lst (cutV (iv (zs (x :: lf))) (some 1) none)) = H2 at *
          have s2 : Same H1 H2 := sc.trans sd
          have hpf := s2 _ _ I.hf
          have hpl := s2 _ _ I.hl
          have hfl : fd.length ≤ ts.length := by
            have z := I.perm.length_eq
            rw [List.length_append, List.length_range] at z
            omega
          -- found.append(best)
          refine ⟨.ref pf, rfl, .inl ⟨rfl, _, sql hpf⟩, .int (b : Nat), rfl, pf, _, _, rfl, rfl, hpf, by rw [iv_len, zs_len]; exact sz' (by omega), ?_⟩
          rw [ivz_snoc]
          have n2 : H pf = none := I.new
          have hpl3 : (upd H2 pf (.lst (iv (zs (fd ++ [b]))))) pl = some (.lst (iv (zs (x :: lf)))) := by
            rw [upd_ne I.ne]
            exact hpl
          have s3 : Same H (upd H2 pf (.lst (iv (zs (fd ++ [b]))))) := same_put (I.same.trans s2) n2
          -- left = the others
          refine ⟨.ref pl, rfl, pl, rfl, ⟨_, sql hpl3⟩, fun e ne => ?_⟩
          have epf : e ≠ pf := fun z => by rw [z, upd_same] at ne; cases ne
          have epl : e ≠ pl := fun z => by rw [z, hpl3] at ne; cases ne
          refine lc_it (walk_list (xs := iv (zs (x :: lf)))) (fun i H' => Same (upd H2 pf (.lst (iv (zs (fd ++ [b]))))) H' ∧ H' e = some (.lst (iv (zs (((x :: lf).take i).filter (· != b)))))) ⟨same_new ne, upd_same⟩ (fun i H' _ ⟨sm, _⟩ => sm.seq (sql hpl3)) (fun i v H4 H5 hi hP hY => ?_) (fun H4 hP => ?_)
          · obtain ⟨sm, hE⟩ := hP
            obtain ⟨rfl, hv⟩ := hY
            obtain ⟨j, hj, rfl⟩ := jv_of hv
            refine ⟨rfl, .int (j : Nat), rfl, .int (b : Nat), rfl, rfl, _, rfl, ?_⟩
            by_cases ejb : j = b
            · subst ejb
              refine iteNS rfl ⟨sm, ?_⟩
              rw [take_snoc hj, List.filter_append, hE]
              simp
            · have e1 : (!decide (V.int (j : Nat) = V.int (b : Nat))) = true := by
                rw [decide_eq_false (fun z => ejb (by have := V.int.inj z; omega))]
                rfl
              rw [e1]
              refine iteT ⟨.int (j : Nat), rfl, _, hE, ?_, same_put sm ne, ?_⟩
              · rw [iv_len, zs_len]
                have z1 : (((x :: lf).take i).filter (· != b)).length ≤ (x :: lf).length := Nat.le_trans (List.length_filter_le _ _) (List.length_take_le' _ _)
                have z2 := I.perm.length_eq
                rw [List.length_append, List.length_range] at z2
                exact sz' (by omega)
              · rw [upd_same, ivz_snoc, take_snoc hj, List.filter_append]
                simp [ejb]
          · obtain ⟨sm, hE⟩ := hP
            rw [iv_len, zs_len, List.take_length] at hE
            have ndl : (x :: lf).Nodup := (List.pairwise_append.mp (I.perm.nodup_iff.mpr List.nodup_range)).2.1
            rw [← ndl.erase_eq_filter b] at hE
            refine ⟨e, b, _, _, hb, rfl, ⟨s3.trans sm, n2, epf, hE, sm _ _ upd_same, Mt.next_perm I.perm hb, ?_, ?_⟩⟩
            · exact List.pairwise_append.mpr ⟨I.sd, by simp, fun a ha k hk => by
                have z : k = b := by simpa using hk
                rw [z]
                exact I.cross a ha b hb⟩
            · intro a ha k hk
              have hk := List.mem_of_mem_erase hk
              rcases List.mem_append.mp ha with z | z
              · exact I.cross a z k hk
              · have z : a = b := by simpa using z
                rw [z]
                exact hall k hk
theorem scSmith : FnScope ["times", "weights"] ["times", "weights"] (defScope sSmith) := ⟨rfl, rfl, rfl, by decide +kernel, rfl, by decide +kernel, by decide +kernel⟩
theorem ok_smith {f g : Addr} {fd gd : FuncData} (D : Df K mg "smith_order" sSmith ["times", "weights"] f fd) (G : Df K mg "ratio_order" sRatio ["times", "weights"] g gd) (Z : Lm K mg) : FnOk P w K mg base CX0 6 f fd ["times", "weights"] spRatio := by
  have OX : FnOk P w K mg base CX0 5 Z.x Z.xd ["times", "weights"] spNeedX := ok_needX Z.X Z.T Z.U Z.toLk
  have OR : FnOk P w K mg base CX0 1 g gd ["times", "weights"] spRatio := ok_ratio G Z.B
  refine D.F.ok scSmith (fun vs H Q E h => ?_) (fun cdv A outer s H vs Q E hr h => ?_)
  · obtain ⟨t, u, ts, ws, rfl, _⟩ := h
    rfl
  · obtain ⟨t, u, ts, ws, rfl, ht, hu, J, q⟩ := h
    refine ⟨_, pss_cons (ps_expr (pe_call OX hr (by rfl) Z.X.gm Z.X.F.kp Z.X.b .nil pass0 (pa_cons (pv 0) (pa_cons (pv 1) pa_nil))))
      (pss_one (ps_ret (pe_call OR (hr.mono (by decide)) (by rfl) G.gm G.F.kp G.b .nil pass0 (pa_cons (pv 0) (pa_cons (pv 1) pa_nil))))), ?_⟩
    refine ⟨.ref t, rfl, .ref u, rfl, t, u, ts, ws, rfl, ht, hu, J, fun H1 s1 => ?_⟩
    exact ⟨.ref t, rfl, .ref u, rfl, t, u, ts, ws, rfl, s1 _ _ ht, s1 _ _ hu, J, fun H2 p o s2 np hp pm sd => q H2 p o (s1.trans s2) (s1.free np) hp pm sd⟩
end
end Kd
set_option Elab.async false
set_option linter.all false
set_option maxRecDepth 100000
set_option maxHeartbeats 4000000
/-! are_alike, count_best. -/
namespace Kd
open PySem PySem.Spec PyProof.Rows L2
section
variable {P : Program} {w : World} {K : PySem.W.Frag} {mg : Str → Option Value} {base : Heap}
theorem scAlike : FnScope ["times", "weights", "one", "other"] ["times", "weights", "one", "other"] (defScope sAlike) := ⟨rfl, rfl, rfl, by decide +kernel, rfl, by decide +kernel, by decide +kernel⟩
def spAlike : Sp := fun vs H Q _ => ∃ (t u : Addr) (ts ws : List Int) (a b : Nat), vs = [.ref t, .ref u, .int (a : Nat), .int (b : Nat)] ∧ H t = some (.tup (iv ts)) ∧ H u = some (.tup (iv ws)) ∧ Jb ts ws ∧ a < ts.length ∧ b < ts.length ∧
  Q (.bl (Mt.alk (Mt.tm ts) (Mt.wt ws) a b)) H
theorem ok_alike {f : Addr} {fd : FuncData} (D : Df K mg "are_alike" sAlike ["times", "weights", "one", "other"] f fd) : FnOk P w K mg base CX0 1 f fd ["times", "weights", "one", "other"] spAlike := by
  refine D.F.ok scAlike (fun vs H Q E h => ?_) (fun cdv A outer s H vs Q E hr h => ?_)
  · obtain ⟨t, u, ts, ws, a, b, rfl, _⟩ := h
    rfl
  · obtain ⟨t, u, ts, ws, a, b, rfl, ht, hu, J, ha, hb, q⟩ := h
    refine ⟨_, pss_one (ps_ret (pe_cmpR op_eq (pe_op op_mul (pe_ix ix_tup (pv 0) (pv 2) (fun _ _ => rfl)) (pe_ix ix_tup (pv 1) (pv 3) (fun _ _ => rfl))) (pe_op op_mul (pe_ix ix_tup (pv 0) (pv 3) (fun _ _ => rfl)) (pe_ix ix_tup (pv 1) (pv 2) (fun _ _ => rfl))) (nomark _))), ?_⟩
    refine ⟨.ref t, rfl, .int (a : Nat), rfl, t, _, _, _, rfl, rfl, sqt ht, t_at (K := K) ha, .ref u, rfl, .int (b : Nat), rfl, u, _, _, _, rfl, rfl, sqt hu, w_at (K := K) J hb, _, _, rfl, rfl, .inl (small_t J a), ?_⟩
    refine ⟨.ref t, rfl, .int (b : Nat), rfl, t, _, _, _, rfl, rfl, sqt ht, t_at (K := K) hb, .ref u, rfl, .int (a : Nat), rfl, u, _, _, _, rfl, rfl, sqt hu, w_at (K := K) J ha, _, _, rfl, rfl, .inl (small_t J b), rfl, ?_⟩
    refine qv (Q := Q) (congrArg V.bl ?_) q
    rw [Bool.eq_iff_iff, decide_eq_true_iff]
    unfold Mt.alk
    rw [beq_iff_eq]
    exact ⟨fun e => V.int.inj e, fun e => congrArg V.int e⟩
theorem scCount : FnScope ["times", "weights", "order", "found", "at", "same"] ["times", "weights"] (defScope sCount) := ⟨rfl, rfl, rfl, by decide +kernel, rfl, by decide +kernel, by decide +kernel⟩
def spCount : Sp := fun vs H Q _ => ∃ (t u : Addr) (ts ws : List Int), vs = [.ref t, .ref u] ∧ H t = some (.tup (iv ts)) ∧ H u = some (.tup (iv ws)) ∧ Jb ts ws ∧ ts.length ≤ 8 ∧
  ∀ H' o, Same H H' → o.Perm (List.range ts.length) → Mt.Sd (Mt.tm ts) (Mt.wt ws) o → Q (.int (Mt.grp (Mt.tm ts) (Mt.wt ws) o : Nat)) H'
theorem ok_count {f g a : Addr} {fd gd ad : FuncData} (D : Df K mg "count_best" sCount ["times", "weights"] f fd) (G : Df K mg "ratio_order" sRatio ["times", "weights"] g gd) (L : Df K mg "are_alike" sAlike ["times", "weights", "one", "other"] a ad)
    (Z : Lm K mg) : FnOk P w K mg base CX0 6 f fd ["times", "weights"] spCount := by
  have OX : FnOk P w K mg base CX0 5 Z.x Z.xd ["times", "weights"] spNeedX := ok_needX Z.X Z.T Z.U Z.toLk
  have OR : FnOk P w K mg base CX0 1 g gd ["times", "weights"] spRatio := ok_ratio G Z.B
  have OL : FnOk P w K mg base CX0 1 a ad ["times", "weights", "one", "other"] spAlike := ok_alike L
  refine D.F.ok scCount (fun vs H Q E h => ?_) (fun cdv A outer s H vs Q E hr h => ?_)
  · obtain ⟨t, u, ts, ws, rfl, _⟩ := h
    rfl
  · obtain ⟨t, u, ts, ws, rfl, ht, hu, J, h8, q⟩ := h
    have hr1 : Room 1 _ := hr.mono (by decide)
    refine ⟨_, pss_cons (ps_expr (pe_call OX hr (by rfl) Z.X.gm Z.X.F.kp Z.X.b .nil pass0 (pa_cons (pv 0) (pa_cons (pv 1) pa_nil))))
      (pss_cons (ps_if (pt_cmpR op_gt (pe_callB call_len_seq (by rfl) Z.B.len PySem.boot_len (pa_cons (pv 0) pa_nil)) pe_int (nomark _)) (pss_one ps_never) pss_nil)
      (pss_cons (ps_par3 (by rfl) scCount.nd (i := 2) (j := 3) (l := 4) rfl rfl rfl (by decide) (by decide) (by decide) rfl rfl rfl (pa_cons (pe_call OR hr1 (by rfl) G.gm G.F.kp G.b .nil pass0 (pa_cons (pv 0) (pa_cons (pv 1) pa_nil))) (pa_cons pe_int (pa_cons pe_int pa_nil))) (by rfl))
      (pss_cons (ps_while PassesOwn.never (pt_cmpR op_lt (pv 4) (pe_callB call_len_seq (by rfl) Z.B.len PySem.boot_len (pa_cons (pv 2) pa_nil)) (nomark _))
        (pss_cons (ps_set (i := 5) scCount.nd rfl (.inl rfl) (pv 4))
        (pss_cons (ps_while PassesOwn.never (PW.pt (pw_and (pt_cmpR op_lt (pv 5) (pe_callB call_len_seq (by rfl) Z.B.len PySem.boot_len (pa_cons (pv 2) pa_nil)) (nomark _))
            (pw_and1 (pt_val (pe_call OL hr1 (by rfl) L.gm L.F.kp L.b .nil pass0 (pa_cons (pv 0) (pa_cons (pv 1) (pa_cons (pe_ix ix_tup (pv 2) (pv 4) (fun _ _ => rfl)) (pa_cons (pe_ix ix_tup (pv 2) (pv 5) (fun _ _ => rfl)) pa_nil)))))))))
          (pss_cons (ps_aug (i := 5) scCount.nd rfl (.inl rfl) pe_int ip_add)
          (pss_one (ps_set (i := 3) scCount.nd rfl (.inl rfl) (pe_op op_mul (pv 3) (pe_op op_sub (pv 5) (pv 4)))))))
        (pss_one (ps_set (i := 4) scCount.nd rfl (.inl rfl) (pv 5))))))
      (pss_one (ps_ret (pv 3)))))), ?_⟩
    refine ⟨.ref t, rfl, .ref u, rfl, t, u, ts, ws, rfl, ht, hu, J, fun H1 s1 => ?_⟩
    refine ⟨.ref t, rfl, t, _, rfl, .inr (sqt (s1 _ _ ht)), _, _, rfl, rfl, false, bf (by rw [iv_len]; omega), iteF ?_⟩
    refine ⟨.ref t, rfl, .ref u, rfl, t, u, ts, ws, rfl, s1 _ _ ht, s1 _ _ hu, J, fun H2 p o s2 np hp pm sd => ?_⟩
    have s12 := s1.trans s2
    have ol : o.length = ts.length := perm_len pm
    have lp : (iv (zs o)).length = ts.length := by rw [iv_len, zs_len, ol]
    refine ⟨_, _, _, rfl, ?_⟩
    -- the outer loop
    refine ⟨fun m σ H' => ∃ (F a : Nat) (y5 : Option V), σ = [some (.ref t), some (.ref u), some (.ref p), some (.int (F : Nat)), some (.int (a : Nat)), y5] ∧ H' = H2 ∧ a ≤ ts.length ∧ F * Mt.grp (Mt.tm ts) (Mt.wt ws) (o.drop a) = Mt.grp (Mt.tm ts) (Mt.wt ws) o ∧ m = ts.length - a,
      ⟨_, 1, 0, none, rfl, rfl, Nat.zero_le _, by rw [Nat.one_mul]; rfl, rfl⟩, fun m σ H' hW => ?_⟩
    obtain ⟨F, a, y5, rfl, rfl, hal, hg, rfl⟩ := hW
    refine ⟨.int (a : Nat), rfl, .ref p, rfl, p, _, rfl, .inr (sqt hp), _, _, rfl, rfl, _, rfl, ite2 (fun hc => ?_) (fun hc => ?_)⟩
    · have hc : a < ts.length := by
        have z := of_decide_eq_true hc
        rw [lp] at z
        omega
      obtain ⟨x, hx⟩ : ∃ x, o[a]? = some x := ⟨_, List.getElem?_eq_getElem (by omega)⟩
      have hxn : x < ts.length := perm_lt pm x (List.mem_of_getElem? hx)
      refine ⟨fun σ' H'' => ∃ (k : Nat), σ' = [some (.ref t), some (.ref u), some (.ref p), some (.int ((F * Mt.fct k : Nat) : Int)), some (.int ((a + k : Nat) : Int)), some (.int ((a + k : Nat) : Int))] ∧ H'' = H' ∧ 0 < k ∧ a + k ≤ ts.length ∧
        (F * Mt.fct k) * Mt.grp (Mt.tm ts) (Mt.wt ws) (o.drop (a + k)) = Mt.grp (Mt.tm ts) (Mt.wt ws) o, fun σ' H'' hN => ?_, ?_⟩
      · obtain ⟨k, rfl, rfl, k0, hk, e⟩ := hN
        exact ⟨ts.length - (a + k), by omega, _, _, _, rfl, rfl, hk, e, rfl⟩
      refine ⟨_, rfl, ?_⟩
      -- the inner loop
      refine ⟨fun m σ' H'' => ∃ (k : Nat), σ' = [some (.ref t), some (.ref u), some (.ref p), some (.int ((F * Mt.fct k : Nat) : Int)), some (.int (a : Nat)), some (.int ((a + k : Nat) : Int))] ∧ H'' = H' ∧ a + k ≤ ts.length ∧
        (∀ i y, i < k → o[a + i]? = some y → Mt.alk (Mt.tm ts) (Mt.wt ws) x y = true) ∧ m = ts.length - (a + k), ⟨_, 0, by rw [Nat.add_zero]; show _ = [_, _, _, some (V.int ((F * 1 : Nat) : Int)), _, _]; rw [Nat.mul_one]; rfl, rfl, by omega, fun i y hi => by omega, rfl⟩, fun m σ' H'' hV => ?_⟩
      obtain ⟨k, rfl, rfl, hk, hrun, rfl⟩ := hV
      -- what stands behind the inner loop
      have fin : (∀ y, o[a + k]? = some y → Mt.alk (Mt.tm ts) (Mt.wt ws) x y = false) → 0 < k ∧ (F * Mt.fct k) * Mt.grp (Mt.tm ts) (Mt.wt ws) (o.drop (a + k)) = Mt.grp (Mt.tm ts) (Mt.wt ws) o := fun he => by
        refine ⟨?_, ?_⟩
        · rcases Nat.eq_zero_or_pos k with z | z
          · subst z
            have z2 := he x hx
            rw [Mt.alk_refl] at z2
            cases z2
          · exact z
        · have e := Mt.grp_end J.tpos sd hx (by omega) hrun he
          rw [← hg, e, Nat.mul_assoc]
      refine ⟨.int ((a + k : Nat) : Int), rfl, .ref p, rfl, p, _, rfl, .inr (sqt hp), _, _, rfl, rfl, _, rfl, ite2 (fun hd => ?_) (fun hd => ?_)⟩
      · have hd : a + k < ts.length := by
          have z := of_decide_eq_true hd
          rw [lp] at z
          omega
        obtain ⟨y, hy⟩ : ∃ y, o[a + k]? = some y := ⟨_, List.getElem?_eq_getElem (by omega)⟩
        have hyn : y < ts.length := perm_lt pm y (List.mem_of_getElem? hy)
        refine ⟨.ref t, rfl, .ref u, rfl, .ref p, rfl, .int (a : Nat), rfl, p, _, _, _, rfl, rfl, sqt hp, atI_nat (jz_at hx), .ref p, rfl, .int ((a + k : Nat) : Int), rfl, p, _, _, _, rfl, rfl, sqt hp, atI_nat (jz_at hy), t, u, ts, ws, x, y, rfl, s12 _ _ ht, s12 _ _ hu, J, hxn, hyn, _, rfl, ?_⟩
        cases hb : Mt.alk (Mt.tm ts) (Mt.wt ws) x y with
        | true =>
          refine iteT ⟨fun σ' H3 => ∃ (k' : Nat), k' = k + 1 ∧ σ' = [some (.ref t), some (.ref u), some (.ref p), some (.int ((F * Mt.fct k' : Nat) : Int)), some (.int (a : Nat)), some (.int ((a + k' : Nat) : Int))] ∧ H3 = H'', fun σ' H3 hN => ?_, ?_⟩
          · obtain ⟨k', rfl, e1, e2⟩ := hN
            refine ⟨ts.length - (a + (k + 1)), by omega, k + 1, e1, e2, by omega, fun i z hi hz => ?_, rfl⟩
            by_cases q2 : i < k
            · exact hrun i z q2 hz
            · have e : i = k := by omega
              subst e
              rw [hy] at hz
              cases hz
              exact hb
          · refine ⟨.int ((a + k : Nat) : Int), rfl, _, _, rfl, rfl, ?_⟩
            refine ⟨.int ((F * Mt.fct k : Nat) : Int), rfl, _, rfl, .int (a : Nat), rfl, _, _, rfl, rfl, _, _, rfl, rfl, .inr (show -(2 ^ 64) < ((a + k : Nat) : Int) + 1 - (a : Nat) ∧ ((a + k : Nat) : Int) + 1 - (a : Nat) < 2 ^ 64 by omega), k + 1, rfl, ?_, rfl⟩
            have e1 : ((a + k : Nat) : Int) + 1 = ((a + (k + 1) : Nat) : Int) := by omega
            have e2 : ((F * Mt.fct k : Nat) : Int) * (((a + k : Nat) : Int) + 1 - (a : Nat)) = ((F * Mt.fct (k + 1) : Nat) : Int) := by
              rw [show ((a + k : Nat) : Int) + 1 - (a : Nat) = ((k + 1 : Nat) : Int) by omega, ← Int.natCast_mul, Nat.mul_assoc]
              rfl
            show [some (V.ref t), some (V.ref u), some (V.ref p), some (V.int (((F * Mt.fct k : Nat) : Int) * (((a + k : Nat) : Int) + 1 - (a : Nat)))), some (V.int (a : Nat)), some (V.int (((a + k : Nat) : Int) + 1))] = _
            rw [e2, e1]
        | false =>
          obtain ⟨k0, e⟩ := fin fun z hz => by
            rw [hy] at hz
            cases hz
            exact hb
          exact iteF ⟨_, rfl, k, rfl, rfl, k0, hk, e⟩
      · have hd : ts.length ≤ a + k := by
          refine Nat.le_of_not_lt fun z => hd (decide_eq_true ?_)
          rw [lp]
          omega
        obtain ⟨k0, e⟩ := fin fun z hz => by
          have := (List.getElem?_eq_some_iff.mp hz).1
          omega
        exact iteF ⟨_, rfl, k, rfl, rfl, k0, hk, e⟩
    · have hc : ts.length ≤ a := by
        refine Nat.le_of_not_lt fun z => hc (decide_eq_true ?_)
        rw [lp]
        omega
      have e0 : o.drop a = [] := List.drop_eq_nil_of_le (by omega)
      rw [e0] at hg
      have e1 : F = Mt.grp (Mt.tm ts) (Mt.wt ws) o := by
        rw [← hg]
        show F = F * 1
        omega
      refine ⟨_, rfl, ?_⟩
      rw [e1]
      exact q _ o s12 pm sd
end
end Kd
set_option Elab.async false
set_option linter.all false
set_option maxRecDepth 100000
set_option maxHeartbeats 4000000
/-! The law's draws. -/
namespace Kd
open PySem PySem.Spec PyProof.Rows L2
/-- the row of draws at r, over the script at a -/
def RowAt (r a : Addr) (H : Hp) : Prop := ∃ p q z : Int, H r = some (.lst [.ref a, .int p, .int q, .int z]) ∧ 0 ≤ p ∧ 0 ≤ q ∧ q < 4294967296
/-- the script at a, that a put at r leaves -/
def Scr (K : PySem.W.Frag) (r a : Addr) (ns : List Int) (H : Hp) : Prop := SqL K H a (iv ns) ∧ ∀ H', SameX r H H' → SqL K H' a (iv ns)
theorem Scr.sql {K : PySem.W.Frag} {r a : Addr} {ns : List Int} {H : Hp} (s : Scr K r a ns H) : SqL K H a (iv ns) := s.1
theorem Scr.keep {K : PySem.W.Frag} {r a : Addr} {ns : List Int} {H H' : Hp} (s : Scr K r a ns H) (e : SameX r H H') : Scr K r a ns H' := ⟨s.2 H' e, fun H2 e2 => s.2 H2 (e.trans e2)⟩
theorem Scr.start {K : PySem.W.Frag} {r a : Addr} {ns : List Int} {H : Hp} {o : HO} (h : SqL K H a (iv ns)) (n : H r = none) : Scr K r a ns (upd H r o) := by
  have key : ∀ H', SameX r (upd H r o) H' → SqL K H' a (iv ns) := fun H' e => by
    rcases h with (h | ⟨ob, h⟩) | h
    · have na : a ≠ r := ne_of_none h n
      exact .inl (.inl (e _ _ na ((upd_ne na).trans h)))
    · have na : a ≠ r := ne_of_none h n
      exact .inl (.inr ⟨ob, e _ _ na ((upd_ne na).trans h)⟩)
    · exact .inr h
  exact ⟨key _ (SameX.refl r _), key⟩
section
variable {P : Program} {w : World} {K : PySem.W.Frag} {mg : Str → Option Value} {base : Heap}
theorem scTaken : FnScope ["_law_row", "_law_many", "_law_found", "_law_cell"] ["_law_row", "_law_many"] (defScope sTaken) := ⟨rfl, rfl, rfl, by decide +kernel, rfl, by decide +kernel, by decide +kernel⟩
def spTaken (K : PySem.W.Frag) : Sp := fun vs H Q _ => ∃ (r a : Addr) (ns : List Int) (m : Int), vs = [.ref r, .int m] ∧ Scr K r a ns H ∧ RowAt r a H ∧ 0 < m ∧ m ≤ 1000000 ∧
  ∀ H' x, SameX r H H' → RowAt r a H' → 0 ≤ x → x < m → Q (.int x) H'
theorem ok_taken {f : Addr} {fd : FuncData} (D : Df K mg "_law_taken" sTaken ["_law_row", "_law_many"] f fd) (B : Bl mg) : FnOk P w K mg base CX0 1 f fd ["_law_row", "_law_many"] (spTaken K) := by
  refine D.F.ok scTaken (fun vs H Q E h => ?_) (fun cdv A outer s H vs Q E hr h => ?_)
  · obtain ⟨r, a, ns, m, rfl, _⟩ := h
    rfl
  · obtain ⟨r, a, ns, m, rfl, hS, ⟨p, q, z, hR, hp, hq0, hq1⟩, hm, hm2, k⟩ := h
    refine ⟨_, pss_cons (ps_if (pt_cmpR op_gt (pe_ix ix_list (pv 0) pe_int (fun _ _ => rfl)) pe_int (nomark _))
        (pss_cons (ps_set (i := 2) scTaken.nd rfl (.inl rfl) (pe_op op_mod (pe_callTy call_int1 (by rfl) B.int boot_int (pa_cons (pe_ix ix_list (pv 0) pe_int (fun _ _ => rfl)) pa_nil)) (pv 1)))
        (pss_cons (ps_asg (pe_op op_fdiv (pe_ix ix_list (pv 0) pe_int (fun _ _ => rfl)) (pv 1)) (pg_sub (pv 0) pe_int set_list))
        (pss_one (ps_ret (pv 2))))) pss_nil)
      (pss_cons (ps_asg (pe_op op_add (pe_ix ix_list (pv 0) pe_int (fun _ _ => rfl)) pe_int) (pg_sub (pv 0) pe_int set_list))
      (pss_cons (ps_if (pt_cmpR op_gt (pe_ix ix_list (pv 0) pe_int (fun _ _ => rfl)) (pe_callB call_len_seq (by rfl) B.len PySem.boot_len (pa_cons (pe_ix ix_list (pv 0) pe_int (fun _ _ => rfl)) pa_nil)) (nomark _))
        (pss_cons (ps_asg (pe_op op_mod (pe_callTy call_int1 (by rfl) B.int boot_int (pa_cons (pe_op op_add (pe_op op_mul (pe_ix ix_list (pv 0) pe_int (fun _ _ => rfl)) pe_int) pe_int) pa_nil)) pe_int) (pg_sub (pv 0) pe_int set_list))
        (pss_one (ps_ret (pe_op op_mod (pe_callTy call_int1 (by rfl) B.int boot_int (pa_cons (pe_op op_fdiv (pe_ix ix_list (pv 0) pe_int (fun _ _ => rfl)) pe_int) pa_nil)) (pv 1))))) pss_nil)
      (pss_cons (ps_set (i := 3) scTaken.nd rfl (.inl rfl) (pe_ix ix_list (pe_ix ix_list (pv 0) pe_int (fun _ _ => rfl)) (pe_op op_sub (pe_ix ix_list (pv 0) pe_int (fun _ _ => rfl)) pe_int) (fun _ _ => rfl)))
      (pss_cons (ps_asg (pe_op op_mod (pe_callTy call_int1 (by rfl) B.int boot_int (pa_cons (pe_op op_add (pe_op op_add (pe_op op_mul (pe_ix ix_list (pv 0) pe_int (fun _ _ => rfl)) pe_int) (pv 3)) pe_int) pa_nil)) pe_int) (pg_sub (pv 0) pe_int set_list))
      (pss_cons (ps_if (pt_cmpR op_ge (pv 3) (pe_op op_pow pe_int pe_int) (nomark _)) (pss_one (ps_asg (pe_op op_fdiv (pv 3) (pv 1)) (pg_sub (pv 0) pe_int set_list))) pss_nil)
      (pss_one (ps_ret (pe_op op_mod (pe_callTy call_int1 (by rfl) B.int boot_int (pa_cons (pv 3) pa_nil)) (pv 1))))))))), ?_⟩
    have i0 : ∀ (x0 x1 x2 x3 : V), atI [x0, x1, x2, x3] 0 = some x0 := fun _ _ _ _ => rfl
    have i1 : ∀ (x0 x1 x2 x3 : V), atI [x0, x1, x2, x3] 1 = some x1 := fun _ _ _ _ => rfl
    have i2 : ∀ (x0 x1 x2 x3 : V), atI [x0, x1, x2, x3] 2 = some x2 := fun _ _ _ _ => rfl
    have i3 : ∀ (x0 x1 x2 x3 : V), atI [x0, x1, x2, x3] 3 = some x3 := fun _ _ _ _ => rfl
    have m0 : ∀ x : Int, 0 ≤ x % m := fun x => Int.emod_nonneg x (by omega)
    have m1 : ∀ x : Int, x % m < m := fun x => Int.emod_lt_of_pos x hm
    have dv : (0 : Int) < m ∧ m < 1073741824 := ⟨hm, by omega⟩
    refine ⟨.ref r, rfl, r, _, 3, _, rfl, rfl, sql hR, i3 _ _ _ _, _, _, rfl, rfl, _, rfl, ite2 (fun hc => ?_) (fun hc => ?_)⟩
    · refine ⟨.ref r, rfl, r, _, 3, _, rfl, rfl, sql hR, i3 _ _ _ _, .inl ⟨_, rfl, .int m, rfl, _, _, rfl, rfl, hm, ?_⟩⟩
      refine ⟨.ref r, rfl, r, _, 3, _, rfl, rfl, sql hR, i3 _ _ _ _, .int m, rfl, _, _, rfl, rfl, dv, ?_⟩
      refine ⟨.ref r, rfl, r, _, 3, 3, rfl, rfl, hR, rfl, ?_⟩
      exact ⟨_, rfl, k _ _ SameX.put ⟨p, q, z / m, upd_same, hp, hq0, hq1⟩ (m0 z) (m1 z)⟩
    · refine ⟨.ref r, rfl, r, _, 1, _, rfl, rfl, sql hR, i1 _ _ _ _, _, _, rfl, rfl, ?_⟩
      refine ⟨.ref r, rfl, r, _, 1, 1, rfl, rfl, hR, rfl, ?_⟩
      have hR1 : (upd H r (.lst ([V.ref a, .int p, .int q, .int z].set 1 (.int (p + 1))))) r = some (.lst [.ref a, .int (p + 1), .int q, .int z]) := upd_same
      have hS1 : SqL K (upd H r (.lst ([V.ref a, .int p, .int q, .int z].set 1 (.int (p + 1))))) a (iv ns) := (hS.keep SameX.put).sql
      have sx1 : SameX r H (upd H r (.lst ([V.ref a, .int p, .int q, .int z].set 1 (.int (p + 1))))) := SameX.put
      generalize upd H r (.lst ([V.ref a, .int p, .int q, .int z].set 1 (.int (p + 1)))) = H1 at hR1 hS1 sx1 ⊢
      refine ⟨.ref r, rfl, r, _, 1, _, rfl, rfl, sql hR1, i1 _ _ _ _, .ref r, rfl, r, _, 0, _, rfl, rfl, sql hR1, i0 _ _ _ _, a, _, rfl, .inl hS1, _, _, rfl, rfl, _, rfl, ite2 (fun hd => ?_) (fun hd => ?_)⟩
      · refine ⟨.ref r, rfl, r, _, 2, _, rfl, rfl, sql hR1, i2 _ _ _ _, _, _, rfl, rfl, .inl ⟨by omega, by omega⟩, _, _, rfl, rfl, .inl ⟨_, rfl, _, _, rfl, rfl, (by show (0 : Int) < 2147483647; decide), ?_⟩⟩
        refine ⟨.ref r, rfl, r, _, 2, 2, rfl, rfl, hR1, rfl, ?_⟩
        have b0 : 0 ≤ (q * 48271 + 11) % 2147483647 := Int.emod_nonneg _ (by omega)
        have b1 : (q * 48271 + 11) % 2147483647 < 2147483647 := Int.emod_lt_of_pos _ (by omega)
        refine ⟨.ref r, rfl, r, _, 2, _, rfl, rfl, sql upd_same, i2 _ _ _ _, _, _, rfl, rfl, ⟨(by show (0 : Int) < 7; decide), (by show (7 : Int) < 1073741824; decide)⟩, .inl ⟨_, rfl, .int m, rfl, _, _, rfl, rfl, hm, ?_⟩⟩
        exact k _ _ (sx1.trans SameX.put) ⟨p + 1, _, z, upd_same, by omega, b0, Int.lt_trans b1 (by decide)⟩ (m0 _) (m1 _)
      · have hd : p < ns.length := by
          refine Int.not_le.mp fun y => hd (decide_eq_true ?_)
          show ((iv ns).length : Int) < p + 1
          rw [iv_len]
          omega
        obtain ⟨j, rfl⟩ := Int.eq_ofNat_of_zero_le hp
        have hj : j < ns.length := by omega
        have ej : (j : Int) + 1 - 1 = (j : Nat) := by omega
        refine ⟨.ref r, rfl, r, _, 0, _, rfl, rfl, sql hR1, i0 _ _ _ _, .ref r, rfl, r, _, 1, _, rfl, rfl, sql hR1, i1 _ _ _ _, _, _, rfl, rfl, a, _, _, _, rfl, rfl, hS1, at_nat ej (iv_at (List.getElem?_eq_getElem hj)), ?_⟩
        refine ⟨.ref r, rfl, r, _, 2, _, rfl, rfl, sql hR1, i2 _ _ _ _, _, _, rfl, rfl, .inl ⟨by omega, by omega⟩, .int ns[j], rfl, _, _, rfl, rfl, _, _, rfl, rfl, .inl ⟨_, rfl, _, _, rfl, rfl, (by show (0 : Int) < 2147483647; decide), ?_⟩⟩
        refine ⟨.ref r, rfl, r, _, 2, 2, rfl, rfl, hR1, rfl, ?_⟩
        have b0 : 0 ≤ (q * 48271 + ns[j] + 11) % 2147483647 := Int.emod_nonneg _ (by omega)
        have b1 : (q * 48271 + ns[j] + 11) % 2147483647 < 2147483647 := Int.emod_lt_of_pos _ (by omega)
        have hR2 : (upd H1 r (.lst ([V.ref a, .int ((j : Int) + 1), .int q, .int z].set 2 (.int ((q * 48271 + ns[j] + 11) % 2147483647))))) r = some (.lst [.ref a, .int ((j : Int) + 1), .int ((q * 48271 + ns[j] + 11) % 2147483647), .int z]) := upd_same
        have sx2 : SameX r H (upd H1 r (.lst ([V.ref a, .int ((j : Int) + 1), .int q, .int z].set 2 (.int ((q * 48271 + ns[j] + 11) % 2147483647))))) := sx1.trans SameX.put
        refine ⟨.int ns[j], rfl, _, _, rfl, rfl, ⟨(by show (0 : Int) ≤ 18; decide), (by show (18 : Int) ≤ 1000000; decide), (by show (10 : Int).natAbs < 2 ^ 64; decide)⟩, _, _, rfl, rfl, _, rfl, ite2 (fun he => ?_) (fun he => ?_)⟩
        · refine ⟨.int ns[j], rfl, .int m, rfl, _, _, rfl, rfl, dv, ?_⟩
          refine ⟨.ref r, rfl, r, _, 3, 3, rfl, rfl, hR2, rfl, ?_⟩
          refine ⟨.int ns[j], rfl, .inl ⟨_, rfl, .int m, rfl, _, _, rfl, rfl, hm, ?_⟩⟩
          exact k _ _ (sx2.trans SameX.put) ⟨_, _, _, upd_same, by omega, b0, Int.lt_trans b1 (by decide)⟩ (m0 _) (m1 _)
        · refine ⟨.int ns[j], rfl, .inl ⟨_, rfl, .int m, rfl, _, _, rfl, rfl, hm, ?_⟩⟩
          exact k _ _ sx2 ⟨_, _, _, hR2, by omega, b0, Int.lt_trans b1 (by decide)⟩ (m0 _) (m1 _)
theorem scPick : FnScope ["_law_row", "_law_things"] ["_law_row", "_law_things"] (defScope sPick) := ⟨rfl, rfl, rfl, by decide +kernel, rfl, by decide +kernel, by decide +kernel⟩
def spPick (K : PySem.W.Frag) : Sp := fun vs H Q _ => ∃ (r a l : Addr) (ns xs : List Int), vs = [.ref r, .ref l] ∧ Scr K r a ns H ∧ RowAt r a H ∧ l ≠ r ∧ SqL K H l (iv xs) ∧ 0 < xs.length ∧ xs.length ≤ 1000 ∧
  ∀ H' x, SameX r H H' → RowAt r a H' → x ∈ xs → Q (.int x) H'
theorem ok_pick {f g : Addr} {fd gd : FuncData} (D : Df K mg "_law_pick" sPick ["_law_row", "_law_things"] f fd) (G : Df K mg "_law_taken" sTaken ["_law_row", "_law_many"] g gd) (B : Bl mg) : FnOk P w K mg base CX0 2 f fd ["_law_row", "_law_things"] (spPick K) := by
  have GG : FnOk P w K mg base CX0 1 g gd ["_law_row", "_law_many"] (spTaken K) := ok_taken G B
  refine D.F.ok scPick (fun vs H Q E h => ?_) (fun cdv A outer s H vs Q E hr h => ?_)
  · obtain ⟨r, a, l, ns, xs, rfl, _⟩ := h
    rfl
  · obtain ⟨r, a, l, ns, xs, rfl, hS, hR, hlr, hL, h0, h1, k⟩ := h
    refine ⟨_, pss_one (ps_ret (pe_ix ix_list (pv 1) (pe_call GG hr (by rfl) G.gm G.F.kp G.b .nil pass0 (pa_cons (pv 0) (pa_cons (pe_callB call_len_seq (by rfl) B.len PySem.boot_len (pa_cons (pv 1) pa_nil)) pa_nil))) (fun _ _ => rfl))), ?_⟩
    refine ⟨.ref l, rfl, .ref r, rfl, .ref l, rfl, l, _, rfl, .inl hL, r, a, ns, _, rfl, hS, hR, by rw [iv_len]; omega, by rw [iv_len]; omega, fun H1 x sx hR1 x0 x1 => ?_⟩
    rw [iv_len] at x1
    obtain ⟨j, rfl⟩ := Int.eq_ofNat_of_zero_le x0
    have hj : j < xs.length := by omega
    exact ⟨l, _, _, _, rfl, rfl, sx.sql hlr hL, atI_nat (iv_at (List.getElem?_eq_getElem hj)), k H1 _ sx hR1 (List.getElem_mem hj)⟩
end
end Kd
set_option Elab.async false
set_option linter.all false
set_option maxRecDepth 100000
set_option maxHeartbeats 4000000
/-! The law's drawn jobs. -/
namespace Kd
open PySem PySem.Spec PyProof.Rows L2
theorem SameX.new {r l : Addr} {H H1 : Hp} {o : HO} (e : SameX r H H1) (h : H1 l = none) : SameX r H (upd H1 l o) := fun b x n q => by
  have q1 := e b x n q
  rw [upd_ne (ne_of_none q1 h)]
  exact q1
theorem RowAt.new {r a l : Addr} {H : Hp} {o : HO} (R : RowAt r a H) (h : H l = none) : RowAt r a (upd H l o) := by
  obtain ⟨p, q, z, e, x⟩ := R
  exact ⟨p, q, z, (upd_ne (ne_of_none e h)).trans e, x⟩
theorem RowAt.ne {r a l : Addr} {H : Hp} (R : RowAt r a H) (h : H l = none) : l ≠ r := by
  obtain ⟨p, q, z, e, x⟩ := R
  exact (ne_of_none e h).symm
/-- a put at what was new ahead of a stretch -/
theorem SameX.putN {r l : Addr} {H H1 : Hp} {o : HO} (e : SameX r H H1) (h : H l = none) : SameX r H (upd H1 l o) := fun b x n q => by
  rw [upd_ne (ne_of_none q h)]
  exact e b x n q
theorem RowAt.putN {r a l : Addr} {H : Hp} {o : HO} (R : RowAt r a H) (n : l ≠ r) : RowAt r a (upd H l o) := by
  obtain ⟨p, q, z, e, x⟩ := R
  exact ⟨p, q, z, (upd_ne n.symm).trans e, x⟩
/-- a list that is being drawn at D: i numbers, each with c -/
structure Dr (r a D : Addr) (c : Int → Prop) (H0 : Hp) (i : Nat) (H' : Hp) : Prop where
  sx : SameX r H0 H'
  row : RowAt r a H'
  xs : ∃ xs : List Int, xs.length = i ∧ (∀ x ∈ xs, c x) ∧ H' D = some (.lst (iv xs))
theorem Dr.start {r a D : Addr} {c : Int → Prop} {H0 : Hp} (R : RowAt r a H0) (n : H0 D = none) : Dr r a D c H0 0 (upd H0 D (.lst [])) :=
  ⟨(SameX.refl r H0).new n, R.new n, [], rfl, fun x hx => (by cases hx), upd_same⟩
theorem Dr.step {r a D : Addr} {c : Int → Prop} {H0 H1 H2 : Hp} {i : Nat} {y : Int} (d : Dr r a D c H0 i H1) (n : H0 D = none) (nr : D ≠ r) (sx : SameX r H1 H2) (R : RowAt r a H2) (hy : c y) (hi : i < 1000) :
    ∃ acc, H2 D = some (.lst acc) ∧ acc.length < sizeLine ∧ Dr r a D c H0 (i + 1) (upd H2 D (.lst (acc ++ [.int y]))) := by
  obtain ⟨xs, hl, hc, hD⟩ := d.xs
  refine ⟨iv xs, sx _ _ nr hD, by rw [iv_len]; exact sz' (by omega), ⟨(d.sx.trans sx).putN n, R.putN nr, xs ++ [y], by simp [hl], fun x hx => ?_, by rw [upd_same, iv_snoc]⟩⟩
  rcases List.mem_append.mp hx with z | z
  · exact hc x z
  · have : x = y := by simpa using z
    rw [this]
    exact hy
theorem sum_bounds : ∀ {ts : List Int}, (∀ x ∈ ts, 1 ≤ x ∧ x ≤ 60) → 0 ≤ ts.sum ∧ ts.sum ≤ 60 * ts.length
  | [], _ => by simp
  | x :: ts, h => by
    have ih := sum_bounds (ts := ts) fun y hy => h y (List.mem_cons_of_mem _ hy)
    have hx := h x (by simp)
    rw [List.sum_cons, List.length_cons]
    omega
section
variable {P : Program} {w : World} {K : PySem.W.Frag} {mg : Str → Option Value} {base : Heap}
theorem scJobs : FnScope ["_law_row", "_law_most", "_law_time", "_law_many", "_law_top", "_law_wide", "_law_times", "_law_weights", "_law_last", "_law_dues", "_law_at"] ["_law_row", "_law_most", "_law_time"] (defScope sJobs) := ⟨rfl, rfl, rfl, by decide +kernel, rfl, by decide +kernel, by decide +kernel⟩
def spJobs (K : PySem.W.Frag) : Sp := fun vs H Q _ => ∃ (r a : Addr) (ns : List Int) (m t : Int), vs = [.ref r, .int m, .int t] ∧ Scr K r a ns H ∧ RowAt r a H ∧ 1 ≤ m ∧ m ≤ 10 ∧ 2 ≤ t ∧ t ≤ 60 ∧
  ∀ H' p tt tu td ts ws ds, SameX r H H' → RowAt r a H' → H' p = some (.tup [.ref tt, .ref tu, .ref td]) → H' tt = some (.tup (iv ts)) → H' tu = some (.tup (iv ws)) → H' td = some (.tup (iv ds)) → Jb ts ws → (ts.length : Int) ≤ m → Q (.ref p) H'
theorem ok_jobs {f g h : Addr} {fd gd hd : FuncData} (D : Df K mg "_law_jobs" sJobs ["_law_row", "_law_most", "_law_time"] f fd) (G : Df K mg "_law_taken" sTaken ["_law_row", "_law_many"] g gd) (L : Df K mg "_law_pick" sPick ["_law_row", "_law_things"] h hd)
    (B : Bl mg) : FnOk P w K mg base CX0 3 f fd ["_law_row", "_law_most", "_law_time"] (spJobs K) := by
  have GT : FnOk P w K mg base CX0 1 g gd ["_law_row", "_law_many"] (spTaken K) := ok_taken G B
  have GP : FnOk P w K mg base CX0 2 h hd ["_law_row", "_law_things"] (spPick K) := ok_pick L G B
  refine D.F.ok scJobs (fun vs H Q E h => ?_) (fun cdv A outer s H vs Q E hr h => ?_)
  · obtain ⟨r, a, ns, m, t, rfl, _⟩ := h
    rfl
  · obtain ⟨r, a, ns, m, t, rfl, hS, hR, m1, m10, t2, t60, k⟩ := h
    have hr1 : Room 1 _ := hr.mono (by decide)
    refine ⟨_, pss_cons (ps_asg (pe_tup (pa_cons (pe_op op_add pe_int (pe_call GT hr1 (by rfl) G.gm G.F.kp G.b .nil pass0 (pa_cons (pv 0) (pa_cons (pv 1) pa_nil))))
          (pa_cons (pe_call GP hr (by rfl) L.gm L.F.kp L.b .nil pass0 (pa_cons (pv 0) (pa_cons (pe_lst (pa_cons pe_int (pa_cons (pv 2) pa_nil))) pa_nil)))
          (pa_cons (pe_call GP hr (by rfl) L.gm L.F.kp L.b .nil pass0 (pa_cons (pv 0) (pa_cons (pe_lst (pa_cons pe_int (pa_cons pe_int (pa_cons pe_int pa_nil)))) pa_nil))) pa_nil))))
        (pg_tup rfl (pgs_cons (pg_name (i := 3) scJobs.nd rfl (.inl rfl)) (pgs_cons (pg_name (i := 4) scJobs.nd rfl (.inr rfl)) (pgs_cons (pg_name (i := 5) scJobs.nd rfl (.inr rfl)) pgs_nil)))))
      (pss_cons (ps_set (i := 6) scJobs.nd rfl (.inl rfl) (pe_callTy call_tuple_of (by rfl) B.tuple boot_tuple (pa_cons (pe_lc (own := [("_law_at", 10)]) (g := gName 10) (tt := tYes) rfl scJobs.nd (pi_range1 (by rfl) B.range (pa_cons (pv 3) pa_nil))
          (blkOk_by (own := [("_law_at", 10)]) (N := ["_law_row", "_law_most", "_law_time", "_law_many", "_law_top", "_law_wide", "_law_times", "_law_weights", "_law_last", "_law_dues", "_law_at"]) (sc := defScope sJobs) (by decide +kernel))
          (fun _ _ _ _ _ => pg_name (i := 10) scJobs.nd rfl (.inl rfl)) (fun _ _ _ _ _ => pts_nil) (fun _ _ _ _ _ => pe_op op_add pe_int (pe_call GT hr1 (by rfl) G.gm G.F.kp G.b .nil pass0 (pa_cons (pv 0) (pa_cons (pv 4) pa_nil))))) pa_nil)))
      (pss_cons (ps_set (i := 7) scJobs.nd rfl (.inl rfl) (pe_callTy call_tuple_of (by rfl) B.tuple boot_tuple (pa_cons (pe_lc (own := [("_law_at", 10)]) (g := gName 10) (tt := tYes) rfl scJobs.nd (pi_range1 (by rfl) B.range (pa_cons (pv 3) pa_nil))
          (blkOk_by (own := [("_law_at", 10)]) (N := ["_law_row", "_law_most", "_law_time", "_law_many", "_law_top", "_law_wide", "_law_times", "_law_weights", "_law_last", "_law_dues", "_law_at"]) (sc := defScope sJobs) (by decide +kernel))
          (fun _ _ _ _ _ => pg_name (i := 10) scJobs.nd rfl (.inl rfl)) (fun _ _ _ _ _ => pts_nil) (fun _ _ _ _ _ => pe_call GT hr1 (by rfl) G.gm G.F.kp G.b .nil pass0 (pa_cons (pv 0) (pa_cons (pe_op op_add (pv 5) pe_int) pa_nil)))) pa_nil)))
      (pss_cons (ps_set (i := 8) scJobs.nd rfl (.inr rfl) (pe_op op_add (pe_callB (cr_sumT rfl) (by rfl) B.sum (by decide +kernel) (pa_cons (pv 6) pa_nil)) pe_int))
      (pss_cons (ps_set (i := 9) scJobs.nd rfl (.inl rfl) (pe_callTy call_tuple_of (by rfl) B.tuple boot_tuple (pa_cons (pe_lc (own := [("_law_at", 10)]) (g := gName 10) (tt := tYes) rfl scJobs.nd (pi_range1 (by rfl) B.range (pa_cons (pv 3) pa_nil))
          (blkOk_by (own := [("_law_at", 10)]) (N := ["_law_row", "_law_most", "_law_time", "_law_many", "_law_top", "_law_wide", "_law_times", "_law_weights", "_law_last", "_law_dues", "_law_at"]) (sc := defScope sJobs) (by decide +kernel))
          (fun _ _ _ _ _ => pg_name (i := 10) scJobs.nd rfl (.inl rfl)) (fun _ _ _ _ _ => pts_nil) (fun _ _ _ _ _ => pe_call GT hr1 (by rfl) G.gm G.F.kp G.b .nil pass0 (pa_cons (pv 0) (pa_cons (pv 8) pa_nil)))) pa_nil)))
      (pss_one (ps_ret (pe_tup (pa_cons (pv 6) (pa_cons (pv 7) (pa_cons (pv 9) pa_nil)))))))))), ?_⟩
    -- how many, the top, the width
    refine ⟨.ref r, rfl, .int m, rfl, r, a, ns, m, rfl, hS, hR, by omega, by omega, fun H1 x sx1 R1 x0 x1 => ?_⟩
    refine ⟨1, x, rfl, rfl, .ref r, rfl, .int t, rfl, sz (by show 2 ≤ 100000; omega), fun l nl => ?_⟩
    have sx1' := sx1.new (o := .lst [V.int 2, .int t]) nl
    refine ⟨r, a, l, ns, [2, t], rfl, hS.keep sx1', R1.new nl, R1.ne nl, sql upd_same, by simp, by simp, fun H2 y sx2 R2 hy => ?_⟩
    have sx2' := sx1'.trans sx2
    refine ⟨.ref r, rfl, sz (by show 3 ≤ 100000; omega), fun l2 nl2 => ?_⟩
    have sx2'' := sx2'.new (o := .lst [V.int 1, .int 3, .int 9]) nl2
    refine ⟨r, a, l2, ns, [1, 3, 9], rfl, hS.keep sx2'', R2.new nl2, R2.ne nl2, sql upd_same, by simp, by simp, fun H3 z sx3 R3 hz => ?_⟩
    have sx3' := sx2''.trans sx3
    refine ⟨sz (by show 3 ≤ 100000; omega), fun e ne => ?_⟩
    have sx4 := sx3'.new (o := .tup [V.int (1 + x), .int y, .int z]) ne
    have R4 := R3.new (o := .tup [V.int (1 + x), .int y, .int z]) ne
    refine ⟨e, _, rfl, sqt upd_same, rfl, _, _, rfl, _, _, rfl, _, [], rfl, rfl, ?_⟩
    generalize upd H3 e (.tup [V.int (1 + x), .int y, .int z]) = H4 at sx4 R4
    obtain ⟨n, rfl⟩ := Int.eq_ofNat_of_zero_le x0
    have en : (1 + (n : Int)).toNat = n + 1 := by omega
    have hy : 2 ≤ y ∧ y ≤ 60 := by
      have q : y = 2 ∨ y = t := by simpa using hy
      omega
    have hz : 1 ≤ z ∧ z ≤ 9 := by
      have q : z = 1 ∨ z = 3 ∨ z = 9 := by simpa using hz
      omega
    -- the times
    refine ⟨_, rfl, 1 + (n : Int), rfl, by omega, by omega, fun d nd => ?_⟩
    refine lc_it walk_range (Dr r a d (fun x => 1 ≤ x ∧ x ≤ 60) H4) (.start R4 nd) (fun i H' _ _ => True.intro) (fun i v H5 H6 hi hP hY => ?_) (fun H5 hP => ?_)
    · obtain ⟨rfl, rfl⟩ := hY
      refine ⟨rfl, .ref r, rfl, .int y, rfl, r, a, ns, y, rfl, hS.keep (sx4.trans hP.sx), hP.row, by omega, by omega, fun H7 x' sx7 R7 x0' x1' => ⟨1, x', rfl, rfl, ?_⟩⟩
      exact hP.step nd (R4.ne nd) sx7 R7 (by omega) (by omega)
    rw [en] at hP
    obtain ⟨sx5, R5, ts, hts, bts, hD⟩ := hP
    refine ⟨d, _, rfl, .inl ⟨sql hD, fun tt ntt => ?_⟩⟩
    have sx6 := (sx4.trans sx5).new (o := .tup (iv ts)) ntt
    have R6 := R5.new (o := .tup (iv ts)) ntt
    have htt : (upd H5 tt (.tup (iv ts))) tt = some (.tup (iv ts)) := upd_same
    generalize upd H5 tt (.tup (iv ts)) = H6 at sx6 R6 htt
    -- the weights
    refine ⟨_, rfl, 1 + (n : Int), rfl, by omega, by omega, fun d2 nd2 => ?_⟩
    refine lc_it walk_range (Dr r a d2 (fun x => 0 ≤ x ∧ x ≤ 60) H6) (.start R6 nd2) (fun i H' _ _ => True.intro) (fun i v H7 H8 hi hP hY => ?_) (fun H7 hP => ?_)
    · obtain ⟨rfl, rfl⟩ := hY
      refine ⟨rfl, .ref r, rfl, .int z, rfl, z, 1, rfl, rfl, r, a, ns, z + 1, rfl, hS.keep (sx6.trans hP.sx), hP.row, by omega, by omega, fun H9 x' sx9 R9 x0' x1' => ?_⟩
      exact hP.step nd2 (R6.ne nd2) sx9 R9 (by omega) (by omega)
    rw [en] at hP
    obtain ⟨sx7, R7, ws, hws, bws, hD2⟩ := hP
    refine ⟨d2, _, rfl, .inl ⟨sql hD2, fun tu ntu => ?_⟩⟩
    have ntr : tt ≠ r := by
      obtain ⟨_, _, _, e1, _⟩ := R6
      exact ne_of htt e1 (fun q => by cases q)
    have sx8 := (sx6.trans sx7).new (o := .tup (iv ws)) ntu
    have R8 := R7.new (o := .tup (iv ws)) ntu
    have htt8 : (upd H7 tu (.tup (iv ws))) tt = some (.tup (iv ts)) := by
      have q := sx7 _ _ ntr htt
      rw [upd_ne (ne_of_none q ntu)]
      exact q
    have htu : (upd H7 tu (.tup (iv ws))) tu = some (.tup (iv ws)) := upd_same
    generalize upd H7 tu (.tup (iv ws)) = H8 at sx8 R8 htt8 htu
    -- the last day, the due days
    have bs := sum_bounds bts
    refine ⟨.ref tt, rfl, tt, ts, rfl, sqt htt8, _, _, rfl, rfl, ?_⟩
    refine ⟨_, rfl, 1 + (n : Int), rfl, by omega, by omega, fun d3 nd3 => ?_⟩
    refine lc_it walk_range (Dr r a d3 (fun _ => True) H8) (.start R8 nd3) (fun i H' _ _ => True.intro) (fun i v H9 H10 hi hP hY => ?_) (fun H9 hP => ?_)
    · obtain ⟨rfl, rfl⟩ := hY
      refine ⟨rfl, .ref r, rfl, .int (ts.sum + 2), rfl, r, a, ns, ts.sum + 2, rfl, hS.keep (sx8.trans hP.sx), hP.row, by omega, by omega, fun H11 x' sx11 R11 x0' x1' => ?_⟩
      exact hP.step nd3 (R8.ne nd3) sx11 R11 True.intro (by omega)
    obtain ⟨sx9, R9, ds, hds, _, hD3⟩ := hP
    refine ⟨d3, _, rfl, .inl ⟨sql hD3, fun td ntd => ?_⟩⟩
    have nur : tu ≠ r := by
      obtain ⟨_, _, _, e1, _⟩ := R8
      exact ne_of htu e1 (fun q => by cases q)
    have h1 := sx9 _ _ ntr htt8
    have h2 := sx9 _ _ nur htu
    refine ⟨.ref tt, rfl, .ref tu, rfl, .ref td, rfl, sz (by show 3 ≤ 100000; omega), fun p np => ?_⟩
    have g1 : (upd H9 td (.tup (iv ds))) tt = some (.tup (iv ts)) := (upd_ne (ne_of_none h1 ntd)).trans h1
    have g2 : (upd H9 td (.tup (iv ds))) tu = some (.tup (iv ws)) := (upd_ne (ne_of_none h2 ntd)).trans h2
    have g3 : (upd H9 td (.tup (iv ds))) td = some (.tup (iv ds)) := upd_same
    refine k _ p tt tu td ts ws ds (((sx8.trans sx9).new ntd).new np) ((R9.new ntd).new np) upd_same ((upd_ne (ne_of_none g1 np)).trans g1) ((upd_ne (ne_of_none g2 np)).trans g2) ((upd_ne (ne_of_none g3 np)).trans g3)
      ⟨by rw [hws, hts], by omega, by omega, bts, bws⟩ (by omega)
end
end Kd
set_option Elab.async false
set_option linter.all false
set_option maxRecDepth 100000
set_option maxHeartbeats 4000000
/-! The law's likeness, its drawn order, all orders. -/
namespace Kd
open PySem PySem.Spec PyProof.Rows L2
def tNoE : TE := fun _ _ _ => False
def tNoT : TT := fun _ _ _ => False
theorem pe_never {X : Cx} {e : Expr} : PE X e tNoE := ⟨fun _ _ _ _ _ _ h => h.elim⟩
theorem pts_never {X : Cx} {es : List Expr} : PTs X es tNoT := ⟨fun _ _ _ _ _ _ h => h.elim⟩
section
variable {P : Program} {w : World} {K : PySem.W.Frag} {mg : Str → Option Value} {base : Heap}
theorem any_no : PySem.W.kitAny K (.type "int") [.type "tuple", .type "list"] = some false :=
  kitAny_cons (kit_ty (by decide +kernel : kitB "int" "tuple" = some false)) (fun _ => kitAny_cons (kit_ty (by decide +kernel : kitB "int" "list" = some false)) (fun _ => kitAny_nil) fun z => nomatch z) fun z => nomatch z
theorem any_yes : PySem.W.kitAny K (.type "tuple") [.type "tuple", .type "list"] = some true :=
  kitAny_cons (kit_ty (by decide +kernel : kitB "tuple" "tuple" = some true)) (fun z => nomatch z) fun _ => rfl
theorem cls2 : Paired ClsV [.ty "tuple", .ty "list"] [.type "tuple", .type "list"] := .cons (.ty _) (.cons (.ty _) .nil)
theorem scLAlike : FnScope ["_law_found", "_law_due", "_law_k"] ["_law_found", "_law_due"] (defScope sLAlike) := ⟨rfl, rfl, rfl, by decide +kernel, rfl, by decide +kernel, by decide +kernel⟩
def spLAI : Sp := fun vs H Q _ => ∃ x : Int, vs = [.int x, .int x] ∧ ∀ H', Same H H' → Q (.bl true) H'
theorem ok_lai {f : Addr} {fd : FuncData} (D : Df K mg "_law_alike" sLAlike ["_law_found", "_law_due"] f fd) (B : Bl mg) : FnOk P w K mg base CX0 1 f fd ["_law_found", "_law_due"] spLAI := by
  refine D.F.ok scLAlike (fun vs H Q E h => ?_) (fun cdv A outer s H vs Q E hr h => ?_)
  · obtain ⟨x, rfl, _⟩ := h
    rfl
  · obtain ⟨x, rfl, q⟩ := h
    refine ⟨_, pss_cons (ps_if (pt_val (pe_callB call_isiT (by rfl) B.isi boot_isinstance (pa_cons (pv 1) (pa_cons (pe_tup (pa_cons (pe_bltn (v := .ty "tuple") (by rfl) B.tuple boot_tuple rfl) (pa_cons (pe_bltn (v := .ty "list") (by rfl) B.list boot_list rfl) pa_nil))) pa_nil))))
        (pss_cons ps_never (pss_cons ps_never (pss_one ps_never))) pss_nil)
      (pss_cons (ps_if (PW.pt (pw_or (pt_cmpR op_isN (pv 1) pe_non (nomark _)) (pw_or1 (pt_val (pe_callB call_isi (by rfl) B.isi boot_isinstance (pa_cons (pv 1) (pa_cons (pe_bltn (v := .ty "str") (by rfl) B.str boot_str rfl) pa_nil))))))) (pss_one ps_never) pss_nil)
      (pss_one (ps_ret (pe_and (pe_callB call_isi (by rfl) B.isi boot_isinstance (pa_cons (pv 0) (pa_cons (pe_bltn (v := .ty "int") (by rfl) B.int boot_int rfl) pa_nil)))
        (pe_and (pe_cmpR op_eq (pe_callB call_isi (by rfl) B.isi boot_isinstance (pa_cons (pv 0) (pa_cons (pe_bltn (v := .ty "bool") (by rfl) B.bool boot_bool rfl) pa_nil))) (pe_callB call_isi (by rfl) B.isi boot_isinstance (pa_cons (pv 1) (pa_cons (pe_bltn (v := .ty "bool") (by rfl) B.bool boot_bool rfl) pa_nil))) (nomark _))
        (pe_one (pe_cmpR op_eq (pv 0) (pv 1) (nomark _)))))))), ?_⟩
    refine ⟨.int x, rfl, sz (by show 2 ≤ 100000; omega), fun p np => ?_⟩
    refine ⟨.int x, p, _, _, _, false, rfl, upd_same, cls2, .base (.int x), any_no, false, rfl, iteF ?_⟩
    refine ⟨.int x, rfl, rfl, false, bf (fun z => nomatch z), iteF ?_⟩
    refine ⟨.int x, rfl, .int x, .ty "str", _, _, false, rfl, .ty "str", .base (.int x), kit_ty (by decide +kernel), false, rfl, iteF ?_⟩
    refine ⟨.int x, rfl, .int x, .ty "int", _, _, true, rfl, .ty "int", .base (.int x), kit_ty (by decide +kernel), true, rfl, iteT ?_⟩
    refine ⟨.int x, rfl, .int x, .ty "bool", _, _, false, rfl, .ty "bool", .base (.int x), kit_ty (by decide +kernel), .int x, rfl, .int x, .ty "bool", _, _, false, rfl, .ty "bool", .base (.int x), kit_ty (by decide +kernel), rfl, true, rfl, iteT ?_⟩
    refine ⟨.int x, rfl, .int x, rfl, rfl, ?_⟩
    exact qv (Q := Q) (bt rfl) (q _ (same_new np))
def spLAT : Sp := fun vs H Q _ => ∃ (a b : Addr) (xs : List Int), vs = [.ref a, .ref b] ∧ H a = some (.tup (iv xs)) ∧ H b = some (.tup (iv xs)) ∧ xs.length ≤ 1000 ∧ ∀ H', Same H H' → Q (.bl true) H'
theorem ok_lat {f : Addr} {fd : FuncData} (D : Df K mg "_law_alike" sLAlike ["_law_found", "_law_due"] f fd) (B : Bl mg) : FnOk P w K mg base CX0 2 f fd ["_law_found", "_law_due"] spLAT := by
  have OI : FnOk P w K mg base CX0 1 f fd ["_law_found", "_law_due"] spLAI := ok_lai D B
  refine D.F.ok scLAlike (fun vs H Q E h => ?_) (fun cdv A outer s H vs Q E hr h => ?_)
  · obtain ⟨a, b, xs, rfl, _⟩ := h
    rfl
  · obtain ⟨a, b, xs, rfl, ha, hb, hl, q⟩ := h
    refine ⟨_, pss_cons (ps_if (pt_val (pe_callB call_isiT (by rfl) B.isi boot_isinstance (pa_cons (pv 1) (pa_cons (pe_tup (pa_cons (pe_bltn (v := .ty "tuple") (by rfl) B.tuple boot_tuple rfl) (pa_cons (pe_bltn (v := .ty "list") (by rfl) B.list boot_list rfl) pa_nil))) pa_nil))))
        (pss_cons (ps_if (PW.pt (pw_or (pt_not (pt_val (pe_callB call_isiT (by rfl) B.isi boot_isinstance (pa_cons (pv 0) (pa_cons (pe_tup (pa_cons (pe_bltn (v := .ty "tuple") (by rfl) B.tuple boot_tuple rfl) (pa_cons (pe_bltn (v := .ty "list") (by rfl) B.list boot_list rfl) pa_nil))) pa_nil)))))
            (pw_or1 (pt_cmpR op_ne (pe_callB call_isi (by rfl) B.isi boot_isinstance (pa_cons (pv 0) (pa_cons (pe_bltn (v := .ty "list") (by rfl) B.list boot_list rfl) pa_nil))) (pe_callB call_isi (by rfl) B.isi boot_isinstance (pa_cons (pv 1) (pa_cons (pe_bltn (v := .ty "list") (by rfl) B.list boot_list rfl) pa_nil))) (nomark _)))))
          (pss_one ps_never) pss_nil)
        (pss_cons (ps_if (pt_cmpR op_ne (pe_callB call_len_seq (by rfl) B.len PySem.boot_len (pa_cons (pv 0) pa_nil)) (pe_callB call_len_seq (by rfl) B.len PySem.boot_len (pa_cons (pv 1) pa_nil)) (nomark _)) (pss_one ps_never) pss_nil)
        (pss_one (ps_ret (pe_cmpR (op_eqD hr.units) (pe_lc (own := [("_law_k", 2)]) (g := gName 2) rfl scLAlike.nd (pi_range1 (by rfl) B.range (pa_cons (pe_callB call_len_seq (by rfl) B.len PySem.boot_len (pa_cons (pv 1) pa_nil)) pa_nil))
            (blkOk_by (own := [("_law_k", 2)]) (N := ["_law_found", "_law_due", "_law_k"]) (sc := defScope sLAlike) (by decide +kernel)) (fun _ _ _ _ _ => pg_name (i := 2) scLAlike.nd rfl (.inl rfl))
            (fun _ _ _ _ _ => pts_one (pt_not (pt_val (pe_call OI hr (by rfl) D.gm D.F.kp D.b .nil pass0 (pa_cons (pe_ix (r := rIxT K) ix_tup (pv 0) (pv 2) (fun _ _ => rfl)) (pa_cons (pe_ix (r := rIxT K) ix_tup (pv 1) (pv 2) (fun _ _ => rfl)) pa_nil))))))
            (fun _ _ _ _ _ => pv 2)) (pe_lst pa_nil) (nomark _)))))) pss_nil)
      (pss_cons ps_never (pss_one ps_never)), ?_⟩
    refine ⟨.ref b, rfl, sz (by show 2 ≤ 100000; omega), fun p np => ?_⟩
    have s1 := same_new (o := .tup [V.ty "tuple", .ty "list"]) np
    have ha1 := s1 _ _ ha
    have hb1 := s1 _ _ hb
    refine ⟨.ref b, p, _, _, _, true, rfl, upd_same, cls2, .base (.tup hb1), any_yes, true, rfl, iteT ?_⟩
    generalize upd H p (.tup [V.ty "tuple", .ty "list"]) = H1 at s1 ha1 hb1
    refine ⟨.ref a, rfl, sz (by show 2 ≤ 100000; omega), fun p2 np2 => ?_⟩
    have s2 := same_new (o := .tup [V.ty "tuple", .ty "list"]) np2
    have ha2 := s2 _ _ ha1
    have hb2 := s2 _ _ hb1
    refine ⟨.ref a, p2, _, _, _, true, rfl, upd_same, cls2, .base (.tup ha2), any_yes, true, rfl, iteF ?_⟩
    generalize upd H1 p2 (.tup [V.ty "tuple", .ty "list"]) = H2 at s2 ha2 hb2
    refine ⟨.ref a, rfl, .ref a, .ty "list", _, _, false, rfl, .ty "list", .base (.tup ha2), kit_ty (by decide +kernel), .ref b, rfl, .ref b, .ty "list", _, _, false, rfl, .ty "list", .base (.tup hb2), kit_ty (by decide +kernel), rfl, false, rfl, iteF ?_⟩
    refine ⟨.ref a, rfl, a, _, rfl, .inr (sqt ha2), .ref b, rfl, b, _, rfl, .inr (sqt hb2), rfl, _, rfl, iteNS rfl ?_⟩
    refine ⟨.ref b, rfl, b, _, rfl, .inr (sqt hb2), _, rfl, by omega, by rw [iv_len]; omega, fun d nd => ?_⟩
    refine lc_it walk_range (fun _ H' => Same H2 H' ∧ H' d = some (.lst [])) ⟨same_new nd, upd_same⟩ (fun i H' _ _ => True.intro) (fun i v H3 H4 hi hP hY => ?_) (fun H3 hP => ?_)
    · obtain ⟨sm, hD⟩ := hP
      obtain ⟨rfl, rfl⟩ := hY
      have hi2 : i < xs.length := by
        rw [Int.toNat_natCast, iv_len] at hi
        exact hi
      have ez : (0 : Int) + (i : Nat) = (i : Nat) := by omega
      have hx := at_nat ez (iv_at (List.getElem?_eq_getElem hi2))
      refine ⟨rfl, .ref a, rfl, .int (0 + (i : Nat)), rfl, a, _, _, _, rfl, rfl, sqt (sm _ _ ha2), hx, .ref b, rfl, .int (0 + (i : Nat)), rfl, b, _, _, _, rfl, rfl, sqt (sm _ _ hb2), hx, xs[i], rfl, fun H5 s5 => ⟨true, rfl, ?_⟩⟩
      exact iteF ⟨sm.trans s5, s5 _ _ hD⟩
    · obtain ⟨sm, hD⟩ := hP
      refine ⟨Nat.zero_le _, fun e ne => ?_⟩
      have s3 := same_new (o := .lst []) ne
      refine ⟨_, _, .lst (s3.seq (sql hD)) .nil, .lst (sql upd_same) .nil, PySem.W.ke_shaped_ints [], PySem.W.ke_shaped_ints [], ?_⟩
      exact qv (Q := Q) (congrArg V.bl (eqv_lists [] [])) (q _ (s1.trans (s2.trans (sm.trans s3))))
theorem eraseIdx_map {α β : Type} (f : α → β) : ∀ (l : List α) (k : Nat), (l.map f).eraseIdx k = (l.eraseIdx k).map f
  | [], _ => rfl
  | _ :: _, 0 => rfl
  | a :: l, k + 1 => by
    show f a :: (l.map f).eraseIdx k = f a :: (l.eraseIdx k).map f
    rw [eraseIdx_map f l k]
theorem perm_eraseIdx : ∀ (l : List Nat) (k j : Nat), l[k]? = some j → (j :: l.eraseIdx k).Perm l
  | [], _, _, h => by simp at h
  | a :: l, 0, j, h => by
    have e : a = j := by simpa using h
    rw [e]
    exact List.Perm.refl _
  | a :: l, k + 1, j, h => by
    have ih := perm_eraseIdx l k j (by simpa using h)
    exact (List.Perm.swap a j _).trans (ih.cons a)
theorem scOrder : FnScope ["_law_row", "_law_many", "_law_left", "_law_found", "_law_turn"] ["_law_row", "_law_many"] (defScope sOrder) := ⟨rfl, rfl, rfl, by decide +kernel, rfl, by decide +kernel, by decide +kernel⟩
def spOrder (K : PySem.W.Frag) : Sp := fun vs H Q _ => ∃ (r a : Addr) (ns : List Int) (n : Nat), vs = [.ref r, .int (n : Nat)] ∧ Scr K r a ns H ∧ RowAt r a H ∧ n ≤ 1000 ∧
  ∀ H' p o, SameX r H H' → RowAt r a H' → H' p = some (.tup (iv (zs o))) → o.Perm (List.range n) → Q (.ref p) H'
theorem ok_order {f g : Addr} {fd gd : FuncData} (D : Df K mg "_law_order" sOrder ["_law_row", "_law_many"] f fd) (G : Df K mg "_law_taken" sTaken ["_law_row", "_law_many"] g gd) (B : Bl mg) : FnOk P w K mg base CX0 2 f fd ["_law_row", "_law_many"] (spOrder K) := by
  have GT : FnOk P w K mg base CX0 1 g gd ["_law_row", "_law_many"] (spTaken K) := ok_taken G B
  refine D.F.ok scOrder (fun vs H Q E h => ?_) (fun cdv A outer s H vs Q E hr h => ?_)
  · obtain ⟨r, a, ns, n, rfl, _⟩ := h
    rfl
  · obtain ⟨r, a, ns, n, rfl, hS, hR, hn, k⟩ := h
    refine ⟨_, pss_cons (ps_par (by rfl) scOrder.nd (i := 2) (j := 3) rfl rfl (by decide) rfl rfl (pa_cons (pe_listRg rfl (by rfl) B.list (prg_1 (by rfl) B.range (pv 1))) (pa_cons (pe_lst pa_nil) pa_nil)) (by rfl))
      (pss_cons (ps_for PassesOwn.never rfl (pi_range1 (by rfl) B.range (pa_cons (pv 1) pa_nil)) (pg_name (i := 4) scOrder.nd rfl (.inl rfl))
        (pss_one (ps_expr (pe_bm PySem.F.plainAttrs_list PySem.F.slot_list_append PySem.F.type_list_append mt_append (pv 3)
          (pa_cons (pe_bm PySem.F.plainAttrs_list PySem.F.slot_list_pop PySem.F.type_list_pop mt_popAt (pv 2) (pa_cons (pe_call GT hr (by rfl) G.gm G.F.kp G.b .nil pass0 (pa_cons (pv 0) (pa_cons (pe_callB call_len_seq (by rfl) B.len PySem.boot_len (pa_cons (pv 2) pa_nil)) pa_nil))) pa_nil)) pa_nil)))))
      (pss_one (ps_ret (pe_callTy call_tuple_of (by rfl) B.tuple boot_tuple (pa_cons (pv 3) pa_nil))))), ?_⟩
    refine ⟨_, rfl, _, rfl, .of_le (by omega) (by omega) (by omega) (by omega), fun pl n0 => ?_⟩
    refine ⟨Nat.zero_le _, fun pf m0 => ?_⟩
    refine ⟨_, _, rfl, ?_⟩
    have R0 := hR.new (o := .lst (rgV 0 (n : Int))) n0
    have nlr : pl ≠ r := hR.ne n0
    have nfr : pf ≠ r := R0.ne m0
    have nlf : pl ≠ pf := fun e => by rw [← e, upd_same] at m0; cases m0
    have npf : H pf = none := (same_new n0).free m0
    refine ⟨_, rfl, (n : Int), rfl, by omega, by omega, for_range (lo := 0) (n := (n : Int).toNat) (fun i σ H' => ∃ (lf fd : List Nat) (y4 : Option V), σ = [some (.ref r), some (.int (n : Nat)), some (.ref pl), some (.ref pf), y4] ∧ SameX r H H' ∧ RowAt r a H' ∧
      H' pl = some (.lst (iv (zs lf))) ∧ H' pf = some (.lst (iv (zs fd))) ∧ (fd ++ lf).Perm (List.range n) ∧ fd.length = i) ⟨List.range n, [], none, rfl, ((SameX.refl r H).new n0).new m0, R0.new m0, ?_, upd_same, by simp, rfl⟩ (fun i σ H1 hi hP => ?_) (fun σ H1 hP => ?_)⟩
    · rw [upd_ne nlf, upd_same, rg_zs]
    · obtain ⟨lf, fd, y4, rfl, sx, R1, hl, hf, pm, hi2⟩ := hP
      have hlen := pm.length_eq
      rw [List.length_append, List.length_range] at hlen
      have hin : i < n := by
        rw [Int.toNat_natCast] at hi
        exact hi
      refine ⟨.ref pf, rfl, .inl ⟨rfl, _, sql hf⟩, .ref pl, rfl, .inl ⟨rfl, _, sql hl⟩, .ref r, rfl, .ref pl, rfl, pl, _, rfl, .inl (sql hl), r, a, ns, _, rfl, hS.keep sx, R1, by rw [iv_len, zs_len]; omega, by rw [iv_len, zs_len]; omega, fun H2 x sx2 R2 x0 x1 => ?_⟩
      rw [iv_len, zs_len] at x1
      obtain ⟨c, rfl⟩ := Int.eq_ofNat_of_zero_le x0
      have hc : c < lf.length := by omega
      have hj : lf[c]? = some lf[c] := List.getElem?_eq_getElem hc
      have hl2 := sx2 _ _ nlr hl
      have hf2 := sx2 _ _ nfr hf
      refine ⟨pl, _, _, c, _, rfl, rfl, hl2, by omega, by omega, ?_, jz_at hj, ?_⟩
      · rw [PySem.StrLaws.seqIndex_nonneg (by omega) (by rw [iv_len, zs_len]; omega), Int.toNat_natCast]
      · have hf3 : (upd H2 pl (.lst ((iv (zs lf)).eraseIdx c))) pf = some (.lst (iv (zs fd))) := (upd_ne nlf.symm).trans hf2
        refine ⟨pf, _, _, rfl, rfl, hf3, by rw [iv_len, zs_len]; exact sz' (by omega), ?_⟩
        refine ⟨lf.eraseIdx c, fd ++ [lf[c]], _, rfl, ((sx.trans sx2).putN n0).putN npf, (R2.putN nlr).putN nfr, ?_, ?_, ?_, by simp [hi2]⟩
        · rw [upd_ne nlf, upd_same]
          unfold iv zs
          rw [eraseIdx_map, eraseIdx_map]
        · rw [upd_same, ivz_snoc]
        · rw [List.append_assoc]
          exact ((perm_eraseIdx lf c _ hj).append_left fd).trans pm
    · obtain ⟨lf, fd, y4, rfl, sx, R1, hl, hf, pm, hi2⟩ := hP
      rw [Int.toNat_natCast] at hi2
      have hlen := pm.length_eq
      rw [List.length_append, List.length_range] at hlen
      have e : lf = [] := List.eq_nil_of_length_eq_zero (by omega)
      subst e
      rw [List.append_nil] at pm
      refine ⟨.ref pf, rfl, pf, _, rfl, .inl ⟨sql hf, fun v nv => ?_⟩⟩
      exact k _ v fd (sx.new nv) (R1.new nv) upd_same pm
end
end Kd
set_option Elab.async false
set_option linter.all false
set_option maxRecDepth 100000
set_option maxHeartbeats 4000000
/-! All orders, as the law makes them. -/
namespace Kd
open PySem PySem.Spec PyProof.Rows L2
/-- references to tuples, one for each of some orders -/
inductive Ts (H : Hp) : List V → List (List Nat) → Prop
  | nil : Ts H [] []
  | cons {b : Addr} {o : List Nat} {vs : List V} {L : List (List Nat)} (h : H b = some (.tup (iv (zs o)))) (r : Ts H vs L) : Ts H (.ref b :: vs) (o :: L)
theorem Ts.mono {H H' : Hp} (s : Same H H') {vs : List V} {L : List (List Nat)} (t : Ts H vs L) : Ts H' vs L := by
  induction t with
  | nil => exact .nil
  | cons h r ih => exact .cons (s _ _ h) ih
theorem Ts.len {H : Hp} {vs : List V} {L : List (List Nat)} (t : Ts H vs L) : vs.length = L.length := by
  induction t with
  | nil => rfl
  | cons h r ih => rw [List.length_cons, List.length_cons, ih]
theorem Ts.snoc {H : Hp} {vs : List V} {L : List (List Nat)} {b : Addr} {o : List Nat} (t : Ts H vs L) (h : H b = some (.tup (iv (zs o)))) : Ts H (vs ++ [.ref b]) (L ++ [o]) := by
  induction t with
  | nil => exact .cons h .nil
  | cons q r ih => exact .cons q ih
theorem Ts.at {H : Hp} : ∀ {vs : List V} {L : List (List Nat)} {i : Nat} {v : V}, Ts H vs L → vs[i]? = some v → ∃ b o, v = .ref b ∧ L[i]? = some o ∧ H b = some (.tup (iv (zs o)))
  | _, _, i, v, .nil, e => by simp at e
  | _, _, 0, v, .cons (b := b) (o := o) h r, e => ⟨b, o, (by simpa using e.symm), rfl, h⟩
  | _, _, i + 1, v, .cons h r, e => by
    obtain ⟨b, o, h1, h2, h3⟩ := Ts.at (i := i) (v := v) r (by simpa using e)
    exact ⟨b, o, h1, by simpa using h2, h3⟩
/-- what the first k jobs add to an order -/
def extK (o : List Nat) (k : Nat) : List (List Nat) := ((List.range k).filter fun j => !(o.contains j)).map fun j => o ++ [j]
theorem extK_skip {o : List Nat} {k : Nat} (h : o.contains k = true) : extK o (k + 1) = extK o k := by
  unfold extK
  rw [range_snoc, List.filter_append]
  simp only [List.filter_cons, h, Bool.not_true, Bool.false_eq_true, if_false, List.filter_nil, List.append_nil]
theorem extK_take {o : List Nat} {k : Nat} (h : o.contains k = false) : extK o (k + 1) = extK o k ++ [o ++ [k]] := by
  unfold extK
  rw [range_snoc, List.filter_append]
  simp only [List.filter_cons, h, Bool.not_false, if_true, List.filter_nil, List.map_append, List.map_cons, List.map_nil]
theorem extK_len (o : List Nat) (k : Nat) : (extK o k).length ≤ k := by
  unfold extK
  rw [List.length_map]
  exact Nat.le_trans (List.length_filter_le _ _) (Nat.le_of_eq List.length_range)
theorem flat_len (n : Nat) : ∀ l : List (List Nat), (l.flatMap (Mt.ext1 n)).length ≤ l.length * n
  | [] => by simp
  | o :: l => by
    have ih := flat_len n l
    have e : (Mt.ext1 n o).length ≤ n := extK_len o n
    rw [List.flatMap_cons, List.length_append, List.length_cons, Nat.succ_mul]
    omega
theorem lev_len (n : Nat) : ∀ m, (Mt.lev n m).length ≤ n ^ m
  | 0 => Nat.le_refl _
  | m + 1 => by
    have ih := lev_len n m
    have f := flat_len n (Mt.lev n m)
    rw [Nat.pow_succ]
    exact Nat.le_trans f (Nat.mul_le_mul_right n ih)
theorem lev_small {n m : Nat} (hn : n ≤ 5) (hm : m ≤ 5) : (Mt.lev n m).length ≤ 3125 := by
  have a := lev_len n m
  have b : n ^ m ≤ 5 ^ m := Nat.pow_le_pow_left hn m
  have c : 5 ^ m ≤ 5 ^ 5 := Nat.pow_le_pow_right (by decide) hm
  have d : 5 ^ 5 = 3125 := by decide
  omega
theorem lev_olen (n : Nat) : ∀ (m : Nat) (o : List Nat), o ∈ Mt.lev n m → o.length = m
  | 0, o, h => by
    have e : o ∈ ([[]] : List (List Nat)) := h
    have e2 : o = [] := by simpa using e
    rw [e2]
    rfl
  | m + 1, o, h => by
    obtain ⟨p, hp, ho⟩ := List.mem_flatMap.mp (show o ∈ (Mt.lev n m).flatMap (Mt.ext1 n) from h)
    obtain ⟨j, _, rfl⟩ := List.mem_map.mp ho
    rw [List.length_append, lev_olen n m p hp]
    rfl
theorem flat_iv : ∀ ns : List Int, (iv ns).all flatV = true
  | [] => rfl
  | _ :: r => flat_iv r
theorem in_zs (k : Nat) : ∀ o : List Nat, inV (.int (k : Nat)) (iv (zs o)) = o.contains k
  | [] => rfl
  | j :: o => by
    have ih := in_zs k o
    show ((j : Int) == (k : Int) || inV (.int (k : Nat)) (iv (zs o))) = (j :: o).contains k
    rw [ih, List.contains_cons, Bool.eq_iff_iff, Bool.or_eq_true, Bool.or_eq_true, beq_iff_eq, beq_iff_eq]
    constructor
    · rintro (h | h)
      · exact .inl (by omega)
      · exact .inr h
    · rintro (h | h)
      · exact .inl (by omega)
      · exact .inr h
section
variable {P : Program} {w : World} {K : PySem.W.Frag} {mg : Str → Option Value} {base : Heap}
theorem scOrders : FnScope ["_law_many", "_law_pairs", "_law_found", "_law_turn", "_law_longer", "_law_part", "_law_job", "_law_pair"] ["_law_many", "_law_pairs"] (defScope sOrders) := ⟨rfl, rfl, rfl, by decide +kernel, rfl, by decide +kernel, by decide +kernel⟩
def spOrders : Sp := fun vs H Q _ => ∃ (n : Nat) (e : Addr), vs = [.int (n : Nat), .ref e] ∧ H e = some (.tup []) ∧ n ≤ 5 ∧ ∀ H' p rs, Same H H' → H' p = some (.lst rs) → Ts H' rs (Mt.lev n n) → Q (.ref p) H'
theorem ok_orders {f : Addr} {fd : FuncData} (D : Df K mg "_law_orders" sOrders ["_law_many", "_law_pairs"] f fd) (B : Bl mg) : FnOk P w K mg base CX0 1 f fd ["_law_many", "_law_pairs"] spOrders := by
  refine D.F.ok scOrders (fun vs H Q E h => ?_) (fun cdv A outer s H vs Q E hr h => ?_)
  · obtain ⟨n, e, rfl, _⟩ := h
    rfl
  · obtain ⟨n, pp, rfl, he, hn, q⟩ := h
    refine ⟨_, pss_cons (ps_set (i := 2) scOrders.nd rfl (.inl rfl) (pe_lst (pa_cons (pe_tup pa_nil) pa_nil)))
      (pss_cons (ps_for PassesOwn.never rfl (pi_range1 (by rfl) B.range (pa_cons (pv 0) pa_nil)) (pg_name (i := 3) scOrders.nd rfl (.inl rfl))
        (pss_cons (ps_set (i := 4) scOrders.nd rfl (.inl rfl) (pe_lst pa_nil))
        (pss_cons (ps_for PassesOwn.never rfl (pi_list (pv 2)) (pg_name (i := 5) scOrders.nd rfl (.inr rfl))
          (pss_one (ps_for PassesOwn.never rfl (pi_range1 (by rfl) B.range (pa_cons (pv 0) pa_nil)) (pg_name (i := 6) scOrders.nd rfl (.inr rfl))
            (pss_one (ps_if (PW.pt (pw_and (pt_cmpR op_notIn_seq (pv 6) (pv 5) (by rfl)) (pw_and1 (pt_cmpR (op_eqD hr.units) (pe_lc (own := [("_law_pair", 7)]) (g := gName 7) rfl scOrders.nd (pi_tup (pv 1))
                (blkOk_by (own := [("_law_pair", 7)]) (N := ["_law_many", "_law_pairs", "_law_found", "_law_turn", "_law_longer", "_law_part", "_law_job", "_law_pair"]) (sc := defScope sOrders) (by decide +kernel))
                (fun _ _ _ _ _ => pg_name (i := 7) scOrders.nd rfl (.inl rfl)) (fun _ _ _ _ _ => pts_never) (fun _ _ _ _ _ => pe_never)) (pe_lst pa_nil) (nomark _)))))
              (pss_one (ps_expr (pe_bm PySem.F.plainAttrs_list PySem.F.slot_list_append PySem.F.type_list_append mt_append (pv 4) (pa_cons (pe_op op_catA (pv 5) (pe_tup (pa_cons (pv 6) pa_nil))) pa_nil)))) pss_nil)))))
        (pss_one (ps_set (i := 2) scOrders.nd rfl (.inl rfl) (pv 4))))))
      (pss_one (ps_ret (pv 2)))), ?_⟩
    refine ⟨Nat.zero_le _, fun e0 ne0 => ?_⟩
    refine ⟨sz (by show 1 ≤ 100000; omega), fun l0 nl0 => ?_⟩
    have sA : Same H (upd H e0 (.tup [])) := same_new ne0
    have sB := sA.trans (same_new (o := .lst [V.ref e0]) nl0)
    have hE0 : (upd (upd H e0 (.tup [])) l0 (.lst [V.ref e0])) e0 = some (.tup (iv (zs []))) := by
      have z : (upd H e0 (.tup [])) e0 = some (.tup (iv (zs []))) := upd_same
      exact (upd_ne (ne_of_none z nl0)).trans z
    refine ⟨_, rfl, (n : Int), rfl, by omega, by omega, for_range (lo := 0) (n := (n : Int).toNat) (fun m σ H' => ∃ (pl : Addr) (rs : List V) (y3 y4 y5 y6 y7 : Option V), σ = [some (.int (n : Nat)), some (.ref pp), some (.ref pl), y3, y4, y5, y6, y7] ∧
      Same H H' ∧ H' pl = some (.lst rs) ∧ Ts H' rs (Mt.lev n m)) ⟨l0, [.ref e0], none, none, none, none, none, rfl, sB, upd_same, .cons hE0 .nil⟩ (fun m σ H1 hm hP => ?_) (fun σ H1 hP => ?_)⟩
    · obtain ⟨pl, rs, y3, y4, y5, y6, y7, rfl, s1, hl, ht⟩ := hP
      rw [Int.toNat_natCast] at hm
      have lv := lev_small (n := n) (m := m) hn (by omega)
      have rl := ht.len
      refine ⟨Nat.zero_le _, fun pn npn => ?_⟩
      have sN : Same H1 (upd H1 pn (.lst [])) := same_new npn
      -- for part in found
      refine ⟨.ref pl, rfl, pl, rfl, ⟨_, sql (sN _ _ hl)⟩, for_it (walk_list (xs := rs)) (fun i σ H' => ∃ (qs : List V) (y5 y6 y7 : Option V), σ = [some (.int (n : Nat)), some (.ref pp), some (.ref pl), some (.int (0 + (m : Nat))), some (.ref pn), y5, y6, y7] ∧
        Same H1 H' ∧ H' pn = some (.lst qs) ∧ Ts H' qs (((Mt.lev n m).take i).flatMap (Mt.ext1 n))) ⟨[], y5, y6, y7, rfl, sN, upd_same, .nil⟩ (fun i σ H' _ ⟨_, _, _, _, _, sm, _⟩ => sql (sm _ _ hl)) (fun i v σ H2 H3 hi hP hY => ?_) (fun σ H2 hP => ?_)⟩
      · obtain ⟨qs, z5, z6, z7, rfl, s2, hq, tq⟩ := hP
        obtain ⟨rfl, hv⟩ := hY
        obtain ⟨b, o, rfl, ho, _⟩ := ht.at hv
        have hb : H1 b = some (.tup (iv (zs o))) := by
          obtain ⟨b2, o2, e1, e2, e3⟩ := ht.at hv
          cases e1
          rw [ho] at e2
          cases e2
          exact e3
        -- for job in range(many)
        refine ⟨_, rfl, (n : Int), rfl, by omega, by omega, for_range (lo := 0) (n := (n : Int).toNat) (fun k σ H' => ∃ (us : List V) (y6 y7 : Option V), σ = [some (.int (n : Nat)), some (.ref pp), some (.ref pl), some (.int (0 + (m : Nat))), some (.ref pn), some (.ref b), y6, y7] ∧
          Same H1 H' ∧ H' pn = some (.lst us) ∧ Ts H' us (((Mt.lev n m).take i).flatMap (Mt.ext1 n) ++ extK o k)) ⟨qs, z6, z7, rfl, s2, hq, by rw [show extK o 0 = [] from rfl, List.append_nil]; exact tq⟩ (fun k σ H4 hk hP => ?_) (fun σ H4 hP => ?_)⟩
        · obtain ⟨us, w6, w7, rfl, s4, hu, tu⟩ := hP
          rw [Int.toNat_natCast] at hk
          have hb4 := s4 _ _ hb
          have ek : (0 : Int) + (k : Nat) = (k : Nat) := by omega
          refine ⟨.int (0 + (k : Nat)), rfl, .ref b, rfl, b, _, rfl, .inr (sqt hb4), rfl, flat_iv _, !(o.contains k), ?_, ?_⟩
          · rw [ek]
            exact congrArg V.bl (congrArg not (in_zs k o))
          · cases hc : o.contains k with
            | true =>
              refine iteF (iteF ⟨us, _, w7, rfl, s4, hu, ?_⟩)
              rw [extK_skip hc]
              exact tu
            | false =>
              have ulen : us.length ≤ 3125 * 5 + 5 := by
                have a1 := tu.len
                rw [List.length_append] at a1
                have a2 := flat_len n ((Mt.lev n m).take i)
                have a3 := extK_len o k
                have a4 : ((Mt.lev n m).take i).length ≤ 3125 := Nat.le_trans (List.length_take_le' _ _) lv
                have a5 : ((Mt.lev n m).take i).length * n ≤ 3125 * 5 := Nat.mul_le_mul a4 hn
                omega
              refine iteT ?_
              -- no pair forbids it
              refine ⟨.ref pp, rfl, pp, rfl, ⟨_, sqt (s4 _ _ (s1 _ _ he))⟩, fun d nd => ?_⟩
              refine lc_it (walk_tup (K := K) (xs := [])) (fun _ H' => H' = upd H4 d (.lst [])) rfl (fun i H' _ e => by rw [e]; exact sqt (same_new nd _ _ (s4 _ _ (s1 _ _ he)))) (fun i v H5 H6 hi _ _ => absurd hi (Nat.not_lt_zero _)) (fun H5 e => ?_)
              subst e
              have s5 : Same H4 (upd H4 d (.lst [])) := same_new nd
              refine ⟨Nat.zero_le _, fun d2 nd2 => ?_⟩
              have s6 : Same (upd H4 d (.lst [])) (upd (upd H4 d (.lst [])) d2 (.lst [])) := same_new nd2
              refine ⟨_, _, .lst (s6.seq (sql upd_same)) .nil, .lst (sql upd_same) .nil, PySem.W.ke_shaped_ints [], PySem.W.ke_shaped_ints [], true, congrArg V.bl (eqv_lists [] []), iteT ?_⟩
              have s56 := s5.trans s6
              generalize upd (upd H4 d (.lst [])) d2 (.lst []) = H6 at s56
              have hu6 := s56 _ _ hu
              have hb6 := s56 _ _ hb4
              -- the longer one is appended
              refine ⟨.ref pn, rfl, .inl ⟨rfl, _, sql hu6⟩, .ref b, rfl, .int (0 + (k : Nat)), rfl, sz (by show 1 ≤ 100000; omega), fun t nt => ?_⟩
              have s7 : Same H6 (upd H6 t (.tup [V.int (0 + (k : Nat))])) := same_new nt
              have fin : ∀ (t' : Addr) (H7 : Hp), Same H6 H7 → H7 t' = some (.tup (iv (zs (o ++ [k])))) → ∃ (us' : List V) (y6 y7 : Option V), [some (V.int (n : Nat)), some (.ref pp), some (.ref pl), some (.int (0 + (m : Nat))), some (.ref pn), some (.ref b), some (.int (0 + (k : Nat))), w7] = [some (V.int (n : Nat)), some (.ref pp), some (.ref pl), some (.int (0 + (m : Nat))), some (.ref pn), some (.ref b), y6, y7] ∧
                  Same H1 (upd H7 pn (.lst (us ++ [.ref t']))) ∧ (upd H7 pn (.lst (us ++ [.ref t']))) pn = some (.lst us') ∧ Ts (upd H7 pn (.lst (us ++ [.ref t']))) us' (((Mt.lev n m).take i).flatMap (Mt.ext1 n) ++ extK o (k + 1)) := fun t' H7 s8 h8 => by
                have hp7 := s8 _ _ hu6
                have net : t' ≠ pn := ne_of h8 hp7 (fun z => by cases z)
                have key : ∀ {ws : List V} {L : List (List Nat)}, Ts H7 ws L → Ts (upd H7 pn (.lst (us ++ [.ref t']))) ws L := fun {ws L} tt => by
                  induction tt with
                  | nil => exact .nil
                  | cons h r ih => exact .cons ((upd_ne (ne_of h hp7 (fun z => by cases z))).trans h) ih
                refine ⟨_, _, _, rfl, same_put (s4.trans (s56.trans s8)) npn, upd_same, ?_⟩
                rw [extK_take hc, ← List.append_assoc]
                exact (key (tu.mono (s56.trans s8))).snoc ((upd_ne net).trans h8)
              refine ⟨b, t, _, _, rfl, rfl, sqt (s7 _ _ hb6), sqt upd_same, ?_, fun eo => ?_, (fun _ z => (by cases z)), fun no _ p np => ?_⟩
              · rw [iv_len, zs_len]
                have a1 : o.length ≤ 5 := by
                  have hmem := List.mem_of_getElem? ho
                  exact Nat.le_trans (Nat.le_of_eq (lev_olen n m o hmem)) (by omega)
                show o.length + 1 ≤ _
                exact sz (by omega)
              · have eo2 : o = [] := by
                  cases o with
                  | nil => rfl
                  | cons x y => cases eo
                refine ⟨pn, us, .ref t, rfl, rfl, s7 _ _ hu6, sz' (by omega), ?_⟩
                refine fin t _ s7 ?_
                rw [upd_same, eo2, ek]
                rfl
              · have s8 : Same (upd H6 t (.tup [V.int (0 + (k : Nat))])) (upd (upd H6 t (.tup [V.int (0 + (k : Nat))])) p (.tup (iv (zs o) ++ [V.int (0 + (k : Nat))]))) := same_new np
                refine ⟨pn, us, .ref p, rfl, rfl, s8 _ _ (s7 _ _ hu6), sz' (by omega), ?_⟩
                refine fin p _ (s7.trans s8) ?_
                rw [upd_same, ek, ivz_snoc]
        · obtain ⟨us, w6, w7, rfl, s4, hu, tu⟩ := hP
          rw [Int.toNat_natCast] at tu
          refine ⟨us, _, w6, w7, rfl, s4, hu, ?_⟩
          rw [take_snoc ho, List.flatMap_append, List.flatMap_cons, List.flatMap_nil, List.append_nil]
          exact tu
      · obtain ⟨qs, z5, z6, z7, rfl, s2, hq, tq⟩ := hP
        rw [rl, List.take_length] at tq
        exact ⟨.ref pn, rfl, pn, qs, _, _, z5, z6, z7, rfl, s1.trans s2, hq, tq⟩
    · obtain ⟨pl, rs, y3, y4, y5, y6, y7, rfl, s1, hl, ht⟩ := hP
      rw [Int.toNat_natCast] at ht
      exact ⟨.ref pl, rfl, q H1 pl rs s1 hl ht⟩
end
end Kd
set_option Elab.async false
set_option linter.all false
set_option maxRecDepth 100000
set_option maxHeartbeats 8000000
/-! The law. -/
namespace Kd
open PySem PySem.Spec PyProof.Rows L2
theorem range_up (n : Nat) : (zs (List.range n)).Pairwise (· ≤ ·) := by
  unfold zs
  rw [List.pairwise_map]
  exact List.pairwise_lt_range.imp fun h => by omega
theorem sorted_is {ms : List Int} {o : List Nat} {n : Nat} (pm : ms.Perm (zs o)) (up : ms.Pairwise (· ≤ ·)) (po : o.Perm (List.range n)) : ms = zs (List.range n) :=
  PySem.W.ksm_same (pm.trans (by unfold zs; exact po.map _)) up (range_up n)
/-- every def that the law reaches -/
structure La (K : PySem.W.Frag) (mg : Str → Option Value) extends Lm K mg where
  ra : Addr
  rad : FuncData
  RA : Df K mg "ratio_order" sRatio ["times", "weights"] ra rad
  sm : Addr
  smd : FuncData
  SM : Df K mg "smith_order" sSmith ["times", "weights"] sm smd
  cb : Addr
  cbd : FuncData
  CB : Df K mg "count_best" sCount ["times", "weights"] cb cbd
  al : Addr
  ald : FuncData
  AL : Df K mg "are_alike" sAlike ["times", "weights", "one", "other"] al ald
  en : Addr
  endd : FuncData
  EN : Df K mg "ends" sEnds ["times", "order"] en endd
  wu : Addr
  wud : FuncData
  WU : Df K mg "weighted_sum" sWSum ["times", "weights", "order"] wu wud
  tk : Addr
  tkd : FuncData
  TK : Df K mg "_law_taken" sTaken ["_law_row", "_law_many"] tk tkd
  pk : Addr
  pkd : FuncData
  PI : Df K mg "_law_pick" sPick ["_law_row", "_law_things"] pk pkd
  la : Addr
  lad : FuncData
  LA : Df K mg "_law_alike" sLAlike ["_law_found", "_law_due"] la lad
  jo : Addr
  jod : FuncData
  JO : Df K mg "_law_jobs" sJobs ["_law_row", "_law_most", "_law_time"] jo jod
  lo : Addr
  lod : FuncData
  LO : Df K mg "_law_order" sOrder ["_law_row", "_law_many"] lo lod
  os : Addr
  osd : FuncData
  OS : Df K mg "_law_orders" sOrders ["_law_many", "_law_pairs"] os osd
  le : Addr
  led : FuncData
  LE : Df K mg "_law_ends" sLEnds ["_law_times", "_law_order_here"] le led
  ls : Addr
  lsd : FuncData
  LS : Df K mg "_law_sum" sLSum ["_law_times", "_law_weights", "_law_order_here"] ls lsd
def spLaw (K : PySem.W.Frag) : Sp := fun vs H Q _ => ∃ (a : Addr) (ns : List Int), vs = [.ref a] ∧ SqL K H a (iv ns) ∧ ∀ H', Q (.bl true) H'
section
variable {P : Program} {w : World} {K : PySem.W.Frag} {mg : Str → Option Value} {base : Heap}
abbrev lawN : List Str := ["_law_script", "_law_row", "_law_times", "_law_weights", "_law_dues", "_law_many", "_law_order_here", "_law_sums", "_law_best", "_law_big", "_law_wide", "_law_far", "_law_at"]
theorem scLaw : FnScope lawN ["_law_script"] (defScope sLaw) := ⟨rfl, rfl, rfl, by decide +kernel, rfl, by decide +kernel, by decide +kernel⟩
theorem ok_law {f : Addr} {fd : FuncData} (D : Fun K "law" "law" sLaw f fd) (Z : La K mg) : FnOk P w K mg base CX0 7 f fd ["_law_script"] (spLaw K) := by
  have OJ : FnOk P w K mg base CX0 3 Z.jo Z.jod ["_law_row", "_law_most", "_law_time"] (spJobs K) := ok_jobs Z.JO Z.TK Z.PI Z.B
  have OO : FnOk P w K mg base CX0 1 Z.os Z.osd ["_law_many", "_law_pairs"] spOrders := ok_orders Z.OS Z.B
  have OLS : FnOk P w K mg base CX0 2 Z.ls Z.lsd ["_law_times", "_law_weights", "_law_order_here"] spSum := ok_lSum Z.LS Z.LE Z.B
  have OLE : FnOk P w K mg base CX0 1 Z.le Z.led ["_law_times", "_law_order_here"] spEndsIn := ok_lEnds Z.LE Z.B
  have OSM : FnOk P w K mg base CX0 6 Z.sm Z.smd ["times", "weights"] spRatio := ok_smith Z.SM Z.RA Z.toLm
  have OWS : FnOk P w K mg base CX0 6 Z.wu Z.wud ["times", "weights", "order"] spSum := ok_wSum Z.WU Z.toLm
  have OCB : FnOk P w K mg base CX0 6 Z.cb Z.cbd ["times", "weights"] spCount := ok_count Z.CB Z.RA Z.AL Z.toLm
  have OEN : FnOk P w K mg base CX0 5 Z.en Z.endd ["times", "order"] spEnds := ok_ends Z.EN Z.T Z.O Z.P Z.E Z.toLk
  have OI : FnOk P w K mg base CX0 1 Z.la Z.lad ["_law_found", "_law_due"] spLAI := ok_lai Z.LA Z.B
  have OT : FnOk P w K mg base CX0 2 Z.la Z.lad ["_law_found", "_law_due"] spLAT := ok_lat Z.LA Z.B
  have OLO : FnOk P w K mg base CX0 2 Z.lo Z.lod ["_law_row", "_law_many"] (spOrder K) := ok_order Z.LO Z.TK Z.B
  refine D.ok scLaw (fun vs H Q E h => ?_) (fun cdv A outer s H vs Q E hr h => ?_)
  · obtain ⟨a, ns, rfl, _⟩ := h
    rfl
  · obtain ⟨a, ns, rfl, hS, k⟩ := h
    have hr1 : Room 1 _ := hr.mono (by decide)
    have hr2 : Room 2 _ := hr.mono (by decide)
    have hr3 : Room 3 _ := hr.mono (by decide)
    have hr5 : Room 5 _ := hr.mono (by decide)
    refine ⟨_, pss_cons (ps_set (i := 1) scLaw.nd rfl (.inl rfl) (pe_lst (pa_cons (pv 0) (pa_cons pe_int (pa_cons pe_int (pa_cons pe_int pa_nil))))))
      (pss_cons (ps_asg (pe_call OJ hr3 (by rfl) Z.JO.gm Z.JO.F.kp Z.JO.b .nil pass0 (pa_cons (pv 1) (pa_cons pe_int (pa_cons pe_int pa_nil))))
        (pg_tup rfl (pgs_cons (pg_name (i := 2) scLaw.nd rfl (.inr rfl)) (pgs_cons (pg_name (i := 3) scLaw.nd rfl (.inr rfl)) (pgs_cons (pg_name (i := 4) scLaw.nd rfl (.inl rfl)) pgs_nil)))))
      (pss_cons (ps_set (i := 5) scLaw.nd rfl (.inl rfl) (pe_callB call_len_seq (by rfl) Z.B.len PySem.boot_len (pa_cons (pv 2) pa_nil)))
      (pss_cons (ps_setLc (i := 7) (own := [("_law_order_here", 6)]) (g := gName 6) (tt := tYes) (by rfl) scLaw.nd rfl rfl (sw_true rfl rfl rfl (by decide +kernel))
        (pi_list (pe_call OO hr1 (by rfl) Z.OS.gm Z.OS.F.kp Z.OS.b .nil pass0 (pa_cons (pv 5) (pa_cons (pe_tup pa_nil) pa_nil)))) (blkOk_by (own := [("_law_order_here", 6)]) (N := lawN) (sc := defScope sLaw) (by decide +kernel))
        (fun _ _ _ _ _ => pg_name (i := 6) scLaw.nd rfl (.inl rfl)) (fun _ _ _ _ _ => pts_nil)
        (fun _ _ _ _ _ => pe_call OLS hr2 (by rfl) Z.LS.gm Z.LS.F.kp Z.LS.b .nil pass0 (pa_cons (pv 2) (pa_cons (pv 3) (pa_cons (pv 6) pa_nil)))))
      (pss_cons (ps_set (i := 8) scLaw.nd rfl (.inl rfl) (pe_call OSM hr (by rfl) Z.SM.gm Z.SM.F.kp Z.SM.b .nil pass0 (pa_cons (pv 2) (pa_cons (pv 3) pa_nil))))
      (pss_cons (ps_if (PW.pt (pw_or (pt_cmpR (op_neD hr.units) (pe_callB (cr_sortedTu rfl) (by rfl) Z.B.sorted (by decide +kernel) (pa_cons (pv 8) pa_nil)) (pe_listRg rfl (by rfl) Z.B.list (prg_1 (by rfl) Z.B.range (pv 5))) (nomark _))
          (pw_or (pt_cmpR op_ne (pe_call OWS hr (by rfl) Z.WU.gm Z.WU.F.kp Z.WU.b .nil pass0 (pa_cons (pv 2) (pa_cons (pv 3) (pa_cons (pv 8) pa_nil)))) (pe_callB (cr_min rfl) (by rfl) Z.B.min (by decide +kernel) (pa_cons (pv 7) pa_nil)) (nomark _))
          (pw_or1 (pt_not (pt_val (pe_call OI hr1 (by rfl) Z.LA.gm Z.LA.F.kp Z.LA.b .nil pass0 (pa_cons (pe_call OCB hr (by rfl) Z.CB.gm Z.CB.F.kp Z.CB.b .nil pass0 (pa_cons (pv 2) (pa_cons (pv 3) pa_nil)))
            (pa_cons (pe_bm PySem.F.plainAttrs_list PySem.F.slot_list_count PySem.F.type_list_count mt_lcount (pv 7) (pa_cons (pe_callB (cr_min rfl) (by rfl) Z.B.min (by decide +kernel) (pa_cons (pv 7) pa_nil)) pa_nil)) pa_nil)))))))))
        (pss_one ps_never) pss_nil)
      (pss_cons (ps_set (i := 6) scLaw.nd rfl (.inl rfl) (pe_call OLO hr2 (by rfl) Z.LO.gm Z.LO.F.kp Z.LO.b .nil pass0 (pa_cons (pv 1) (pa_cons (pv 5) pa_nil))))
      (pss_cons (ps_if (PW.pt (pw_or (pt_not (pt_val (pe_call OT hr2 (by rfl) Z.LA.gm Z.LA.F.kp Z.LA.b .nil pass0 (pa_cons (pe_call OEN hr5 (by rfl) Z.EN.gm Z.EN.F.kp Z.EN.b .nil pass0 (pa_cons (pv 2) (pa_cons (pv 6) pa_nil)))
            (pa_cons (pe_callTy call_tuple_of (by rfl) Z.B.tuple boot_tuple (pa_cons (pe_call OLE hr1 (by rfl) Z.LE.gm Z.LE.F.kp Z.LE.b .nil pass0 (pa_cons (pv 2) (pa_cons (pv 6) pa_nil))) pa_nil)) pa_nil)))))
          (pw_or1 (pt_not (pt_val (pe_call OI hr1 (by rfl) Z.LA.gm Z.LA.F.kp Z.LA.b .nil pass0 (pa_cons (pe_call OWS hr (by rfl) Z.WU.gm Z.WU.F.kp Z.WU.b .nil pass0 (pa_cons (pv 2) (pa_cons (pv 3) (pa_cons (pv 6) pa_nil))))
            (pa_cons (pe_call OLS hr2 (by rfl) Z.LS.gm Z.LS.F.kp Z.LS.b .nil pass0 (pa_cons (pv 2) (pa_cons (pv 3) (pa_cons (pv 6) pa_nil)))) pa_nil))))))))
        (pss_one ps_never) pss_nil)
      (pss_cons (ps_asg (pe_call OJ hr3 (by rfl) Z.JO.gm Z.JO.F.kp Z.JO.b .nil pass0 (pa_cons (pv 1) (pa_cons pe_int (pa_cons pe_int pa_nil))))
        (pg_tup rfl (pgs_cons (pg_name (i := 9) scLaw.nd rfl (.inl rfl)) (pgs_cons (pg_name (i := 10) scLaw.nd rfl (.inl rfl)) (pgs_cons (pg_name (i := 11) scLaw.nd rfl (.inl rfl)) pgs_nil)))))
      (pss_cons (ps_set (i := 8) scLaw.nd rfl (.inl rfl) (pe_call OSM hr (by rfl) Z.SM.gm Z.SM.F.kp Z.SM.b .nil pass0 (pa_cons (pv 9) (pa_cons (pv 10) pa_nil))))
      (pss_cons (ps_for PassesOwn.never rfl (pi_range2 (by rfl) Z.B.range (pa_cons pe_int (pa_cons (pe_callB call_len_seq (by rfl) Z.B.len PySem.boot_len (pa_cons (pv 8) pa_nil)) pa_nil))) (pg_name (i := 12) scLaw.nd rfl (.inl rfl))
        (pss_one (ps_if (pt_cmpR op_lt (pe_op op_mul (pe_ix ix_tup (pv 9) (pe_ix ix_tup (pv 8) (pv 12) (fun _ _ => rfl)) (fun _ _ => rfl)) (pe_ix ix_tup (pv 10) (pe_ix ix_tup (pv 8) (pe_op op_sub (pv 12) pe_int) (fun _ _ => rfl)) (fun _ _ => rfl)))
            (pe_op op_mul (pe_ix ix_tup (pv 9) (pe_ix ix_tup (pv 8) (pe_op op_sub (pv 12) pe_int) (fun _ _ => rfl)) (fun _ _ => rfl)) (pe_ix ix_tup (pv 10) (pe_ix ix_tup (pv 8) (pv 12) (fun _ _ => rfl)) (fun _ _ => rfl))) (nomark _))
          (pss_one ps_never) pss_nil)))
      (pss_one (ps_ret (pe_cmpR op_le (pe_call OWS hr (by rfl) Z.WU.gm Z.WU.F.kp Z.WU.b .nil pass0 (pa_cons (pv 9) (pa_cons (pv 10) (pa_cons (pv 8) pa_nil))))
        (pe_call OLS hr2 (by rfl) Z.LS.gm Z.LS.F.kp Z.LS.b .nil pass0 (pa_cons (pv 9) (pa_cons (pv 10) (pa_cons (pe_call OLO hr2 (by rfl) Z.LO.gm Z.LO.F.kp Z.LO.b .nil pass0 (pa_cons (pv 1) (pa_cons (pe_callB call_len_seq (by rfl) Z.B.len PySem.boot_len (pa_cons (pv 9) pa_nil)) pa_nil))) pa_nil)))) (nomark _)))))))))))))), ?_⟩
    -- the row, the jobs
    refine ⟨.ref a, rfl, sz (by show 4 ≤ 100000; omega), fun r nr => ?_⟩
    have SC1 : Scr K r a ns (upd H r (.lst [V.ref a, .int 0, .int 3900, .int 0])) := Scr.start hS nr
    have R1 : RowAt r a (upd H r (.lst [V.ref a, .int 0, .int 3900, .int 0])) := ⟨0, 3900, 0, upd_same, by omega, by omega, by omega⟩
    refine ⟨.ref r, rfl, r, a, ns, 5, 9, rfl, SC1, R1, by omega, by omega, by omega, by omega, fun H2 p tt tu td ts ws ds sx2 R2 hp htt htu htd J hlen => ?_⟩
    have SC2 := SC1.keep sx2
    refine ⟨p, _, rfl, sqt hp, rfl, _, _, rfl, _, _, rfl, _, [], rfl, rfl, ?_⟩
    refine ⟨.ref tt, rfl, tt, _, rfl, .inr (sqt htt), ?_⟩
    have hn5 : ts.length ≤ 5 := by omega
    have hpos := J.pos
    -- all orders and their sums
    refine ⟨_, rfl, Nat.zero_le _, fun e ne => ?_⟩
    refine ⟨ts.length, e, by rw [iv_len]; rfl, upd_same, hn5, fun H4 po rs s4 hpo hts => ?_⟩
    have s24 : Same H2 H4 := (same_new ne).trans s4
    refine ⟨po, rfl, ⟨_, sql hpo⟩, fun d nd => ?_⟩
    refine lc_it (walk_list (K := K) (xs := rs)) (fun i H' => Same H4 H' ∧ H' d = some (.lst (iv (((Mt.lev ts.length ts.length).take i).map (Mt.cost (Mt.tm ts) (Mt.wt ws) 0))))) ⟨same_new nd, upd_same⟩ (fun i H' _ ⟨sm, _⟩ => sm.seq (sql hpo)) (fun i v H5 H6 hi hP hY => ?_) (fun H5 hP => ?_)
    · obtain ⟨sm, hD⟩ := hP
      obtain ⟨rfl, hv⟩ := hY
      obtain ⟨b, o, rfl, ho, hb⟩ := hts.at hv
      have hmem := List.mem_of_getElem? ho
      have lv := lev_small (n := ts.length) (m := ts.length) hn5 hn5
      refine ⟨rfl, .ref tt, rfl, .ref tu, rfl, .ref b, rfl, tt, tu, b, ts, ws, o, rfl, sm _ _ (s24 _ _ htt), sm _ _ (s24 _ _ htu), sm _ _ hb, J, Mt.lev_perm hmem, fun H7 s7 => ?_⟩
      refine ⟨_, s7 _ _ hD, ?_, same_put (sm.trans s7) nd, ?_⟩
      · rw [iv_len, List.length_map]
        exact sz' (Nat.lt_of_le_of_lt (Nat.le_trans (List.length_take_le' _ _) lv) (by decide))
      · rw [upd_same, take_snoc ho, List.map_append, iv_snoc]
        rfl
    obtain ⟨sm5, hD⟩ := hP
    rw [hts.len, List.take_length] at hD
    have htt5 := sm5 _ _ (s24 _ _ htt)
    have htu5 := sm5 _ _ (s24 _ _ htu)
    have sx5 : SameX r H2 H5 := SameX.of (s24.trans sm5)
    have R5 : RowAt r a H5 := by
      obtain ⟨p1, q1, z1, e1, x1⟩ := R2
      exact ⟨p1, q1, z1, (s24.trans sm5) _ _ e1, x1⟩
    have SC5 := SC2.keep sx5
    -- the rule's order
    refine ⟨.ref tt, rfl, .ref tu, rfl, tt, tu, ts, ws, rfl, htt5, htu5, J, fun H8 pb ob s8 nb hb pmb sdb => ?_⟩
    refine ⟨.ref pb, rfl, pb, zs ob, rfl, sqt hb, by rw [zs_len, perm_len pmb]; omega, fun ms p9 pm9 up9 n9 => ?_⟩
    have s9 := same_new (o := .lst (iv ms)) n9
    have hms : ms = zs (List.range ts.length) := sorted_is pm9 up9 pmb
    refine ⟨_, rfl, _, rfl, .of_le (by omega) (by rw [iv_len]; omega) (by omega) (by omega), fun p10 n10 => ?_⟩
    have s10 := same_new (o := .lst (rgV 0 (((iv ts).length : Nat) : Int))) n10
    have h10 : (upd (upd H8 p9 (.lst (iv ms))) p10 (.lst (rgV 0 (((iv ts).length : Nat) : Int)))) p10 = some (.lst (iv (zs (List.range ts.length)))) := by
      rw [upd_same, iv_len, rg_zs]
    refine ⟨_, _, .lst (s10.seq (sql upd_same)) (dp_ints ms), .lst (sql h10) (dp_ints _), PySem.W.ke_shaped_ints _, PySem.W.ke_shaped_ints _, false, ?_, iteF ?_⟩
    · rw [eqv_lists, decide_eq_true hms]
      rfl
    have s8' : Same H8 (upd (upd H8 p9 (.lst (iv ms))) p10 (.lst (rgV 0 (((iv ts).length : Nat) : Int)))) := s9.trans s10
    generalize upd (upd H8 p9 (.lst (iv ms))) p10 (.lst (rgV 0 (((iv ts).length : Nat) : Int))) = H10 at s8'
    have s510 := s8.trans s8'
    have lpos : 0 < ((Mt.lev ts.length ts.length).map (Mt.cost (Mt.tm ts) (Mt.wt ws) 0)).length := by
      obtain ⟨o, ho, _⟩ := Mt.lev_some J.tpos pmb sdb
      rw [List.length_map]
      exact List.length_pos_of_mem ho
    refine ⟨.ref tt, rfl, .ref tu, rfl, .ref pb, rfl, tt, tu, pb, ts, ws, ob, rfl, s510 _ _ htt5, s510 _ _ htu5, s8' _ _ hb, J, pmb, fun H11 s11 => ?_⟩
    have s511 := s510.trans s11
    refine ⟨.ref d, rfl, d, _, rfl, sql (s511 _ _ hD), lpos, fun m hm hle => ?_⟩
    obtain ⟨em, _⟩ := Mt.min_count J.tpos pmb sdb hm hle
    refine ⟨rfl, false, ?_, iteF ?_⟩
    · rw [em, decide_eq_true rfl]
      rfl
    refine ⟨.ref tt, rfl, .ref tu, rfl, tt, tu, ts, ws, rfl, s511 _ _ htt5, s511 _ _ htu5, J, by omega, fun H12 oc s12 pmc sdc => ?_⟩
    have s512 := s511.trans s12
    refine ⟨.ref d, rfl, .inl ⟨rfl, _, sql (s512 _ _ hD)⟩, .ref d, rfl, d, _, rfl, sql (s512 _ _ hD), lpos, fun m2 hm2 hle2 => ?_⟩
    obtain ⟨_, ec⟩ := Mt.min_count J.tpos pmc sdc hm2 hle2
    refine ⟨d, _, m2, rfl, rfl, sql (s512 _ _ hD), ((Mt.grp (Mt.tm ts) (Mt.wt ws) oc : Nat) : Int), by rw [ec]; rfl, fun H13 s13 => ⟨true, rfl, iteF ?_⟩⟩
    have s513 := s512.trans s13
    have R13 : RowAt r a H13 := by
      obtain ⟨p1, q1, z1, e1, x1⟩ := R5
      exact ⟨p1, q1, z1, s513 _ _ e1, x1⟩
    have SC13 := SC5.keep (SameX.of s513)
    have ntr : tt ≠ r := by
      obtain ⟨_, _, _, e1, _⟩ := R5
      exact ne_of htt5 e1 (fun z => by cases z)
    have nur : tu ≠ r := by
      obtain ⟨_, _, _, e1, _⟩ := R5
      exact ne_of htu5 e1 (fun z => by cases z)
    -- a drawn order
    refine ⟨.ref r, rfl, _, rfl, r, a, ns, ts.length, by rw [iv_len]; rfl, SC13, R13, by omega, fun H14 pq oq sx14 R14 hq pmq => ?_⟩
    have htt14 := sx14 _ _ ntr (s513 _ _ htt5)
    have htu14 := sx14 _ _ nur (s513 _ _ htu5)
    have SC14 := SC13.keep sx14
    refine ⟨.ref tt, rfl, .ref pq, rfl, tt, pq, ts, oq, rfl, htt14, hq, pmq, hpos, J.most, J.t, fun H15 pe s15 npe hpe => ?_⟩
    refine ⟨.ref tt, rfl, .ref pq, rfl, tt, pq, ts, oq, rfl, s15 _ _ htt14, s15 _ _ hq, pmq, by omega, fun H16 pl s16 npl hpl => ?_⟩
    refine ⟨pl, _, rfl, .inl ⟨sql hpl, fun v nv => ?_⟩⟩
    have s17 := same_new (o := .tup (iv (Mt.run (Mt.tm ts) ts.length oq).2)) nv
    refine ⟨pe, v, _, rfl, s17 _ _ (s16 _ _ hpe), upd_same, by rw [Mt.run_len]; omega, fun H18 s18 => ⟨true, rfl, iteF ?_⟩⟩
    have s1418 := s15.trans (s16.trans (s17.trans s18))
    refine ⟨.ref tt, rfl, .ref tu, rfl, .ref pq, rfl, tt, tu, pq, ts, ws, oq, rfl, s1418 _ _ htt14, s1418 _ _ htu14, s1418 _ _ hq, J, pmq, fun H19 s19 => ?_⟩
    have s1419 := s1418.trans s19
    refine ⟨.ref tt, rfl, .ref tu, rfl, .ref pq, rfl, tt, tu, pq, ts, ws, oq, rfl, s1419 _ _ htt14, s1419 _ _ htu14, s1419 _ _ hq, J, pmq, fun H20 s20 => ?_⟩
    refine ⟨_, rfl, fun H21 s21 => ⟨true, rfl, iteF ?_⟩⟩
    have s1421 := s1419.trans (s20.trans s21)
    have R21 : RowAt r a H21 := by
      obtain ⟨p1, q1, z1, e1, x1⟩ := R14
      exact ⟨p1, q1, z1, s1421 _ _ e1, x1⟩
    have SC21 := SC14.keep (SameX.of s1421)
    -- the greater jobs
    refine ⟨.ref r, rfl, r, a, ns, 10, 60, rfl, SC21, R21, by omega, by omega, by omega, by omega, fun H22 p2 bt bw bd tb wb db sx22 R22 hp2 hbt hbw hbd J2 hlen2 => ?_⟩
    have SC22 := SC21.keep sx22
    refine ⟨p2, _, rfl, sqt hp2, rfl, _, _, rfl, _, _, rfl, _, [], rfl, rfl, ?_⟩
    refine ⟨.ref bt, rfl, .ref bw, rfl, bt, bw, tb, wb, rfl, hbt, hbw, J2, fun H23 ps os s23 nps hps pms sds => ?_⟩
    have hbt3 := s23 _ _ hbt
    have hbw3 := s23 _ _ hbw
    have lo : os.length = tb.length := perm_len pms
    have m10 := J2.most
    refine ⟨.ref ps, rfl, ps, _, rfl, .inr (sqt hps), 1, _, rfl, ⟨by omega, by omega, by omega, by rw [iv_len, zs_len]; omega⟩, for_range (lo := 1) (n := ((((iv (zs os)).length : Nat) : Int) - 1).toNat) (fun _ σ H' => H' = H23 ∧ ∃ y12, σ = [some (.ref a), some (.ref r), some (.ref tt), some (.ref tu), some (.ref td),
      some (.int (((iv ts).length : Nat) : Int)), some (.ref pq), some (.ref d), some (.ref ps), some (.ref bt), some (.ref bw), some (.ref bd), y12]) ⟨rfl, _, rfl⟩ (fun i σ H' hi hP => ?_) (fun σ H' hP => ?_)⟩
    · obtain ⟨rfl, y12, rfl⟩ := hP
      rw [iv_len, zs_len] at hi
      have hi2 : i + 1 < os.length := by omega
      have h1 : os[i + 1]? = some os[i + 1] := List.getElem?_eq_getElem hi2
      have h0 : os[i]? = some os[i] := List.getElem?_eq_getElem (by omega)
      have e1 : (1 : Int) + (i : Nat) = ((i + 1 : Nat) : Int) := by omega
      have e0 : (1 : Int) + (i : Nat) - 1 = (i : Nat) := by omega
      have b1 : os[i + 1] < tb.length := perm_lt pms _ (List.mem_of_getElem? h1)
      have b0 : os[i] < tb.length := perm_lt pms _ (List.mem_of_getElem? h0)
      have a1 := at_nat e1 (jz_at h1)
      have a0 := at_nat e0 (jz_at h0)
      have rel : Mt.R (Mt.tm tb) (Mt.wt wb) os[i] os[i + 1] := List.pairwise_iff_getElem.mp sds i (i + 1) (by omega) hi2 (by omega)
      refine ⟨.ref bt, rfl, .ref ps, rfl, .int (1 + (i : Nat)), rfl, ps, _, _, _, rfl, rfl, sqt hps, a1, bt, _, _, _, rfl, rfl, sqt hbt3, t_at (K := K) b1, ?_⟩
      refine ⟨.ref bw, rfl, .ref ps, rfl, .int (1 + (i : Nat)), rfl, _, _, rfl, rfl, ps, _, _, _, rfl, rfl, sqt hps, a0, bw, _, _, _, rfl, rfl, sqt hbw3, w_at (K := K) J2 b0, _, _, rfl, rfl, .inl (small_t J2 _), ?_⟩
      refine ⟨.ref bt, rfl, .ref ps, rfl, .int (1 + (i : Nat)), rfl, _, _, rfl, rfl, ps, _, _, _, rfl, rfl, sqt hps, a0, bt, _, _, _, rfl, rfl, sqt hbt3, t_at (K := K) b0, ?_⟩
      refine ⟨.ref bw, rfl, .ref ps, rfl, .int (1 + (i : Nat)), rfl, ps, _, _, _, rfl, rfl, sqt hps, a1, bw, _, _, _, rfl, rfl, sqt hbw3, w_at (K := K) J2 b1, _, _, rfl, rfl, .inl (small_t J2 _), ?_⟩
      refine ⟨_, _, rfl, rfl, false, bf (fun hlt => ?_), iteF ⟨rfl, _, rfl⟩⟩
      unfold Mt.R at rel
      omega
    · obtain ⟨rfl, y12, rfl⟩ := hP
      refine ⟨.ref bt, rfl, .ref bw, rfl, .ref ps, rfl, bt, bw, ps, tb, wb, os, rfl, hbt3, hbw3, hps, J2, pms, fun H24 s24' => ?_⟩
      have R24 : RowAt r a H24 := by
        obtain ⟨p1, q1, z1, e1', x1⟩ := R22
        exact ⟨p1, q1, z1, s24' _ _ (s23 _ _ e1'), x1⟩
      have SC24 := SC22.keep (SameX.of (s23.trans s24'))
      have nbt : bt ≠ r := by
        obtain ⟨_, _, _, e1', _⟩ := R22
        exact ne_of hbt e1' (fun z => by cases z)
      have nbw : bw ≠ r := by
        obtain ⟨_, _, _, e1', _⟩ := R22
        exact ne_of hbw e1' (fun z => by cases z)
      refine ⟨.ref bt, rfl, .ref bw, rfl, .ref r, rfl, .ref bt, rfl, bt, _, rfl, .inr (sqt (s24' _ _ hbt3)), r, a, ns, tb.length, by rw [iv_len]; rfl, SC24, R24, by omega, fun H25 pz oz sx25 R25 hz pmz => ?_⟩
      refine ⟨bt, bw, pz, tb, wb, oz, rfl, sx25 _ _ nbt (s24' _ _ hbt3), sx25 _ _ nbw (s24' _ _ hbw3), hz, J2, pmz, fun H26 s26 => ?_⟩
      refine ⟨_, _, rfl, rfl, ?_⟩
      exact qv (Q := Q) (_root_.Kd.bt (Mt.smith os oz sds (pmz.trans pms.symm)).1) (k H26)
end
end Kd
set_option Elab.async false
set_option linter.all false
set_option maxRecDepth 100000
set_option maxHeartbeats 4000000
/-! What the top leaves; the head. -/
namespace Kd
open PySem PySem.Spec PyProof.Rows L2
theorem mk_df {K : PySem.W.Frag} {h : Heap} {mg : Str → Option Value} {x : Str} {st : Stmt} {ps : List Str} {f : Addr} {oc : Value} {od an : Option Addr} {sl : Array (Option Value)} {kV dc pm cd ct : Value} (X : K.In h) (G : h.Ns mainGlobals mg)
    (a : PySem.W.nsIn K mainGlobals x = some (some (.ref f))) (l : K.lookup f = some ⟨oc, od, .func (PySem.W.fnOf x x (defArgs st) (defBody st) (defScope st) .none kV dc pm an cd ct), sl⟩) (c : PySem.W.codeIn K cd x = true) (k : PySem.W.keepIn K (.ref f) = true)
    (hb : ∀ (kV doc pm : Value) (an : Option Addr) (cdv ct : Value) (us : List Value), us.length = ps.length → bindArgs (PySem.W.fnOf x x (defArgs st) (defBody st) (defScope st) .none kV doc pm an cdv ct) ⟨us, []⟩ = pure (ps.zip us)) :
    ∃ f fd, Df K mg x st ps f fd := by
  have F : Fun K x x st f (PySem.W.fnOf x x (defArgs st) (defBody st) (defScope st) .none kV dc pm an cd ct) := fun_mk l c k
  exact ⟨f, _, ⟨PySem.W.mg_of X G a, F, F.binds hb⟩⟩
theorem mk_cn {K : PySem.W.Frag} {h : Heap} {mg : Str → Option Value} {x : Str} {i : Int} {u : Value} (X : K.In h) (G : h.Ns mainGlobals mg) (a : PySem.W.nsIn K mainGlobals x = some (some u)) (r : ∃ t, u = .int i t) : ∃ t, mg x = some (.int i t) := by
  obtain ⟨t, rfl⟩ := r
  exact ⟨t, PySem.W.mg_of X G a⟩
/-- what the law's own def must be -/
theorem mk_law {l : PySem.W.OpenLaw} {w : World} {K : PySem.W.Frag} {h : Heap} {mg : Str → Option Value} {fa f : Addr} {oc : Value} {od an : Option Addr} {sl : Array (Option Value)} {kV dc pm cd ct : Value} (X : K.In h) (G : h.Ns mainGlobals mg) (hfa : mg "law" = some (.ref fa))
    (a : PySem.W.nsIn K mainGlobals "law" = some (some (.ref f))) (lk : K.lookup f = some ⟨oc, od, .func (PySem.W.fnOf "law" "law" (defArgs sLaw) (defBody sLaw) (defScope sLaw) .none kV dc pm an cd ct), sl⟩) (c : PySem.W.codeIn K cd "law" = true) (k : PySem.W.keepIn K (.ref f) = true)
    (Z : La K mg) : ∃ fd : FuncData, (∀ (s : Shared) (v : Value), BindsTo s fd ⟨[v], []⟩ [("_law_script", v)]) ∧ ∀ base : Heap, K.In base → base.Ns mainGlobals mg → FnOk l.prog w K mg base CX0 7 fa fd ["_law_script"] (spLaw K) := by
  have e := hfa.symm.trans (PySem.W.mg_of X G a)
  cases e
  exact ⟨PySem.W.fnOf "law" "law" (defArgs sLaw) (defBody sLaw) (defScope sLaw) .none kV dc pm an cd ct, fun s v => .of_eq rfl, fun base _ _ => ok_law (fun_mk lk c k) Z⟩
end Kd
open PySem PySem.W PyProof.Rows
set_option maxHeartbeats 0 in
theorem PySem.Challenge.cw_shoporders_k00_whole_sums_of_ends_holds : PySem.Challenge.rw_shoporders_k00_whole_sums_of_ends.Holds := by
  w_on; o_law; k_head; (case hw => w_witness2)
  k_fill
  refine L2.walk_of (l := PySem.Challenge.rw_shoporders_k00_whole_sums_of_ends) (n := 63) (k := 7) (x := "_law_script") (CX := fun _ => L2.CX0) (sp := fun w => Kd.spLaw _) rfl (by decide) rfl ⟨rfl, by decide, by decide⟩ (fun w h Y => PySem.W.kIn_of Y) ?F (fun _ _ a ns _ _ hS => ⟨a, ns, rfl, hS, fun _ => rfl⟩) (fun _ _ _ _ _ h => h)
  case F =>
    intro w mg fa h KX G hmg0
    have hmg : mg "law" = some (.ref fa) := hmg0
    clear hmg0
    refine' Exists.elim (Kd.mk_df (x := "is_integer") (st := Kd.sIsInt) (ps := ["value"]) KX G ?a ?l ?c ?k (fun _ _ _ _ _ _ us hl => match us, hl with | [_], _ => rfl)) ?_
    (case a => k_is); (case l => k_is); (case c => k_is); (case k => k_is)
    rintro f0 ⟨e0, d0⟩
    refine' Exists.elim (Kd.mk_df (x := "is_in") (st := Kd.sIsIn) (ps := ["value", "least", "most"]) KX G ?a ?l ?c ?k (fun _ _ _ _ _ _ us hl => match us, hl with | [_, _, _], _ => rfl)) ?_
    (case a => k_is); (case l => k_is); (case c => k_is); (case k => k_is)
    rintro f1 ⟨e1, d1⟩
    refine' Exists.elim (Kd.mk_df (x := "is_list") (st := Kd.sIsList) (ps := ["value", "least", "most"]) KX G ?a ?l ?c ?k (fun _ _ _ _ _ _ us hl => match us, hl with | [_, _, _], _ => rfl)) ?_
    (case a => k_is); (case l => k_is); (case c => k_is); (case k => k_is)
    rintro f2 ⟨e2, d2⟩
    refine' Exists.elim (Kd.mk_df (x := "first_bad") (st := Kd.sFirst) (ps := ["value", "many", "low", "high"]) KX G ?a ?l ?c ?k (fun _ _ _ _ _ _ us hl => match us, hl with | [_, _, _, _], _ => rfl)) ?_
    (case a => k_is); (case l => k_is); (case c => k_is); (case k => k_is)
    rintro f3 ⟨e3, d3⟩
    refine' Exists.elim (Kd.mk_df (x := "need_times") (st := Kd.sNeedT) (ps := ["times"]) KX G ?a ?l ?c ?k (fun _ _ _ _ _ _ us hl => match us, hl with | [_], _ => rfl)) ?_
    (case a => k_is); (case l => k_is); (case c => k_is); (case k => k_is)
    rintro f4 ⟨e4, d4⟩
    refine' Exists.elim (Kd.mk_df (x := "need_weights") (st := Kd.sNeedW) (ps := ["weights", "many"]) KX G ?a ?l ?c ?k (fun _ _ _ _ _ _ us hl => match us, hl with | [_, _], _ => rfl)) ?_
    (case a => k_is); (case l => k_is); (case c => k_is); (case k => k_is)
    rintro f5 ⟨e5, d5⟩
    refine' Exists.elim (Kd.mk_df (x := "is_order") (st := Kd.sIsOrd) (ps := ["value", "many"]) KX G ?a ?l ?c ?k (fun _ _ _ _ _ _ us hl => match us, hl with | [_, _], _ => rfl)) ?_
    (case a => k_is); (case l => k_is); (case c => k_is); (case k => k_is)
    rintro f6 ⟨e6, d6⟩
    refine' Exists.elim (Kd.mk_df (x := "need_order") (st := Kd.sNeedO) (ps := ["order", "many"]) KX G ?a ?l ?c ?k (fun _ _ _ _ _ _ us hl => match us, hl with | [_, _], _ => rfl)) ?_
    (case a => k_is); (case l => k_is); (case c => k_is); (case k => k_is)
    rintro f7 ⟨e7, d7⟩
    refine' Exists.elim (Kd.mk_df (x := "ends_in") (st := Kd.sEndsIn) (ps := ["times", "order"]) KX G ?a ?l ?c ?k (fun _ _ _ _ _ _ us hl => match us, hl with | [_, _], _ => rfl)) ?_
    (case a => k_is); (case l => k_is); (case c => k_is); (case k => k_is)
    rintro f8 ⟨e8, d8⟩
    refine' Exists.elim (Kd.mk_df (x := "ends") (st := Kd.sEnds) (ps := ["times", "order"]) KX G ?a ?l ?c ?k (fun _ _ _ _ _ _ us hl => match us, hl with | [_, _], _ => rfl)) ?_
    (case a => k_is); (case l => k_is); (case c => k_is); (case k => k_is)
    rintro f9 ⟨e9, d9⟩
    refine' Exists.elim (Kd.mk_df (x := "need_weighed") (st := Kd.sNeedX) (ps := ["times", "weights"]) KX G ?a ?l ?c ?k (fun _ _ _ _ _ _ us hl => match us, hl with | [_, _], _ => rfl)) ?_
    (case a => k_is); (case l => k_is); (case c => k_is); (case k => k_is)
    rintro f10 ⟨e10, d10⟩
    refine' Exists.elim (Kd.mk_df (x := "sum_in") (st := Kd.sSumIn) (ps := ["times", "weights", "order"]) KX G ?a ?l ?c ?k (fun _ _ _ _ _ _ us hl => match us, hl with | [_, _, _], _ => rfl)) ?_
    (case a => k_is); (case l => k_is); (case c => k_is); (case k => k_is)
    rintro f11 ⟨e11, d11⟩
    refine' Exists.elim (Kd.mk_df (x := "weighted_sum") (st := Kd.sWSum) (ps := ["times", "weights", "order"]) KX G ?a ?l ?c ?k (fun _ _ _ _ _ _ us hl => match us, hl with | [_, _, _], _ => rfl)) ?_
    (case a => k_is); (case l => k_is); (case c => k_is); (case k => k_is)
    rintro f12 ⟨e12, d12⟩
    refine' Exists.elim (Kd.mk_df (x := "ratio_order") (st := Kd.sRatio) (ps := ["times", "weights"]) KX G ?a ?l ?c ?k (fun _ _ _ _ _ _ us hl => match us, hl with | [_, _], _ => rfl)) ?_
    (case a => k_is); (case l => k_is); (case c => k_is); (case k => k_is)
    rintro f13 ⟨e13, d13⟩
    refine' Exists.elim (Kd.mk_df (x := "smith_order") (st := Kd.sSmith) (ps := ["times", "weights"]) KX G ?a ?l ?c ?k (fun _ _ _ _ _ _ us hl => match us, hl with | [_, _], _ => rfl)) ?_
    (case a => k_is); (case l => k_is); (case c => k_is); (case k => k_is)
    rintro f14 ⟨e14, d14⟩
    refine' Exists.elim (Kd.mk_df (x := "count_best") (st := Kd.sCount) (ps := ["times", "weights"]) KX G ?a ?l ?c ?k (fun _ _ _ _ _ _ us hl => match us, hl with | [_, _], _ => rfl)) ?_
    (case a => k_is); (case l => k_is); (case c => k_is); (case k => k_is)
    rintro f15 ⟨e15, d15⟩
    refine' Exists.elim (Kd.mk_df (x := "are_alike") (st := Kd.sAlike) (ps := ["times", "weights", "one", "other"]) KX G ?a ?l ?c ?k (fun _ _ _ _ _ _ us hl => match us, hl with | [_, _, _, _], _ => rfl)) ?_
    (case a => k_is); (case l => k_is); (case c => k_is); (case k => k_is)
    rintro f16 ⟨e16, d16⟩
    refine' Exists.elim (Kd.mk_df (x := "_law_taken") (st := Kd.sTaken) (ps := ["_law_row", "_law_many"]) KX G ?a ?l ?c ?k (fun _ _ _ _ _ _ us hl => match us, hl with | [_, _], _ => rfl)) ?_
    (case a => k_is); (case l => k_is); (case c => k_is); (case k => k_is)
    rintro f17 ⟨e17, d17⟩
    refine' Exists.elim (Kd.mk_df (x := "_law_pick") (st := Kd.sPick) (ps := ["_law_row", "_law_things"]) KX G ?a ?l ?c ?k (fun _ _ _ _ _ _ us hl => match us, hl with | [_, _], _ => rfl)) ?_
    (case a => k_is); (case l => k_is); (case c => k_is); (case k => k_is)
    rintro f18 ⟨e18, d18⟩
    refine' Exists.elim (Kd.mk_df (x := "_law_alike") (st := Kd.sLAlike) (ps := ["_law_found", "_law_due"]) KX G ?a ?l ?c ?k (fun _ _ _ _ _ _ us hl => match us, hl with | [_, _], _ => rfl)) ?_
    (case a => k_is); (case l => k_is); (case c => k_is); (case k => k_is)
    rintro f19 ⟨e19, d19⟩
    refine' Exists.elim (Kd.mk_df (x := "_law_jobs") (st := Kd.sJobs) (ps := ["_law_row", "_law_most", "_law_time"]) KX G ?a ?l ?c ?k (fun _ _ _ _ _ _ us hl => match us, hl with | [_, _, _], _ => rfl)) ?_
    (case a => k_is); (case l => k_is); (case c => k_is); (case k => k_is)
    rintro f20 ⟨e20, d20⟩
    refine' Exists.elim (Kd.mk_df (x := "_law_order") (st := Kd.sOrder) (ps := ["_law_row", "_law_many"]) KX G ?a ?l ?c ?k (fun _ _ _ _ _ _ us hl => match us, hl with | [_, _], _ => rfl)) ?_
    (case a => k_is); (case l => k_is); (case c => k_is); (case k => k_is)
    rintro f21 ⟨e21, d21⟩
    refine' Exists.elim (Kd.mk_df (x := "_law_orders") (st := Kd.sOrders) (ps := ["_law_many", "_law_pairs"]) KX G ?a ?l ?c ?k (fun _ _ _ _ _ _ us hl => match us, hl with | [_, _], _ => rfl)) ?_
    (case a => k_is); (case l => k_is); (case c => k_is); (case k => k_is)
    rintro f22 ⟨e22, d22⟩
    refine' Exists.elim (Kd.mk_df (x := "_law_ends") (st := Kd.sLEnds) (ps := ["_law_times", "_law_order_here"]) KX G ?a ?l ?c ?k (fun _ _ _ _ _ _ us hl => match us, hl with | [_, _], _ => rfl)) ?_
    (case a => k_is); (case l => k_is); (case c => k_is); (case k => k_is)
    rintro f23 ⟨e23, d23⟩
    refine' Exists.elim (Kd.mk_df (x := "_law_sum") (st := Kd.sLSum) (ps := ["_law_times", "_law_weights", "_law_order_here"]) KX G ?a ?l ?c ?k (fun _ _ _ _ _ _ us hl => match us, hl with | [_, _, _], _ => rfl)) ?_
    (case a => k_is); (case l => k_is); (case c => k_is); (case k => k_is)
    rintro f24 ⟨e24, d24⟩
    have b0 : mg "isinstance" = none := PySem.W.mg_none_of KX G (by k_is)
    have b1 : mg "int" = none := PySem.W.mg_none_of KX G (by k_is)
    have b2 : mg "bool" = none := PySem.W.mg_none_of KX G (by k_is)
    have b3 : mg "tuple" = none := PySem.W.mg_none_of KX G (by k_is)
    have b4 : mg "list" = none := PySem.W.mg_none_of KX G (by k_is)
    have b5 : mg "str" = none := PySem.W.mg_none_of KX G (by k_is)
    have b6 : mg "len" = none := PySem.W.mg_none_of KX G (by k_is)
    have b7 : mg "enumerate" = none := PySem.W.mg_none_of KX G (by k_is)
    have b8 : mg "all" = none := PySem.W.mg_none_of KX G (by k_is)
    have b9 : mg "set" = none := PySem.W.mg_none_of KX G (by k_is)
    have b10 : mg "sum" = none := PySem.W.mg_none_of KX G (by k_is)
    have b11 : mg "zip" = none := PySem.W.mg_none_of KX G (by k_is)
    have b12 : mg "range" = none := PySem.W.mg_none_of KX G (by k_is)
    have b13 : mg "sorted" = none := PySem.W.mg_none_of KX G (by k_is)
    have b14 : mg "min" = none := PySem.W.mg_none_of KX G (by k_is)
    have c0 : ∃ t, mg "MOST_JOBS" = some (.int 10 t) := by
      refine' Kd.mk_cn KX G ?a ?r
      (case a => k_is); (case r => exact ⟨_, rfl⟩)
    have c1 : ∃ t, mg "MOST_TIME" = some (.int 60 t) := by
      refine' Kd.mk_cn KX G ?a ?r
      (case a => k_is); (case r => exact ⟨_, rfl⟩)
    have c2 : ∃ t, mg "MOST_WEIGHT" = some (.int 60 t) := by
      refine' Kd.mk_cn KX G ?a ?r
      (case a => k_is); (case r => exact ⟨_, rfl⟩)
    refine' Kd.mk_law KX G hmg ?a ?l ?c ?k ⟨⟨⟨f3, e3, d3, f1, e1, d1, f2, e2, d2, f0, e0, d0, ⟨b0, b1, b2, b3, b4, b5, b6, b7, b8, b9, b10, b11, b12, b13, b14⟩, ⟨c0, c1, c2⟩⟩, f4, e4, d4, f5, e5, d5, f10, e10, d10, f7, e7, d7, f6, e6, d6, f8, e8, d8, f11, e11, d11⟩, f13, e13, d13, f14, e14, d14, f15, e15, d15, f16, e16, d16, f9, e9, d9, f12, e12, d12, f17, e17, d17, f18, e18, d18, f19, e19, d19, f20, e20, d20, f21, e21, d21, f22, e22, d22, f23, e23, d23, f24, e24, d24⟩
    (case a => k_is); (case l => k_is); (case c => k_is); (case k => k_is)
