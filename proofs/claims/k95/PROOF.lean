import PyProof.Rows.All
import Wide.All
import OpenK.AllK
import Wide.FinOn
import HandS.ForMost
import HandS.ForExc
import HandS.IsInst
import HandS.TupLe
import HandS.DictComp
import HandS.ExcIs
import HandS.Lambda
import HandS.EndTab
import HandS.Sort
import HandS.SortRule
import HandS.Conv
import HandS.Small
import HandS.Style
import HandS.Evl
import KE.DatumOrd
import KE.GoesEnum
import PySem.Challenge.RW_gridink_k95_whole_boxes_within
set_option Elab.async false
set_option linter.all false
set_option maxRecDepth 100000
set_option maxHeartbeats 8000000
/-! the plain law -/
namespace Gk
abbrev C2 := Int × Int
/-! ### lists without repetition -/
theorem len_sub {α : Type} [DecidableEq α] : ∀ (F G : List α), F.Nodup → (∀ x ∈ F, x ∈ G) → F.length ≤ G.length
  | [], _, _, _ => Nat.zero_le _
  | a :: F, G, hn, hs => by
    have hn' := List.nodup_cons.mp hn
    have ha : a ∈ G := hs a List.mem_cons_self
    have ih := len_sub F (G.erase a) hn'.2 (fun x hx => by
      have hne : x ≠ a := fun e => hn'.1 (e ▸ hx)
      exact (List.mem_erase_of_ne hne).mpr (hs x (List.mem_cons_of_mem _ hx)))
    have e := List.length_erase_of_mem ha
    have hp : 0 < G.length := List.length_pos_of_mem ha
    rw [List.length_cons]
    omega
theorem sub_of_len {α : Type} [DecidableEq α] {F G : List α} (hn : F.Nodup) (hs : ∀ x ∈ F, x ∈ G) (hl : G.length ≤ F.length) : ∀ x ∈ G, x ∈ F := by
  intro x hx
  by_cases h : x ∈ F
  · exact h
  · have z := len_sub (x :: F) G (List.nodup_cons.mpr ⟨h, hn⟩) (fun y hy => by
      rcases List.mem_cons.mp hy with e | e
      · rw [e]; exact hx
      · exact hs y e)
    rw [List.length_cons] at z
    omega
theorem sum_sub {α : Type} [DecidableEq α] (g : α → Nat) : ∀ (A B : List α), A.Nodup → B.Nodup → (∀ x ∈ A, x ∈ B) → (∀ b ∈ B, b ∉ A → g b = 0) → (B.map g).sum = (A.map g).sum
  | [], B, _, _, _, hz => by
    have : ∀ (B : List α), (∀ b ∈ B, g b = 0) → (B.map g).sum = 0 := by
      intro B
      induction B with
      | nil => intro _; rfl
      | cons b B ih =>
        intro h
        rw [List.map_cons, List.sum_cons, h b List.mem_cons_self, ih fun x hx => h x (List.mem_cons_of_mem _ hx)]
    rw [this B fun b hb => hz b hb (by simp)]
    rfl
  | a :: A, B, hA, hB, hs, hz => by
    have hA' := List.nodup_cons.mp hA
    have ha : a ∈ B := hs a List.mem_cons_self
    have hp := List.perm_cons_erase ha
    have e1 : (B.map g).sum = ((a :: B.erase a).map g).sum := (hp.map g).sum_nat
    have hBe : (B.erase a).Nodup := hB.erase a
    have ih := sum_sub g A (B.erase a) hA'.2 hBe (fun x hx => by
      have hne : x ≠ a := fun e => hA'.1 (e ▸ hx)
      exact (List.mem_erase_of_ne hne).mpr (hs x (List.mem_cons_of_mem _ hx))) (fun b hb hn => by
      have hbB := List.mem_of_mem_erase hb
      have hne : b ≠ a := fun e => by
        rw [e] at hb
        exact (List.Nodup.not_mem_erase hB) hb
      exact hz b hbB (by simp [hne, hn]))
    rw [e1, List.map_cons, List.map_cons, List.sum_cons, List.sum_cons, ih]
/-! ### boxes and their cells -/
def inB (t l b r : Int) (c : C2) : Bool := decide (t ≤ c.1) && decide (c.1 < b) && (decide (l ≤ c.2) && decide (c.2 < r))
theorem inB_iff {t l b r : Int} {c : C2} : inB t l b r c = true ↔ (t ≤ c.1 ∧ c.1 < b) ∧ (l ≤ c.2 ∧ c.2 < r) := by
  unfold inB
  simp only [Bool.and_eq_true, decide_eq_true_eq]
def cnt (cs : List C2) (t l b r : Int) : Nat := (cs.filter (inB t l b r)).length
def Full (cs : List C2) (t l b r : Int) : Prop := ∀ x y : Int, t ≤ x → x < b → l ≤ y → y < r → (x, y) ∈ cs
def grid (t l : Int) (h w : Nat) : List C2 := (List.range h).flatMap fun (i : Nat) => (List.range w).map fun (j : Nat) => (t + (i : Int), l + (j : Int))
theorem sum_const (n k : Nat) : ((List.range n).map fun _ => k).sum = n * k := by
  induction n with
  | zero => simp
  | succ n ih =>
    rw [List.range_succ, List.map_append, List.sum_append, ih, Nat.succ_mul]
    simp
theorem grid_len (t l : Int) (h w : Nat) : (grid t l h w).length = h * w := by
  unfold grid
  rw [List.length_flatMap]
  have e : (fun (i : Nat) => ((List.range w).map fun (j : Nat) => (t + (i : Int), l + (j : Int))).length) = fun _ => w := by
    funext i
    rw [List.length_map, List.length_range]
  rw [e]
  exact sum_const h w
theorem mem_grid {t l : Int} {h w : Nat} {c : C2} : c ∈ grid t l h w ↔ (t ≤ c.1 ∧ c.1 < t + h) ∧ (l ≤ c.2 ∧ c.2 < l + w) := by
  unfold grid
  simp only [List.mem_flatMap, List.mem_map, List.mem_range]
  constructor
  · rintro ⟨i, hi, j, hj, e⟩
    rw [← e]
    simp only
    omega
  · rintro ⟨⟨h1, h2⟩, h3, h4⟩
    refine ⟨(c.1 - t).toNat, by omega, (c.2 - l).toNat, by omega, ?_⟩
    obtain ⟨x, y⟩ := c
    simp only at h1 h2 h3 h4 ⊢
    have e1 : t + ((x - t).toNat : Int) = x := by omega
    have e2 : l + ((y - l).toNat : Int) = y := by omega
    rw [e1, e2]
theorem grid_nodup (t l : Int) (h w : Nat) : (grid t l h w).Nodup := by
  unfold grid
  unfold List.Nodup
  rw [List.pairwise_flatMap]
  refine ⟨fun i _ => ?_, ?_⟩
  · rw [List.pairwise_map]
    refine List.Pairwise.imp ?_ (List.nodup_range (n := w))
    intro a b hab e
    have e2 : l + (a : Int) = l + (b : Int) := congrArg Prod.snd e
    exact hab (by omega)
  · refine List.Pairwise.imp ?_ (List.nodup_range (n := h))
    intro a b hab x hx y hy e
    obtain ⟨j, _, rfl⟩ := List.mem_map.mp hx
    obtain ⟨k, _, rfl⟩ := List.mem_map.mp hy
    have e2 : t + (a : Int) = t + (b : Int) := congrArg Prod.fst e
    exact hab (by omega)
theorem cnt_full {cs : List C2} (hn : cs.Nodup) (t l b r : Int) (hb : t ≤ b) (hr : l ≤ r) : (cnt cs t l b r : Int) = (b - t) * (r - l) ↔ Full cs t l b r := by
  have hF : (cs.filter (inB t l b r)).Nodup := hn.filter _
  have hG : ∀ c : C2, c ∈ grid t l (b - t).toNat (r - l).toNat ↔ inB t l b r c = true := fun c => by
    rw [mem_grid, inB_iff]
    omega
  have hs : ∀ c ∈ cs.filter (inB t l b r), c ∈ grid t l (b - t).toNat (r - l).toNat := fun c hc => (hG c).mpr (List.mem_filter.mp hc).2
  have hl := grid_len t l (b - t).toNat (r - l).toNat
  have ha : (((b - t).toNat * (r - l).toNat : Nat) : Int) = (b - t) * (r - l) := by
    rw [Int.natCast_mul, Int.toNat_of_nonneg (by omega), Int.toNat_of_nonneg (by omega)]
  unfold cnt
  constructor
  · intro e x y h1 h2 h3 h4
    have hle : (grid t l (b - t).toNat (r - l).toNat).length ≤ (cs.filter (inB t l b r)).length := by
      rw [hl]
      have : ((((b - t).toNat * (r - l).toNat : Nat)) : Int) = ((cs.filter (inB t l b r)).length : Int) := by rw [ha, e]
      omega
    have z := sub_of_len hF hs hle (x, y) ((hG _).mpr (inB_iff.mpr ⟨⟨h1, h2⟩, h3, h4⟩))
    exact (List.mem_filter.mp z).1
  · intro f
    have h1 := len_sub _ _ hF hs
    have h2 := len_sub (grid t l (b - t).toNat (r - l).toNat) (cs.filter (inB t l b r)) (grid_nodup t l (b - t).toNat (r - l).toNat) (fun c hc => by
      have q := (hG c).mp hc
      have q2 := inB_iff.mp q
      exact List.mem_filter.mpr ⟨f c.1 c.2 q2.1.1 q2.1.2 q2.2.1 q2.2.2, q⟩)
    rw [hl] at h1 h2
    rw [← ha]
    omega
/-! ### the sum table -/
def tb (r c : Int) (p : C2) : Int := if p.1 < r ∧ p.2 < c then 1 else 0
def T (cs : List C2) (r c : Int) : Int := (cs.map (tb r c)).sum
def isIn (cs : List C2) (p : C2) : Int := if p ∈ cs then 1 else 0
theorem T_nil (r c : Int) : T [] r c = 0 := rfl
theorem T_cons (a : C2) (cs : List C2) (r c : Int) : T (a :: cs) r c = tb r c a + T cs r c := by
  unfold T
  rw [List.map_cons, List.sum_cons]
theorem T_step {cs : List C2} (hn : cs.Nodup) (r c : Int) : T cs r c = T cs (r - 1) c + T cs r (c - 1) - T cs (r - 1) (c - 1) + isIn cs (r - 1, c - 1) := by
  induction cs with
  | nil => rfl
  | cons a cs ih =>
    have hn' := List.nodup_cons.mp hn
    have ih := ih hn'.2
    rw [T_cons, T_cons, T_cons, T_cons]
    have e : isIn (a :: cs) (r - 1, c - 1) = (if a = (r - 1, c - 1) then 1 else 0) + isIn cs (r - 1, c - 1) := by
      unfold isIn
      by_cases h : a = (r - 1, c - 1)
      · have h1 : (r - 1, c - 1) ∉ cs := h ▸ hn'.1
        simp [h, h1]
      · have h' : ¬ (r - 1, c - 1) = a := fun z => h z.symm
        by_cases h2 : (r - 1, c - 1) ∈ cs
        · simp [h, h2]
        · simp [h, h', h2]
    rw [e]
    obtain ⟨x, y⟩ := a
    have e2 : ((x, y) = ((r - 1, c - 1) : C2)) ↔ (x = r - 1 ∧ y = c - 1) := by
      constructor
      · intro z; exact ⟨congrArg Prod.fst z, congrArg Prod.snd z⟩
      · rintro ⟨rfl, rfl⟩; rfl
    have k : tb r c (x, y) = tb (r - 1) c (x, y) + tb r (c - 1) (x, y) - tb (r - 1) (c - 1) (x, y) + (if (x, y) = ((r - 1, c - 1) : C2) then 1 else 0) := by
      unfold tb
      simp only [e2]
      split <;> split <;> split <;> split <;> split <;> omega
    omega
theorem T_low_r {cs : List C2} {r c : Int} (h : ∀ p ∈ cs, r ≤ p.1) : T cs r c = 0 := by
  induction cs with
  | nil => rfl
  | cons a cs ih =>
    rw [T_cons, ih fun p hp => h p (List.mem_cons_of_mem _ hp)]
    have := h a List.mem_cons_self
    unfold tb
    rw [if_neg (by omega)]
    rfl
theorem T_low_c {cs : List C2} {r c : Int} (h : ∀ p ∈ cs, c ≤ p.2) : T cs r c = 0 := by
  induction cs with
  | nil => rfl
  | cons a cs ih =>
    rw [T_cons, ih fun p hp => h p (List.mem_cons_of_mem _ hp)]
    have := h a List.mem_cons_self
    unfold tb
    rw [if_neg (by omega)]
    rfl
theorem T_same {cs : List C2} {r r' c c' : Int} (h : ∀ p ∈ cs, (p.1 < r ↔ p.1 < r') ∧ (p.2 < c ↔ p.2 < c')) : T cs r c = T cs r' c' := by
  induction cs with
  | nil => rfl
  | cons a cs ih =>
    rw [T_cons, T_cons, ih fun p hp => h p (List.mem_cons_of_mem _ hp)]
    have h1 := h a List.mem_cons_self
    have e : tb r c a = tb r' c' a := by
      unfold tb
      simp only [h1.1, h1.2]
    rw [e]
theorem T_box (cs : List C2) {t l b r : Int} (hb : t ≤ b) (hr : l ≤ r) : T cs b r - T cs t r - T cs b l + T cs t l = (cnt cs t l b r : Int) := by
  induction cs with
  | nil => rfl
  | cons a cs ih =>
    rw [T_cons, T_cons, T_cons, T_cons]
    have e : (cnt (a :: cs) t l b r : Int) = (if inB t l b r a = true then 1 else 0) + (cnt cs t l b r : Int) := by
      unfold cnt
      rw [List.filter_cons]
      by_cases h : inB t l b r a = true
      · rw [if_pos h, if_pos h, List.length_cons]
        omega
      · rw [if_neg h, if_neg h]
        omega
    have k : tb b r a - tb t r a - tb b l a + tb t l a = if inB t l b r a = true then 1 else 0 := by
      have q := @inB_iff t l b r a
      by_cases h : inB t l b r a = true
      · have h2 := q.mp h
        rw [if_pos h]
        unfold tb
        rw [if_pos (by omega), if_neg (by omega), if_neg (by omega), if_neg (by omega)]
        rfl
      · rw [if_neg h]
        have h2 : ¬ ((t ≤ a.1 ∧ a.1 < b) ∧ (l ≤ a.2 ∧ a.2 < r)) := fun z => h (q.mpr z)
        unfold tb
        split <;> split <;> split <;> split <;> omega
    omega

/-! ### the law's list: every full box of the frame -/
abbrev K5 := Int × Int × Int × Int × Int
def fullB (cs : List C2) (t l b r : Int) : Bool := decide ((cnt cs t l b r : Int) = (b - t) * (r - l))
theorem fullB_iff {cs : List C2} (hn : cs.Nodup) {t l b r : Int} (hb : t ≤ b) (hr : l ≤ r) : fullB cs t l b r = true ↔ Full cs t l b r := by
  unfold fullB
  rw [decide_eq_true_eq]
  exact cnt_full hn t l b r hb hr
def key (cs : List C2) (t l b r : Int) : K5 := (0 - (cnt cs t l b r : Int), t, l, b, r)
/-- one box, one row of boxes, .. of the law's loops -/
def L4 (cs : List C2) (t l b : Int) (n : Nat) : List K5 := (List.range n).flatMap fun (f : Nat) => if fullB cs t l b (l + 1 + (f : Int)) = true then [key cs t l b (l + 1 + (f : Int))] else []
def L3 (cs : List C2) (t l : Int) (m n : Nat) : List K5 := (List.range m).flatMap fun (e : Nat) => L4 cs t l (t + 1 + (e : Int)) n
def L2 (cs : List C2) (t l b r : Int) (w : Nat) : List K5 := (List.range w).flatMap fun (j : Nat) => L3 cs t (l + (j : Int)) (b - t).toNat (r - (l + (j : Int))).toNat
def L1 (cs : List C2) (t l b r : Int) (h w : Nat) : List K5 := (List.range h).flatMap fun (i : Nat) => L2 cs (t + (i : Int)) l b r w
theorem flat_succ {α : Type} (f : Nat → List α) (n : Nat) : (List.range (n + 1)).flatMap f = (List.range n).flatMap f ++ f n := by
  rw [List.range_succ, List.flatMap_append]
  simp
theorem L4_succ (cs : List C2) (t l b : Int) (n : Nat) : L4 cs t l b (n + 1) = L4 cs t l b n ++ (if fullB cs t l b (l + 1 + (n : Int)) = true then [key cs t l b (l + 1 + (n : Int))] else []) := flat_succ _ n
theorem L3_succ (cs : List C2) (t l : Int) (m n : Nat) : L3 cs t l (m + 1) n = L3 cs t l m n ++ L4 cs t l (t + 1 + (m : Int)) n := flat_succ _ m
theorem L2_succ (cs : List C2) (t l b r : Int) (w : Nat) : L2 cs t l b r (w + 1) = L2 cs t l b r w ++ L3 cs t (l + (w : Int)) (b - t).toNat (r - (l + (w : Int))).toNat := flat_succ _ w
theorem L1_succ (cs : List C2) (t l b r : Int) (h w : Nat) : L1 cs t l b r (h + 1) w = L1 cs t l b r h w ++ L2 cs (t + (h : Int)) l b r w := flat_succ _ h
theorem len_flat {α : Type} (f : Nat → List α) (k : Nat) : ∀ n : Nat, (∀ i, i < n → (f i).length ≤ k) → ((List.range n).flatMap f).length ≤ n * k
  | 0, _ => by simp
  | n + 1, h => by
    rw [flat_succ, List.length_append, Nat.succ_mul]
    have := len_flat f k n fun i hi => h i (by omega)
    have := h n (by omega)
    omega
theorem L4_len (cs : List C2) (t l b : Int) (n : Nat) : (L4 cs t l b n).length ≤ n := by
  have := len_flat (fun (f : Nat) => if fullB cs t l b (l + 1 + (f : Int)) = true then [key cs t l b (l + 1 + (f : Int))] else []) 1 n fun i _ => by
    split <;> simp
  unfold L4
  omega
theorem L3_len (cs : List C2) (t l : Int) (m n : Nat) : (L3 cs t l m n).length ≤ m * n := len_flat _ n m fun _ _ => L4_len _ _ _ _ _
theorem L2_len (cs : List C2) (t l b r : Int) (w k : Nat) (hb : b - t ≤ (k : Int)) (hr : r - l ≤ (k : Int)) : (L2 cs t l b r w).length ≤ w * (k * k) := by
  refine len_flat _ (k * k) w fun i _ => Nat.le_trans (L3_len _ _ _ _ _) (Nat.mul_le_mul (by omega) (by omega))
theorem L1_len (cs : List C2) (t l b r : Int) (h w k : Nat) (hb : b - t ≤ (k : Int)) (hr : r - l ≤ (k : Int)) : (L1 cs t l b r h w).length ≤ h * (w * (k * k)) := by
  refine len_flat _ (w * (k * k)) h fun i _ => L2_len _ _ _ _ _ _ _ (by omega) hr
theorem mem_flat {α : Type} {f : Nat → List α} {n : Nat} {x : α} : x ∈ (List.range n).flatMap f ↔ ∃ i, i < n ∧ x ∈ f i := by
  simp only [List.mem_flatMap, List.mem_range]
theorem mem_L4 {cs : List C2} {t l b : Int} {n : Nat} {x : K5} : x ∈ L4 cs t l b n ↔ ∃ r, l < r ∧ r ≤ l + n ∧ fullB cs t l b r = true ∧ x = key cs t l b r := by
  unfold L4
  rw [mem_flat]
  constructor
  · rintro ⟨i, hi, hx⟩
    by_cases h : fullB cs t l b (l + 1 + (i : Int)) = true
    · rw [if_pos h] at hx
      exact ⟨_, by omega, by omega, h, List.mem_singleton.mp hx⟩
    · rw [if_neg h] at hx
      cases hx
  · rintro ⟨r, h1, h2, h3, h4⟩
    refine ⟨(r - l - 1).toNat, by omega, ?_⟩
    have e : l + 1 + ((r - l - 1).toNat : Int) = r := by omega
    rw [e, if_pos h3, h4]
    exact List.mem_singleton.mpr rfl
theorem mem_L3 {cs : List C2} {t l : Int} {m n : Nat} {x : K5} : x ∈ L3 cs t l m n ↔ ∃ b r, t < b ∧ b ≤ t + m ∧ l < r ∧ r ≤ l + n ∧ fullB cs t l b r = true ∧ x = key cs t l b r := by
  unfold L3
  rw [mem_flat]
  constructor
  · rintro ⟨i, hi, hx⟩
    obtain ⟨r, h1, h2, h3, h4⟩ := mem_L4.mp hx
    exact ⟨t + 1 + (i : Int), r, by omega, by omega, h1, h2, h3, h4⟩
  · rintro ⟨b, r, h1, h2, h3, h4, h5, h6⟩
    refine ⟨(b - t - 1).toNat, by omega, ?_⟩
    have e : t + 1 + ((b - t - 1).toNat : Int) = b := by omega
    rw [e]
    exact mem_L4.mpr ⟨r, h3, h4, h5, h6⟩
theorem mem_L1 {cs : List C2} {t l b r : Int} {h w : Nat} (hh : b = t + h) (hw : r = l + w) {x : K5} : x ∈ L1 cs t l b r h w ↔ ∃ t' l' b' r', t ≤ t' ∧ t' < b' ∧ b' ≤ b ∧ l ≤ l' ∧ l' < r' ∧ r' ≤ r ∧ fullB cs t' l' b' r' = true ∧ x = key cs t' l' b' r' := by
  unfold L1
  rw [mem_flat]
  constructor
  · rintro ⟨i, hi, hx⟩
    unfold L2 at hx
    obtain ⟨j, hj, hx⟩ := mem_flat.mp hx
    obtain ⟨b', r', h1, h2, h3, h4, h5, h6⟩ := mem_L3.mp hx
    exact ⟨t + (i : Int), l + (j : Int), b', r', by omega, h1, by omega, by omega, h3, by omega, h5, h6⟩
  · rintro ⟨t', l', b', r', h1, h2, h3, h4, h5, h6, h7, h8⟩
    refine ⟨(t' - t).toNat, by omega, ?_⟩
    have e : t + ((t' - t).toNat : Int) = t' := by omega
    rw [e]
    unfold L2
    refine mem_flat.mpr ⟨(l' - l).toNat, by omega, ?_⟩
    have e : l + ((l' - l).toNat : Int) = l' := by omega
    rw [e]
    exact mem_L3.mpr ⟨b', r', h2, by omega, h5, by omega, h7, h8⟩
/-- the frame of the ink -/
structure IsBox (cs : List C2) (t l b r : Int) : Prop where
  inn : ∀ p ∈ cs, (t ≤ p.1 ∧ p.1 < b) ∧ (l ≤ p.2 ∧ p.2 < r)
  tt : ∃ p ∈ cs, p.1 = t
  ll : ∃ p ∈ cs, p.2 = l
  bb : ∃ p ∈ cs, p.1 = b - 1
  rr : ∃ p ∈ cs, p.2 = r - 1
theorem Full.within {cs : List C2} {t l b r t' l' b' r' : Int} (B : IsBox cs t l b r) (h : Full cs t' l' b' r') (h1 : t' < b') (h2 : l' < r') : t ≤ t' ∧ b' ≤ b ∧ l ≤ l' ∧ r' ≤ r := by
  have a := B.inn _ (h t' l' (by omega) (by omega) (by omega) (by omega))
  have c := B.inn _ (h (b' - 1) (r' - 1) (by omega) (by omega) (by omega) (by omega))
  simp only at a c
  omega

/-! ### the order of keys -/
def lt5 (x y : K5) : Prop := x.1 < y.1 ∨ (x.1 = y.1 ∧ (x.2.1 < y.2.1 ∨ (x.2.1 = y.2.1 ∧ (x.2.2.1 < y.2.2.1 ∨ (x.2.2.1 = y.2.2.1 ∧ (x.2.2.2.1 < y.2.2.2.1 ∨ (x.2.2.2.1 = y.2.2.2.1 ∧ x.2.2.2.2 < y.2.2.2.2)))))))
instance (x y : K5) : Decidable (lt5 x y) := by unfold lt5; infer_instance
theorem lt5_irrefl (x : K5) : ¬ lt5 x x := by unfold lt5; omega
theorem lt5_tri {x y : K5} (h1 : ¬ lt5 x y) (h2 : ¬ lt5 y x) : x = y := by
  obtain ⟨a, b, c, d, e⟩ := x
  obtain ⟨a', b', c', d', e'⟩ := y
  unfold lt5 at h1 h2
  simp only at h1 h2
  have e1 : a = a' := by omega
  subst e1
  have e1 : b = b' := by omega
  subst e1
  have e1 : c = c' := by omega
  subst e1
  have e1 : d = d' := by omega
  subst e1
  have e1 : e = e' := by omega
  subst e1
  rfl
/-- x ≥ y, y ≥ z: x ≥ z -/
theorem ge5_trans {x y z : K5} (h1 : ¬ lt5 x y) (h2 : ¬ lt5 y z) : ¬ lt5 x z := by
  obtain ⟨a, b, c, d, e⟩ := x
  obtain ⟨a', b', c', d', e'⟩ := y
  obtain ⟨a2, b2, c2, d2, e2⟩ := z
  unfold lt5 at h1 h2 ⊢
  simp only at h1 h2 ⊢
  omega
theorem lt5_asymm {x y : K5} (h : lt5 x y) : ¬ lt5 y x := by
  obtain ⟨a, b, c, d, e⟩ := x
  obtain ⟨a', b', c', d', e'⟩ := y
  unfold lt5 at h ⊢
  simp only at h ⊢
  omega
def mn (a y : K5) : K5 := if lt5 y a then y else a
theorem mn_least {a y : K5} : (mn a y = a ∨ mn a y = y) ∧ ¬ lt5 a (mn a y) ∧ ¬ lt5 y (mn a y) := by
  unfold mn
  by_cases h : lt5 y a
  · rw [if_pos h]
    exact ⟨.inr rfl, lt5_asymm h, lt5_irrefl y⟩
  · rw [if_neg h]
    exact ⟨.inl rfl, lt5_irrefl a, h⟩
theorem fold_least : ∀ (xs : List K5) (x : K5), xs.foldl mn x ∈ x :: xs ∧ ∀ y ∈ x :: xs, ¬ lt5 y (xs.foldl mn x)
  | [], x => ⟨List.mem_singleton.mpr rfl, fun y hy => by
    rw [List.mem_singleton.mp hy]
    exact lt5_irrefl x⟩
  | z :: xs, x => by
    obtain ⟨h1, h2⟩ := fold_least xs (mn x z)
    obtain ⟨m1, m2, m3⟩ := mn_least (a := x) (y := z)
    rw [List.foldl_cons]
    refine ⟨?_, fun y hy => ?_⟩
    · rcases List.mem_cons.mp h1 with e | e
      · rcases m1 with q | q
        · rw [e, q]; exact List.mem_cons_self
        · rw [e, q]; exact List.mem_cons_of_mem _ List.mem_cons_self
      · exact List.mem_cons_of_mem _ (List.mem_cons_of_mem _ e)
    · have hx := h2 (mn x z) List.mem_cons_self
      rcases List.mem_cons.mp hy with e | hy
      · rw [e]; exact ge5_trans m2 hx
      · rcases List.mem_cons.mp hy with e | hy
        · rw [e]; exact ge5_trans m3 hx
        · exact h2 y (List.mem_cons_of_mem _ hy)
/-- a full box's key -/
def Mem (cs : List C2) (x : K5) : Prop := ∃ t l b r, t < b ∧ l < r ∧ Full cs t l b r ∧ x = ((0 - (b - t) * (r - l), t, l, b, r) : K5)
def Least (cs : List C2) (m : K5) : Prop := Mem cs m ∧ ∀ x, Mem cs x → ¬ lt5 x m
theorem Least.one {cs : List C2} {m m' : K5} (h : Least cs m) (h' : Least cs m') : m = m' := lt5_tri (h'.2 _ h.1) (h.2 _ h'.1)
theorem mem_key {cs : List C2} (hn : cs.Nodup) {t l b r : Int} (h1 : t < b) (h2 : l < r) (hf : fullB cs t l b r = true) : Mem cs (key cs t l b r) := by
  refine ⟨t, l, b, r, h1, h2, (fullB_iff hn (by omega) (by omega)).mp hf, ?_⟩
  unfold fullB at hf
  unfold key
  rw [of_decide_eq_true hf]
theorem least_L1 {cs : List C2} (hn : cs.Nodup) {t l b r : Int} (B : IsBox cs t l b r) {h w : Nat} (hh : b = t + h) (hw : r = l + w) {x : K5} {xs : List K5} (e : L1 cs t l b r h w = x :: xs) : Least cs (xs.foldl mn x) := by
  obtain ⟨h1, h2⟩ := fold_least xs x
  refine ⟨?_, fun y hy => ?_⟩
  · rw [← e] at h1
    obtain ⟨t', l', b', r', _, h4, _, _, h7, _, h9, h10⟩ := (mem_L1 hh hw).mp h1
    rw [h10]
    exact mem_key hn h4 h7 h9
  · obtain ⟨t', l', b', r', q1, q2, q3, q4⟩ := hy
    refine h2 y ?_
    rw [← e]
    have z := Full.within B q3 q1 q2
    have f := (fullB_iff hn (t := t') (l := l') (b := b') (r := r') (by omega) (by omega)).mpr q3
    refine (mem_L1 hh hw).mpr ⟨t', l', b', r', z.1, q1, z.2.1, z.2.2.1, q2, z.2.2.2, f, ?_⟩
    rw [q4]
    unfold key
    unfold fullB at f
    rw [of_decide_eq_true f]
theorem L1_ne {cs : List C2} (hn : cs.Nodup) {t l b r : Int} (B : IsBox cs t l b r) {h w : Nat} (hh : b = t + h) (hw : r = l + w) : L1 cs t l b r h w ≠ [] := by
  intro e
  obtain ⟨p, hp, e1⟩ := B.tt
  have i := B.inn p hp
  have f : Full cs p.1 p.2 (p.1 + 1) (p.2 + 1) := fun x y a1 a2 a3 a4 => by
    have ex : x = p.1 := by omega
    have ey : y = p.2 := by omega
    rw [ex, ey]
    exact hp
  have m : key cs p.1 p.2 (p.1 + 1) (p.2 + 1) ∈ L1 cs t l b r h w := (mem_L1 hh hw).mpr ⟨_, _, _, _, i.1.1, by omega, by omega, i.2.1, by omega, by omega, (fullB_iff hn (by omega) (by omega)).mpr f, rfl⟩
  rw [e] at m
  cases m
/-! ### heights -/
/-- behind m rows from t on: how many cells of the column c stand at the end without a gap -/
def hi (cs : List C2) (t : Int) : Nat → Int → Int
  | 0, _ => 0
  | m + 1, c => if (t + (m : Int), c) ∈ cs then hi cs t m c + 1 else 0
theorem hi_nn (cs : List C2) (t : Int) : ∀ (m : Nat) (c : Int), 0 ≤ hi cs t m c
  | 0, _ => by unfold hi; omega
  | m + 1, c => by
    have := hi_nn cs t m c
    unfold hi
    split <;> omega
theorem hi_full (cs : List C2) (t : Int) : ∀ (m : Nat) (c x : Int), t + m - hi cs t m c ≤ x → x < t + m → (x, c) ∈ cs
  | 0, c, x, h1, h2 => by
    unfold hi at h1
    omega
  | m + 1, c, x, h1, h2 => by
    unfold hi at h1
    by_cases h : (t + (m : Int), c) ∈ cs
    · rw [if_pos h] at h1
      by_cases hx : x = t + m
      · rw [hx]; exact h
      · exact hi_full cs t m c x (by omega) (by omega)
    · rw [if_neg h] at h1
      omega
theorem hi_most (cs : List C2) (t : Int) : ∀ (m : Nat) (c z : Int), t ≤ z → z ≤ t + m → (∀ x, z ≤ x → x < t + m → (x, c) ∈ cs) → t + m - z ≤ hi cs t m c
  | 0, c, z, h1, h2, _ => by
    unfold hi
    omega
  | m + 1, c, z, h1, h2, h => by
    by_cases hz : z = t + ((m + 1 : Nat) : Int)
    · have := hi_nn cs t (m + 1) c
      omega
    · have h3 := hi_most cs t m c z h1 (by omega) (fun x a b => h x a (by omega))
      have h4 : (t + (m : Int), c) ∈ cs := h _ (by omega) (by omega)
      unfold hi
      rw [if_pos h4]
      omega
/-- the least of the heights from column c on, k columns looked at (and c) -/
def lo (cs : List C2) (t : Int) (m : Nat) (c : Int) : Nat → Int
  | 0 => hi cs t m c
  | k + 1 => if hi cs t m (c + (k : Int)) < lo cs t m c k then hi cs t m (c + (k : Int)) else lo cs t m c k
theorem lo_le (cs : List C2) (t : Int) (m : Nat) (c : Int) : ∀ (k j : Nat), j < k → lo cs t m c k ≤ hi cs t m (c + (j : Int))
  | 0, _, h => by omega
  | k + 1, j, h => by
    unfold lo
    by_cases hj : j = k
    · subst hj
      split <;> omega
    · have := lo_le cs t m c k j (by omega)
      split <;> omega
theorem le_lo (cs : List C2) (t : Int) (m : Nat) (c v : Int) (h0 : v ≤ hi cs t m c) : ∀ k : Nat, (∀ j : Nat, j < k → v ≤ hi cs t m (c + (j : Int))) → v ≤ lo cs t m c k
  | 0, _ => by
    unfold lo
    exact h0
  | k + 1, h => by
    have h1 := le_lo cs t m c v h0 k fun j hj => h j (by omega)
    have h2 := h k (by omega)
    unfold lo
    split <;> omega
/-- what greatest_box tells at row t + n, column l + j, end l + j + k -/
def low (cs : List C2) (t l : Int) (n j k : Nat) : Int := lo cs t (n + 1) (l + (j : Int)) (k + 1)
def told (cs : List C2) (t l : Int) (n j k : Nat) : K5 :=
  (-low cs t l n j k * ((l + (j : Int) + (k : Int)) + 1 - (l + (j : Int))), (t + (n : Int)) + 1 - low cs t l n j k, l + (j : Int), (t + (n : Int)) + 1, (l + (j : Int) + (k : Int)) + 1)
theorem told_mem {cs : List C2} {t l : Int} {n j k : Nat} (h : 0 < low cs t l n j k) : Mem cs (told cs t l n j k) := by
  refine ⟨(t + (n : Int)) + 1 - low cs t l n j k, l + (j : Int), (t + (n : Int)) + 1, (l + (j : Int) + (k : Int)) + 1, by omega, by omega, fun x y h1 h2 h3 h4 => ?_, ?_⟩
  · have e : l + (j : Int) + ((y - (l + (j : Int))).toNat : Int) = y := by omega
    have q := lo_le cs t (n + 1) (l + (j : Int)) (k + 1) (y - (l + (j : Int))).toNat (by omega)
    rw [e] at q
    unfold low at h1
    exact hi_full cs t (n + 1) y x (by omega) (by omega)
  · unfold told
    have e : (t + (n : Int)) + 1 - ((t + (n : Int)) + 1 - low cs t l n j k) = low cs t l n j k := by omega
    rw [e, Int.neg_mul, Int.zero_sub]
theorem told_least {cs : List C2} {t l : Int} {b r t' l' b' r' : Int} (B : IsBox cs t l b r) (hf : Full cs t' l' b' r') (h1 : t' < b') (h2 : l' < r') :
    ∃ n j k : Nat, (n : Int) < b - t ∧ (j : Int) + k < r - l ∧ 0 < low cs t l n j k ∧ ¬ lt5 ((0 - (b' - t') * (r' - l'), t', l', b', r') : K5) (told cs t l n j k) := by
  have z := Full.within B hf h1 h2
  refine ⟨(b' - 1 - t).toNat, (l' - l).toNat, (r' - 1 - l').toNat, by omega, by omega, ?_⟩
  have ej : l + ((l' - l).toNat : Int) = l' := by omega
  have en : t + ((b' - 1 - t).toNat : Int) = b' - 1 := by omega
  have ek : ((r' - 1 - l').toNat : Int) = r' - 1 - l' := by omega
  have hge : b' - t' ≤ low cs t l (b' - 1 - t).toNat (l' - l).toNat (r' - 1 - l').toNat := by
    unfold low
    rw [ej]
    have hcol : ∀ c : Int, l' ≤ c → c < r' → b' - t' ≤ hi cs t ((b' - 1 - t).toNat + 1) c := fun c c1 c2 => by
      have q := hi_most cs t ((b' - 1 - t).toNat + 1) c t' z.1 (by omega) (fun x a1 a2 => hf x c a1 (by omega) c1 c2)
      omega
    exact le_lo cs t _ l' _ (hcol l' (by omega) (by omega)) _ fun j hj => hcol _ (by omega) (by omega)
  refine ⟨by omega, ?_⟩
  generalize hlow : low cs t l (b' - 1 - t).toNat (l' - l).toNat (r' - 1 - l').toNat = v at hge
  unfold told
  rw [hlow, ej, en, ek]
  by_cases he : v = b' - t'
  · have e1 : ((-v * (l' + (r' - 1 - l') + 1 - l'), b' - 1 + 1 - v, l', b' - 1 + 1, l' + (r' - 1 - l') + 1) : K5) = (0 - (b' - t') * (r' - l'), t', l', b', r') := by
      have a1 : l' + (r' - 1 - l') + 1 - l' = r' - l' := by omega
      have a2 : b' - 1 + 1 - v = t' := by omega
      have a3 : b' - 1 + 1 = b' := by omega
      have a4 : l' + (r' - 1 - l') + 1 = r' := by omega
      rw [a1, a2, a3, a4, he, Int.neg_mul, Int.zero_sub]
    rw [e1]
    exact lt5_irrefl _
  · have hlt : b' - t' < v := by omega
    have hm : (b' - t') * (r' - l') < v * (r' - l') := Int.mul_lt_mul_of_pos_right hlt (by omega)
    have a1 : l' + (r' - 1 - l') + 1 - l' = r' - l' := by omega
    unfold lt5
    simp only
    rw [a1, Int.neg_mul]
    omega
/-! ### what best is -/
structure Over (cs : List C2) (t l : Int) (P : Nat → Nat → Nat → Prop) (o : Option K5) : Prop where
  mem : ∀ m, o = some m → Mem cs m
  le : ∀ n j k, P n j k → 0 < low cs t l n j k → ∃ m, o = some m ∧ ¬ lt5 (told cs t l n j k) m
theorem Over.anti {cs : List C2} {t l : Int} {P P' : Nat → Nat → Nat → Prop} {o : Option K5} (h : Over cs t l P o) (s : ∀ n j k, P' n j k → P n j k) : Over cs t l P' o := ⟨h.mem, fun n j k p q => h.le n j k (s n j k p) q⟩
def best2 (o : Option K5) (x : K5) : K5 := match o with
  | none => x
  | some b => mn b x
theorem Over.skip {cs : List C2} {t l : Int} {P : Nat → Nat → Nat → Prop} {o : Option K5} {n j k : Nat} (h : Over cs t l P o) (hl : ¬ 0 < low cs t l n j k) : Over cs t l (fun n' j' k' => P n' j' k' ∨ (n' = n ∧ j' = j ∧ k' = k)) o :=
  ⟨h.mem, fun n' j' k' p q => by
    rcases p with p | ⟨rfl, rfl, rfl⟩
    · exact h.le _ _ _ p q
    · exact absurd q hl⟩
theorem Over.more {cs : List C2} {t l : Int} {P : Nat → Nat → Nat → Prop} {o : Option K5} {n j k : Nat} (h : Over cs t l P o) (hl : 0 < low cs t l n j k) : Over cs t l (fun n' j' k' => P n' j' k' ∨ (n' = n ∧ j' = j ∧ k' = k)) (some (best2 o (told cs t l n j k))) := by
  cases o with
  | none =>
    refine ⟨fun m e => ?_, fun n' j' k' p q => ?_⟩
    · rw [← Option.some.inj e]
      exact told_mem hl
    · rcases p with p | ⟨rfl, rfl, rfl⟩
      · obtain ⟨m, e, _⟩ := h.le _ _ _ p q
        cases e
      · exact ⟨_, rfl, lt5_irrefl _⟩
  | some b =>
    obtain ⟨m1, m2, m3⟩ := mn_least (a := b) (y := told cs t l n j k)
    refine ⟨fun m e => ?_, fun n' j' k' p q => ?_⟩
    · have e2 : m = mn b (told cs t l n j k) := (Option.some.inj e).symm
      rw [e2]
      rcases m1 with z | z
      · rw [z]; exact h.mem b rfl
      · rw [z]; exact told_mem hl
    · refine ⟨_, rfl, ?_⟩
      rcases p with p | ⟨rfl, rfl, rfl⟩
      · obtain ⟨m, e, z⟩ := h.le _ _ _ p q
        cases e
        exact ge5_trans z m2
      · exact m3
theorem Over.least {cs : List C2} {t l b r : Int} (B : IsBox cs t l b r) {P : Nat → Nat → Nat → Prop} {o : Option K5} (h : Over cs t l P o) (hP : ∀ n j k : Nat, (n : Int) < b - t → (j : Int) + k < r - l → P n j k) : ∃ m, o = some m ∧ Least cs m := by
  have key : ∀ x, Mem cs x → ∃ m, o = some m ∧ ¬ lt5 x m := fun x hx => by
    obtain ⟨t', l', b', r', h1, h2, hf, e⟩ := hx
    obtain ⟨n, j, k, q1, q2, q3, q4⟩ := told_least B hf h1 h2
    obtain ⟨m, em, z⟩ := h.le n j k (hP n j k q1 q2) q3
    exact ⟨m, em, by rw [e]; exact ge5_trans q4 z⟩
  obtain ⟨p, hp, _⟩ := B.tt
  obtain ⟨m, em, _⟩ := key (0 - (p.1 + 1 - p.1) * (p.2 + 1 - p.2), p.1, p.2, p.1 + 1, p.2 + 1) ⟨p.1, p.2, p.1 + 1, p.2 + 1, by omega, by omega, fun x y a1 a2 a3 a4 => by
    have ex : x = p.1 := by omega
    have ey : y = p.2 := by omega
    rw [ex, ey]
    exact hp, rfl⟩
  refine ⟨m, em, h.mem m em, fun x hx => ?_⟩
  obtain ⟨m', em', z⟩ := key x hx
  rw [em] at em'
  cases em'
  exact z
/-- the turns that are done -/
def PP (w n j k : Nat) : Nat → Nat → Nat → Prop := fun n' j' k' => j' + k' < w ∧ (n' < n ∨ (n' = n ∧ (j' < j ∨ (j' = j ∧ k' < k))))
end Gk

/-! rules that the layer lacks -/
namespace PySem
/-- min of two things, compared where a heap H stands -/
theorem gk_min_two {prog : Program} {w : World} {A : Around} {E : Value → Shared → Prop} {s : Shared} {a b : Value} {Q : Value → Shared → Prop}
    (h : wpAny (model prog w) A.in1 (pyIter (.ref s.heap.objs.size)) (fun it s₂ => ∃ I fp wr G n P St H bt, it = .ref I ∧ WalksS prog w A.in1 I fp wr G n P St ∧ St 0 s₂ ∧ (∀ b ∈ fp, b < s₂.heap.objs.size) ∧ 0 < n ∧
      (∀ b o, H.get? b = some o → b ∉ wr) ∧ (∀ b o, H.get? b = some o → s₂.heap.get? b = some o) ∧ CmpIn prog w A.in1 .Lt H P bt ∧ ∀ v s', P (argBest bt (n - 1)) v → Moved wr G s₂ s' → Q v s') E
      { s with heap := s.heap.push { cls := .type "tuple", data := .seq #[a, b] } }) :
    wpAny (model prog w) A (call (.builtin "min") [a, b]) Q E s := by
  have loopName : (toString "min" ++ toString ".loop" : String) = "min.loop" := by decide
  refine call_function_tree F.kind_min F.plain_min F.entry_min (F.args_min2 _ _) ?_
  show wpAny _ A.in1 (Builtin.Builtins.bindParams "min" ["key", "default"] 0 ⟨[], []⟩ >>= _) _ _ s
  refine wpAny_bind (wpAny_of_eq (show Builtin.Builtins.bindParams "min" ["key", "default"] 0 ⟨[], []⟩ = pure [none, none] from rfl) ?_)
  show wpAny _ A.in1 (newTuple [a, b] >>= _) _ _ s
  refine wpAny_bind (wpAny_newObj_type (wpAny_bind (wpAny_mono h (fun it s₂ hw => ?_) fun _ _ z => z)))
  obtain ⟨I, fp, wr, G, n, P, St, H, bt, rfl, W, st, below, pos, apart, keep, cmp, fin⟩ := hw
  refine wpAny_bind (wpAny_newObj_type ?_)
  rw [loopName]
  exact wpAny_pure ⟨plainId_quiet F.plain_min_loop _, codeAny_min_loop_firstH W H apart bt cmp s₂.heap.objs.size (fun z => Nat.lt_irrefl _ (below _ z)) (fresh_in keep) _ pos (fun b o e => Heap.get?_push_of_some _ (keep b o e))
    (W.frame 0 s₂ _ s₂.toks st (Nat.le_refl _) fun b _ o e => Heap.get?_push_of_some _ e) (Heap.get?_push_size _ rfl) fun v s' hP hm => fin v s' hP (Moved.drop_new (tk := s₂.toks) hm (Nat.le_refl _))⟩
end PySem
namespace PySem.W
open PySem PySem.SeqAt PyProof.Rows
/-- min(a, b) of two alike data: the one itself -/
theorem gk_min_two_data {prog : Program} {w : World} {A : Around} {E : Value → Shared → Prop} {s : Shared} {a b : Value} {x y : PyData} {as bs : List Addr} {Q : Value → Shared → Prop} (hh : A.handled = none)
    (ra : Reads s.heap a x as) (rb : Reads s.heap b y bs) (ha : AlikeAll [x, y]) (hu : A.units + 1 + PyData.depthAll [x, y] < cLine)
    (h : ∀ h' tk, (∀ b o, s.heap.get? b = some o → h'.get? b = some o) → Q (if dataLt y x = true then b else a) { s with heap := h', toks := tk }) :
    wpAny (model prog w) A (call (.builtin "min") [a, b]) Q E s := by
  have kp : ∀ c o, s.heap.get? c = some o → (s.heap.push { cls := .type "tuple", data := .seq #[a, b] }).get? c = some o := fun c o e => Heap.get?_push_of_some _ e
  have hT : (s.heap.push { cls := .type "tuple", data := .seq #[a, b] }).IsTuple s.heap.objs.size #[a, b] := ⟨_, Heap.get?_push_size _ rfl, rfl, 0, rfl⟩
  have hr : ReadsAll (s.heap.push { cls := .type "tuple", data := .seq #[a, b] }) (#[a, b] : Array Value).toList [x, y] (as ++ (bs ++ [])) := .cons (reads_keeps kp ra) (.cons (reads_keeps kp rb) .nil)
  refine gk_min_two (iter_tupleW (A := A.in1) (s := { s with heap := s.heap.push { cls := .type "tuple", data := .seq #[a, b] } }) hh hT fun s₂ e W st hfp hw hk => ?_)
  refine ⟨_, _, _, _, _, _, _, s.heap.push { cls := .type "tuple", data := .seq #[a, b] }, _, rfl, W, st, hfp, Nat.zero_lt_succ _, hw, hk, cmpIn_lt (A := A.in1) (s := { s with heap := s.heap.push { cls := .type "tuple", data := .seq #[a, b] } }) hr ha (by show A.units + 1 + _ < _; exact hu), fun v s' hP m => ?_⟩
  obtain ⟨h', tk, rfl, hk'⟩ := moved_old e rfl m
  have hv : v = if dataLt y x = true then b else a := by
    have hP' : (#[a, b] : Array Value)[argBest (fun i j => dataLt (([x, y] : List PyData).getD i .none) (([x, y] : List PyData).getD j .none)) 1]? = some v := hP
    have e1 : argBest (fun i j => dataLt (([x, y] : List PyData).getD i .none) (([x, y] : List PyData).getD j .none)) 1 = if dataLt y x = true then 1 else 0 := by simp [argBest]
    rw [e1] at hP'
    by_cases hd : dataLt y x = true
    · rw [if_pos hd] at hP' ⊢
      simpa using hP'.symm
    · rw [if_neg hd] at hP' ⊢
      simpa using hP'.symm
  rw [hv]
  exact h h' tk fun c o q => hk' c o (kp c o q)
end PySem.W
namespace Gk
open PySem PySem.Spec PyProof.Rows L2
open PySem.W (minD dataLt AlikeAll alike)
/-- a key as data -/
def toP (x : K5) : PyData := .tuple [.int x.1, .tuple [.int x.2.1, .int x.2.2.1, .int x.2.2.2.1, .int x.2.2.2.2]]
def tq (x : K5) : Int × PySem.W.Tup Int := (x.1, ⟨[x.2.1, x.2.2.1, x.2.2.2.1, x.2.2.2.2]⟩)
theorem toP_tq (x : K5) : toP x = PySem.W.Datum.toD (tq x) := rfl
theorem dataLt_key (x y : K5) : dataLt (toP x) (toP y) = decide (lt5 x y) := by
  rw [toP_tq, toP_tq, PySem.W.DatumOrd.lt_eq]
  obtain ⟨a, b, c, d, e⟩ := x
  obtain ⟨a', b', c', d', e'⟩ := y
  show (if a = a' then PySem.W.listLt [b, c, d, e] [b', c', d', e'] else decide (a < a')) = decide (lt5 (a, b, c, d, e) (a', b', c', d', e'))
  have h4 : PySem.W.listLt [b, c, d, e] [b', c', d', e'] = if b = b' then (if c = c' then (if d = d' then (if e = e' then false else decide (e < e')) else decide (d < d')) else decide (c < c')) else decide (b < b') := rfl
  rw [h4, Bool.eq_iff_iff, decide_eq_true_eq]
  unfold lt5
  simp only
  split
  · split
    · split
      · split
        · split
          · simp; omega
          · simp; omega
        · simp; omega
      · simp; omega
    · simp; omega
  · simp; omega
theorem alike_key (x y : K5) : alike (toP x) (toP y) = true := by
  rw [toP_tq, toP_tq]
  exact PySem.W.DatumOrd.alike _ _
theorem alikeAll_keys (xs : List K5) : AlikeAll (xs.map toP) := by
  constructor
  · intro x hx y hy
    obtain ⟨a, _, rfl⟩ := List.mem_map.mp hx
    obtain ⟨b, _, rfl⟩ := List.mem_map.mp hy
    exact alike_key a b
  · intro x hx
    obtain ⟨a, _, rfl⟩ := List.mem_map.mp hx
    intro e
    cases e
theorem minD_keys (x : K5) (xs : List K5) : minD (toP x) (xs.map toP) = toP (xs.foldl mn x) := by
  unfold minD
  induction xs generalizing x with
  | nil => rfl
  | cons y ys ih =>
    rw [List.map_cons, List.foldl_cons, List.foldl_cons, ← ih]
    rw [dataLt_key]
    unfold mn
    by_cases h : lt5 y x
    · rw [if_pos h, decide_eq_true h]
      rfl
    · rw [if_neg h, decide_eq_false h]
      rfl
theorem depth_key (x : K5) : (toP x).depth = 2 := rfl
theorem depthAll_keys : ∀ xs : List K5, PyData.depthAll (xs.map toP) ≤ 2
  | [] => by simp [PyData.depthAll]
  | x :: xs => by
    have := depthAll_keys xs
    have h := depth_key x
    simp only [List.map_cons, PyData.depthAll]
    omega
theorem toP_inj {x y : K5} (h : toP x = toP y) : x = y := by
  obtain ⟨a, b, c, d, e⟩ := x
  obtain ⟨a', b', c', d', e'⟩ := y
  unfold toP at h
  simp only [PyData.tuple.injEq, List.cons.injEq, PyData.int.injEq, and_true] at h
  obtain ⟨rfl, rfl, rfl, rfl, rfl⟩ := h
  rfl
section
variable {X : Cx}
/-- min(xs), xs a list of keys: an item that is the least -/
def rMinKeys (K : PySem.W.Frag) : List V → Hp → VK → Prop := fun vs H Q => ∃ (a : Addr) (xs : List V) (x : K5) (r : List K5), vs = [.ref a] ∧ SqL K H a xs ∧ DpAll K H xs ((x :: r).map toP) ∧
  ∀ (i : Nat) (v : V), xs[i]? = some v → (x :: r)[i]? = some (r.foldl mn x) → Q v H
theorem cr_minKeys (hc : X.calm = true) (hu : X.A.units + 64 < cLine) : CallR X (.builtin "min") (rMinKeys X.K) := by
  intro pins s σ H vs us Q I r h
  obtain ⟨a, xs, x, ds, rfl, hs, hd, q⟩ := h
  obtain ⟨its, rv, hl, _⟩ := I.list hs
  rw [Vals.ref1 r]
  obtain ⟨as, hr⟩ := Dp.readsAll I _ _ _ hd rv
  rw [List.map_cons] at hr
  have hA : AlikeAll (toP x :: ds.map toP) := by
    have z := alikeAll_keys (x :: ds)
    rw [List.map_cons] at z
    exact z
  have hdep : PyData.depthAll (toP x :: ds.map toP) ≤ 2 := by
    have z := depthAll_keys (x :: ds)
    rw [List.map_cons] at z
    exact z
  refine PySem.W.min_list_data (I.ok.hd hc) hl.isList hr hA (by omega) fun i v h' tk bs hi hv hk => ?_
  have hi' : its[i]? = some v := by simpa using hi
  have hix : i < xs.length := by
    have := (List.getElem?_eq_some_iff.mp hi').1
    rw [rv.length]
    exact this
  obtain ⟨u2, hu2, ru⟩ := rv.get (List.getElem?_eq_getElem hix)
  rw [hi'] at hu2
  cases hu2
  refine ⟨xs[i], H, I.kept hk, ru, q i _ (List.getElem?_eq_getElem hix) ?_⟩
  -- the item's own data
  obtain ⟨bs2, r2, hlt, hmem, _⟩ := PySem.W.readsAll_atA (vs := its.toArray) (xs := toP x :: ds.map toP) (by simpa using hr) i v (by simpa using hi')
  have e := (Reads.unique hv _ _ (PySem.W.reads_keeps hk r2)).1
  rw [minD_keys] at e
  have hlt' : i < (x :: ds).length := by simpa using hlt
  have eg : (toP x :: ds.map toP).getD i .none = toP ((x :: ds)[i]) := by
    have z : toP x :: ds.map toP = (x :: ds).map toP := rfl
    rw [z, List.getD_eq_getElem?_getD, List.getElem?_map, List.getElem?_eq_getElem hlt']
    rfl
  rw [eg] at e
  rw [List.getElem?_eq_getElem hlt', ← toP_inj e]
/-- min(a, b) of two keys -/
def rMinKey2 (K : PySem.W.Frag) : List V → Hp → VK → Prop := fun vs H Q => ∃ (a b : V) (x y : K5), vs = [a, b] ∧ Dp K H a (toP x) ∧ Dp K H b (toP y) ∧ (lt5 y x → Q b H) ∧ (¬ lt5 y x → Q a H)
theorem cr_minKey2 (hc : X.calm = true) (hu : X.A.units + 64 < cLine) : CallR X (.builtin "min") (rMinKey2 X.K) := by
  intro pins s σ H vs us Q I r h
  obtain ⟨a, b, x, y, rfl, ha, hb, q1, q2⟩ := h
  obtain ⟨u, w, rfl, ru, rw'⟩ := vals2 r
  obtain ⟨as, ra⟩ := Dp.reads I _ _ _ ha ru
  obtain ⟨bs, rb⟩ := Dp.reads I _ _ _ hb rw'
  have hA : AlikeAll [toP x, toP y] := alikeAll_keys [x, y]
  have hdep : PyData.depthAll [toP x, toP y] ≤ 2 := depthAll_keys [x, y]
  refine PySem.W.gk_min_two_data (I.ok.hd hc) ra rb hA (by omega) fun h' tk hk => ?_
  rw [dataLt_key]
  by_cases hlt : lt5 y x
  · rw [if_pos (decide_eq_true hlt)]
    exact ⟨b, H, I.kept hk, rw', q1 hlt⟩
  · rw [if_neg (by simpa using hlt)]
    exact ⟨a, H, I.kept hk, ru, q2 hlt⟩
end
end Gk

/-! enumerate over a tuple -/
namespace PySem
open Sem (wp)
open AutoSeq1 (wpAny_loadPart')
theorem gk_enum_new (l : Addr) (items : Array Value) (n : Nat) (dct : Option Addr) (sl : Array (Option Value)) :
    Meets (Builtin.«enumerate.__new__» ⟨[.type "enumerate", .ref l], []⟩) (fun _ R s => s.heap.get? l = some { cls := .type "tuple", dict := dct, data := .seq items n, slots := sl } ∧
      R (.ok (.ret (.ref (s.heap.push { cls := .type "tuple_iterator", data := .fields #[.ref l, .int 0 0] }).objs.size)))
        { s with heap := (s.heap.push { cls := .type "tuple_iterator", data := .fields #[.ref l, .int 0 0] }).push { cls := .type "enumerate", data := .fields #[.none, .bool false, .ref s.heap.objs.size, rawInt 0, .none, .none] } }) :=
  .of_wp fun prog w A R s h => by
    obtain ⟨hp, g, d, tk, os⟩ := s; obtain ⟨hl, h⟩ := h
    have sub1 := sub_enumerate
    have tup : Heap.IsTuple (Shared.heap ⟨hp, g, d, tk, os⟩) l items := ⟨_, hl, rfl, n, rfl⟩
    wp_walk using wpAny_loadPart' hl
    refine wpAny_stack_any fun st => wpAny_pure ?_
    split
    · rename_i c _ _ _ _ _
      cases (c == Value.type "enumerate") <;> (wp_walk using wpAny_loadPart' hl, wpAny_pyIter_tuple tup; exact ⟨_, rfl, h⟩)
    · wp_walk using wpAny_loadPart' hl, wpAny_pyIter_tuple tup
      exact ⟨_, rfl, h⟩
theorem gk_call_enum {prog : Program} {w : World} {A : Around} {E : Value → Shared → Prop} {s : Shared} {l : Addr} {items : Array Value} {Q : Value → Shared → Prop} (ht : s.heap.IsTuple l items)
    (h : ∀ h', IsEnum h' (s.heap.objs.size + 1) s.heap.objs.size 0 .none → h'.IsTupleIter s.heap.objs.size l 0 →
      (∀ b o, s.heap.get? b = some o → h'.get? b = some o) → Q (.ref (s.heap.objs.size + 1)) { s with heap := h' }) :
    wpAny (model prog w) A (call (.type "enumerate") [.ref l]) Q E s := by
  obtain ⟨⟨cls, dd, data, sl⟩, ho, hc, n, hd⟩ := id ht
  simp only at hc hd
  subst hc hd
  refine callType_new F.called_enumerate (by decide) (F.typeCall_enumerate_1 _) (F.newCall_enumerate_1 _) (fun obj => F.args_object_init_2 obj _) F.entry_enumerate_new (gk_enum_new l items n dd sl) ⟨ho, ?_⟩
  have hz : (s.heap.push { cls := .type "tuple_iterator", data := .fields #[.ref l, .int 0 0] }).objs.size = s.heap.objs.size + 1 := Heap.size_push ..
  show _ ∧ _
  rw [hz]
  have he : IsEnum ((s.heap.push { cls := .type "tuple_iterator", data := .fields #[.ref l, .int 0 0] }).push { cls := .type "enumerate", data := .fields #[.none, .bool false, .ref s.heap.objs.size, rawInt 0, .none, .none] }) (s.heap.objs.size + 1) s.heap.objs.size 0 .none := by
    have z := Heap.get?_push_size (s.heap.push { cls := .type "tuple_iterator", data := .fields #[.ref l, .int 0 0] }) (o := { cls := .type "enumerate", data := .fields #[.none, .bool false, .ref s.heap.objs.size, rawInt 0, .none, .none] }) rfl
    rw [hz] at z
    exact z
  exact ⟨⟨_, he, rfl⟩, h _ he ⟨_, Heap.get?_push_of_some _ (Heap.get?_push_size _ rfl), rfl, rfl⟩ fun b o x => Heap.get?_push_of_some _ (Heap.get?_push_of_some _ x)⟩
end PySem
namespace Gk
open PySem PySem.Spec PyProof.Rows L2
/-- the tuple at a, each item in a new pair -/
def IteT (K : PySem.W.Frag) (a : Addr) : It :=
  ⟨fun i H => ∃ (xs : List V) (x : V), SqT K H a xs ∧ xs[i]? = some x, fun i H v H' => ∃ T x, v = .ref T ∧ H T = none ∧ H' = upd H T (.tup [.int (i : Nat), x]) ∧ ∀ xs, SqT K H a xs → xs[i]? = some x, fun i H => ∃ xs : List V, SqT K H a xs ∧ xs.length = i⟩
theorem turn_enumT {P : Program} {w : World} {K : PySem.W.Frag} {elts : List Expr} {kk : Nat} {tpos : Pos} (a e it : Addr) :
    Turn P w K (.Tuple elts kk tpos) (IteT K a) [e, it] e (fun i h => (∃ old, IsEnum h e it ((i : Nat) : Int) old) ∧ h.IsTupleIter it a i ∧ e ≠ it) where
  mem := List.mem_cons_self
  obj := fun i h st b hb => by
    obtain ⟨⟨old, he⟩, ⟨o, ho, hc, hd⟩, _⟩ := st
    rcases List.mem_cons.mp hb with z | z
    · rw [z]; exact ⟨_, he, fun v q => nomatch q⟩
    · rw [List.mem_singleton.mp z]; exact ⟨o, ho, fun v q => by rw [hd] at q; cases q⟩
  keep := fun i h h' ⟨⟨old, he⟩, hi, hne⟩ k => ⟨⟨old, k e (by simp) _ he⟩, hi.at fun o q => k it (by simp) o q, hne⟩
  item := by
    intro X hP hw hK hc i pins s σ H E I hf st hg
    subst hP hw hK
    obtain ⟨⟨old, he⟩, hit, hne⟩ := st
    obtain ⟨xs, x, hq, hx⟩ := hg
    obtain ⟨its, rv, p, hz⟩ := I.tuple hq
    obtain ⟨u, hu, ru⟩ := rv.get hx
    have below : e < s.heap.objs.size := Heap.lt_size he
    have below2 : it < s.heap.objs.size := by obtain ⟨_, q, _⟩ := hit; exact Heap.lt_size q
    have tupA : s.heap.IsTuple a its.toArray := p
    obtain ⟨oa, hoa, hca, _⟩ := id tupA
    obtain ⟨oi, hoi, hci, _⟩ := id hit
    have nai : a ≠ it := fun z => by
      rw [z, hoi] at hoa
      cases hoa
      rw [hci] at hca
      injection hca with z2
      exact absurd z2 (by decide)
    have nae : e ≠ a := fun z => by
      rw [← z] at hoa
      have q : some _ = some oa := he.symm.trans hoa
      cases q
      injection hca with z2
      exact absurd z2 (by decide)
    have hlt : i < its.toArray.size := by
      have := (List.getElem?_eq_some_iff.mp hu).1
      simpa using this
    refine wpAny_pyNext_enum_itemC (D := Draws.tuple (A := X.A.in1) (I.ok.hd hc) it a nai its.toArray) he ⟨hit, tupA⟩ hlt hne (by simp [hne, nae]) fun u2 h' tk hP ho hst hT hsz hk => ?_
    have eu : u2 = u := by
      have z : its.toArray[i]? = some u2 := hP
      have z2 : its[i]? = some u2 := by simpa using z
      rw [hu] at z2
      exact (Option.some.inj z2).symm
    subst eu
    refine ⟨_, rfl, wpAny_letOwnedTupleGo_enum (s := { s with heap := h', toks := tk + 1 }) ho fun h'' he' sb => ?_⟩
    have hT2 : h''.get? s.heap.objs.size = some { cls := .type "tuple", data := .seq #[.int i tk, u2] } := (sb.2 _ (Nat.ne_of_gt below)).trans hT
    have new : ObjOk X.prog X.w (upd H s.heap.objs.size (.tup [.int (i : Nat), x])) h'' s.heap.objs.size (.tup [.int (i : Nat), x]) :=
      ⟨by show 2 ≤ sizeLine; decide, [.int i tk, u2], .cons ⟨_, rfl⟩ (.cons ru .nil), ⟨_, hT2, rfl, _, rfl⟩⟩
    have I1 : Inv X pins σ (upd H s.heap.objs.size (.tup [.int (i : Nat), x])) { s with heap := h'', toks := tk + 1 } :=
      I.turnedNew (ch := [e, it]) (fun b ob hb q => (sb.2 b (fun z => hb (by simp [z]))).trans (hk b ob (fun z => hb (by simp [z])) (fun z => hb (by simp [z])) q)) hf (Nat.le_refl _) new
    refine ⟨.ref s.heap.objs.size, _, I1, rfl, ⟨_, x, rfl, I.hok.fresh (Nat.le_refl _), rfl, fun ys hy => by rw [I.tuple_inj hy hq]; exact hx⟩, ⟨⟨u2, ?_⟩, hst.1.at fun o q => (sb.2 it (Ne.symm hne)).trans q, hne⟩, fun b hb => ?_⟩
    · have e1 : ((i + 1 : Nat) : Int) = (i : Int) + 1 := by omega
      rw [e1]
      exact he'
    · have lt : b < s.heap.objs.size := by
        rcases List.mem_cons.mp hb with z | z
        · rw [z]; exact below
        · rw [List.mem_singleton.mp z]; exact below2
      rw [upd_ne (Nat.ne_of_lt lt)]
      exact (hf b hb).1
  done := by
    intro X hP hw hK hc i pins s σ H E I hf st hg
    subst hP hw hK
    obtain ⟨⟨old, he⟩, hit, hne⟩ := st
    obtain ⟨xs, hq, hx⟩ := hg
    obtain ⟨its, rv, p, hz⟩ := I.tuple hq
    have tupA : s.heap.IsTuple a its.toArray := p
    obtain ⟨oa, hoa, hca, _⟩ := id tupA
    obtain ⟨oi, hoi, hci, _⟩ := id hit
    have nai : a ≠ it := fun z => by
      rw [z, hoi] at hoa
      cases hoa
      rw [hci] at hca
      injection hca with z2
      exact absurd z2 (by decide)
    have en : its.toArray.size = i := by
      have := rv.length
      simp only [List.size_toArray]
      omega
    obtain ⟨f0, f1, f2, f3, f4, f5⟩ := hf it (by simp)
    have st' : s.heap.IsTupleIter it a its.toArray.size := by rw [en]; exact hit
    exact wpAny_pyNext_enum_endD (D := Draws.tuple (A := X.A.in1) (I.ok.hd hc) it a nai its.toArray) he ⟨st', tupA⟩ fun h' eb => ⟨rfl, I.turned (t' := s.toks) (fun b o hb q => eb b o hb q) f0 f1 f3 f4 f5⟩
  self := fun A i s Q E ⟨⟨_, he⟩, _⟩ h => wpAny_pyIter_enum he h
def iEnumT (K : PySem.W.Frag) (ta : TA) : TI := fun σ H R => ta σ H fun vs H1 => ∃ a xs, vs = [.ref a] ∧ SqT K H1 a xs ∧ R (IteT K a) H1
theorem pi_enumT {X : Cx} {e : Expr} {ta : TA} {p pos tpos : Pos} {elts : List Expr} {kk : Nat} (hg : Gl X "enumerate") (hm : X.mg "enumerate" = none) (ha : PA X [e] ta) (hs : starEach [e] X.env = [(false, eval e X.env)] := by rfl) :
    PI X (.Tuple elts kk tpos) (.Call (.Name "enumerate" p) [e] [] pos) (iEnumT X.K ta) := by
  refine ⟨fun pins s σ H R I h => ?_⟩
  refine Call_ (ld_blt I hg hm boot_enumerate (PyProof.Rows.callWith_type1 (thn (ha.run pos pins s σ H _ I h) fun us s1 ⟨vs, H1, I1, r1, q1⟩ => ?_) hs rfl))
  obtain ⟨a, xs, ex, hq, q⟩ := q1
  subst ex
  rw [Vals.ref1 r1]
  obtain ⟨its, rv, tup, hz⟩ := I1.tuple hq
  refine gk_call_enum tup fun h' he hit hk => wpAny_pyIter_enum he ?_
  have I2 : Inv X pins σ H1 { s1 with heap := h' } := I1.kept (t' := s1.toks) hk
  refine ⟨s1.heap.objs.size + 1, [s1.heap.objs.size + 1, s1.heap.objs.size], _, _, H1, rfl, I2, turn_enumT a (s1.heap.objs.size + 1) s1.heap.objs.size, ⟨⟨.none, he⟩, hit, Nat.succ_ne_self _⟩, fun b hb => ?_, q⟩
  have hle : s1.heap.objs.size ≤ b := by
    rcases List.mem_cons.mp hb with z | z
    · rw [z]; exact Nat.le_succ _
    · rw [List.mem_singleton.mp z]; exact Nat.le_refl _
  exact I1.fpOk hle (I1.hok.fresh hle)
/-- the loop over it -/
theorem for_enumT {K : PySem.W.Frag} {a : Addr} {xs : List V} {g : TG} {tb : TS} {D : Ends} {σ : L2.St} {H : Hp} (Pv : Nat → L2.St → Hp → Prop) (h0 : Pv 0 σ H) (hl : ∀ i σ H, i ≤ xs.length → Pv i σ H → SqT K H a xs)
    (hs : ∀ i x σ H T, xs[i]? = some x → Pv i σ H → H T = none → g (.ref T) σ (upd H T (.tup [.int (i : Nat), x])) fun σ2 H2 => tb { D with nx := Pv (i + 1), ct := Pv (i + 1), bk := D.nx } σ2 H2) (hd : ∀ σ H, Pv xs.length σ H → D.nx σ H) :
    ∃ W : Nat → Nat → L2.St → Hp → Prop, (∃ m, W 0 m σ H) ∧ ∀ i m σ H, W i m σ H →
      ((IteT K a).stop i H ∧ D.nx σ H) ∨ ((IteT K a).go i H ∧ ∃ N : L2.St → Hp → Prop, (∀ σ' H', N σ' H' → ∃ m', m' < m ∧ W (i + 1) m' σ' H') ∧ ∀ x H', (IteT K a).yld i H x H' → g x σ H' fun σ2 H2 => tb { D with nx := N, ct := N, bk := D.nx } σ2 H2) := by
  refine ⟨fun i m σ H => m = xs.length - i ∧ i ≤ xs.length ∧ Pv i σ H, ⟨xs.length, by omega, by omega, h0⟩, ?_⟩
  rintro i m σ H ⟨rfl, hi, p⟩
  have q := hl i σ H hi p
  rcases Nat.lt_or_ge i xs.length with hlt | hge
  · refine .inr ⟨⟨xs, xs[i], q, List.getElem?_eq_getElem hlt⟩, Pv (i + 1), fun σ' H' p' => ⟨xs.length - (i + 1), by omega, rfl, hlt, p'⟩, fun v H' y => ?_⟩
    obtain ⟨T, x, rfl, hT, rfl, y⟩ := y
    exact hs i x σ H T (y xs q) p hT
  · obtain rfl : i = xs.length := by omega
    exact .inl ⟨⟨xs, q, rfl⟩, hd σ H p⟩
end Gk

/-! {k: v for ..} whose keys are tuples; raise X() of an own class -/
namespace Gk
open PySem PySem.Spec PyProof.Rows L2
theorem gk_setT {X : Cx} {pins : List (Addr × Obj)} {σ : L2.St} {H : Hp} {s : Shared} {E : Value → Shared → Prop} {d b : Addr} {kvs : List (List Key × V)} {k : List Key} {v : V} {u r : Value} {Q : Unit → Shared → Prop} (hu : X.A.units + 1 < cLine) (I : Inv X pins σ H s)
    (hd : H d = some (.dT kvs)) (hb : H b = some (.tup (k.map kV))) (hz : kvs.length < sizeLine) (ru : RelV (.ref b) u) (rv : RelV v r) (h : ∀ s', Inv X pins σ (upd H d (.dT (putK kvs k v))) s' → Q () s') :
    wpAny (model X.prog X.w) X.A (dictSet d u r) Q E s := by
  cases (show u = Value.ref b from ru)
  obtain ⟨z, nsys, xs, rel, dd⟩ := dt_of I.hok hd
  have small : xs.length ≤ sizeLine := (Paired.length rel) ▸ z
  refine wpAny_dictSet_heap (hsz := small) (show (tupleKind (mixKind X.prog X.w)).room X.A from Nat.lt_of_succ_lt hu) (key_of I.hok hb) dd fun h' dd' same => h _ ?_
  obtain ⟨q, es, ep, e1, e2, e3, e4, _, e5⟩ := dd'
  have grown : (putK kvs k v).length ≤ sizeLine := Nat.le_trans (length_putK kvs k v) hz
  exact d_write I (by rw [hd]; exact True.intro) same ⟨q, e1⟩ ⟨grown, nsys, _, (rel.put k hb rv).keeps fun c ys ec => (upd_ne (ne_of ec hd (fun z => nomatch z))).trans ec, q, es, ep, e1, e2, e3, e4, e5⟩
section
variable {X : Cx}
/-- {k: v for target in iter}, the keys tuples: D the new dict -/
def tDcT (wi : TI) (g : TG) (tk tv : TE) (own : List Nat) : TE := fun σ H Q => wi σ H fun J H1 => ∀ D, H1 D = none → ∃ W : Nat → Nat → Hp → Prop, (∃ m, W 0 m (upd H1 D (.dT []))) ∧ ∀ i m H, W i m H →
  (J.stop i H ∧ Q (.ref D) H) ∨ (J.go i H ∧ ∃ N : Hp → Prop, (∀ H', N H' → ∃ m', m' < m ∧ W (i + 1) m' H') ∧ ∀ x H', J.yld i H x H' → g x (wipe σ own) H' fun σ2 H2 => wipe σ2 own = wipe σ own ∧
    tk σ2 H2 fun y H3 => tv σ2 H3 fun z H4 => ∃ b kvs k, y = .ref b ∧ H4 b = some (.tup (k.map kV)) ∧ H4 D = some (.dT kvs) ∧ kvs.length < sizeLine ∧ N (upd H4 D (.dT (putK kvs k z))))
theorem dcT_core {pins : List (Addr × Obj)} {s : Shared} {σ : L2.St} {H : Hp} {Q : VK} {kx vx tg iter : Expr} {scope : Scope} {own : List (Str × Nat)} {pos pos' : Pos} {wi : TI} {g : TG} {tk tv : TE} {use : Option (Value → Sem Unit)} {Qf : Value → Shared → Prop}
    (hu : X.A.units + 1 < cLine) (hc : X.calm = true) (hN : X.N.Nodup) (I : L2.Inv X pins σ H s) (hi : PI X tg iter wi) (ok : BlkOk X.N X.env.scope scope own)
    (hg : ∀ (s : Shared) (H : Hp) (C : Addr) (cl : List (Str × Addr)) (fp : List Addr), PG (X.blk s H scope (compEnvC scope cl C X.env) fp) tg g)
    (hk : ∀ (s : Shared) (H : Hp) (C : Addr) (cl : List (Str × Addr)) (fp : List Addr), PE (X.blk s H scope (compEnvC scope cl C X.env) fp) kx tk)
    (hv : ∀ (s : Shared) (H : Hp) (C : Addr) (cl : List (Str × Addr)) (fp : List Addr), PE (X.blk s H scope (compEnvC scope cl C X.env) fp) vx tv) (hs : ∀ x, foldedSetIterable iter X.env x = pure x)
    (h : tDcT wi g tk tv (own.map (·.2)) σ H Q)
    (done : ∀ D C s' m H', L2.Inv X pins σ H' s' → Q (.ref D) H' → s'.heap.Ns C m → FpOk X pins H' C → compPost (model X.prog X.w) X.A X.xe use Qf (.ref D) C (.ok .next) s') :
    wpAny (model X.prog X.w) X.A (comprehension (.DictComp kx vx [⟨tg, iter, [], 0⟩] scope pos) scope X.env pos' newDict false (eval iter X.env) use) Qf X.xe s := by
  have caught : ∀ y ∈ scope.names, y.2 = .free → ∃ c, X.env.cells.lookup y.1 = some c := fun y hy e => (ok.free y hy e).elim (fun k => I.ok.has _ (.inl k)) fun k => I.ok.has _ (.inr k)
  refine wpAny_comprehension_free (use := use) rfl hs (closure_ok caught) ok.kind (fun y hy e => (ok.uniq y hy).trans (congrArg some e)) (thn (hi.run pins s σ H _ I h) fun xv s1 hx => thn hx fun itv s2 h2 => ?_)
  obtain ⟨it, fp, tn, J, H2, rfl, I2, T, st2, fpOk, q⟩ := h2
  -- the new dict at D
  refine wpAny_newObj_type (newEnv_comp ?_)
  obtain ⟨D, hD⟩ : ∃ D, D = s2.heap.objs.size := ⟨_, rfl⟩
  have freeD : H2 D = none := I2.hok.fresh (Nat.le_of_eq hD.symm)
  obtain ⟨W, ⟨m0, w0⟩, turn⟩ := q D freeD
  obtain ⟨s3, hs3⟩ : ∃ s3 : Shared, s3 = { s2 with heap := s2.heap.push { cls := .type "dict", data := .dict #[] } } := ⟨_, rfl⟩
  have kp3 : ∀ b o, s2.heap.get? b = some o → s3.heap.get? b = some o := fun b o e => by rw [hs3]; exact Heap.get?_push_of_some _ e
  have I3 : Inv X pins σ (upd H2 D (.dT [])) s3 := by
    rw [hs3]
    refine I2.laid (t' := s2.toks) (fun b o e => Heap.get?_push_of_some _ e) (Nat.le_of_eq hD.symm) ?_
    rw [hD]
    exact dt_empty s2.heap I2.big
  have sz3 : s3.heap.objs.size = s2.heap.objs.size + 1 := by rw [hs3]; exact Heap.size_push ..
  have ltfp : ∀ b ∈ fp, b < s2.heap.objs.size := fun b hb => let ⟨o, e, _⟩ := T.obj _ _ st2 b hb; Heap.lt_size e
  have f3 : ∀ b ∈ fp, FpOk X pins (upd H2 D (.dT [])) b ∧ b < s3.heap.objs.size := fun b hb => by
    have lt := ltfp b hb
    have ne : b ≠ D := by rw [hD]; exact Nat.ne_of_lt lt
    exact ⟨⟨(upd_ne ne).trans (fpOk b hb).1, (fpOk b hb).2⟩, by rw [sz3]; exact Nat.lt_succ_of_lt lt⟩
  have st3 : tn 0 s3.heap := T.keep _ _ _ st2 fun b _ o e => kp3 b o e
  have I4 := block_start I3 ok hN f3
  have pg := hg s3 (upd H2 D (.dT [])) s3.heap.objs.size (cellsFrom (s3.heap.objs.size + 1) scope.names (cloFrom X.env.cells scope.names [])) fp
  have pk := hk s3 (upd H2 D (.dT [])) s3.heap.objs.size (cellsFrom (s3.heap.objs.size + 1) scope.names (cloFrom X.env.cells scope.names [])) fp
  have pv := hv s3 (upd H2 D (.dT [])) s3.heap.objs.size (cellsFrom (s3.heap.objs.size + 1) scope.names (cloFrom X.env.cells scope.names [])) fp
  have goal : codeAny (model X.prog X.w) X.A (.compStart (.DictComp kx vx [⟨tg, iter, [], 0⟩] scope pos) 0 (.ref it) (.ref D) (compEnvC scope (cellsFrom (s3.heap.objs.size + 1) scope.names (cloFrom X.env.cells scope.names [])) s3.heap.objs.size X.env))
      (compPost (model X.prog X.w) X.A X.xe use Qf (.ref D) s3.heap.objs.size) { s3 with heap := pushCells (s3.heap.push { cls := .type "dict", data := .dict #[] }) scope.names } := by
    obtain ⟨s4, hs4⟩ : ∃ s4 : Shared, s4 = { s3 with heap := pushCells (s3.heap.push { cls := .type "dict", data := .dict #[] }) scope.names } := ⟨_, rfl⟩
    have st4 : tn 0 s4.heap := T.keep _ _ _ st3 fun b _ o e => by rw [hs4]; exact pushCells_keeps _ _ _ _ (Heap.get?_push_of_some _ e)
    rw [← hs4] at I4 ⊢
    have here : (compEnvC scope (cellsFrom (s3.heap.objs.size + 1) scope.names (cloFrom X.env.cells scope.names [])) s3.heap.objs.size X.env).locals = s3.heap.objs.size := rfl
    have nfp : ∀ b ∈ fp, (upd H2 D (.dT [])) b = none := fun b hb => (f3 b hb).1.1
    revert I4 pg pk pv w0 nfp f3 I3
    generalize compEnvC scope (cellsFrom (s3.heap.objs.size + 1) scope.names (cloFrom X.env.cells scope.names [])) s3.heap.objs.size X.env = ce at here ⊢
    generalize upd H2 D (.dT []) = H3
    intro w0 I3 f3 pg pk pv I4 nfp
    have fpB : ∀ {σ' : L2.St} {H' : Hp} {s' : Shared}, Inv (X.blk s3 H3 scope ce fp) [] σ' H' s' → (∀ b ∈ fp, H' b = none) → ∀ b ∈ fp, FpOk (X.blk s3 H3 scope ce fp) [] H' b := fun I' hn b hb =>
      ⟨hn b hb, (I'.ok.exf b hb).1, I'.ok.exfs b hb, .inl hb, fun x c e => (I'.ok.exf b hb).2 x c e, fun p hp => absurd (show p ∈ ([] : List (Addr × Obj)) ++ [] from hp) (by simp)⟩
    have loop : codeAny (model X.prog X.w) X.A (.compLoop (.DictComp kx vx [⟨tg, iter, [], 0⟩] scope pos) 0 (.ref it) (.ref D) ce) (compPost (model X.prog X.w) X.A X.xe use Qf (.ref D) s3.heap.objs.size) s4 := by
      refine compLoop_anyD (fun n s' => ∃ i H', Inv (X.blk s3 H3 scope ce fp) [] (wipe σ (own.map (·.2))) H' s' ∧ tn i s'.heap ∧ (∀ b ∈ fp, H' b = none) ∧ W i n H') ?_ m0 ⟨0, H3, I4, st4, nfp, w0⟩
      rintro n s5 ⟨i, H5, I5, st5, n5, w5⟩
      rcases turn i n H5 w5 with ⟨stop, fin⟩ | ⟨go, N, down, step⟩
      · refine thnF (T.done (X.blk s3 H3 scope ce fp) rfl rfl rfl hc i [] s5 _ H5 (fun _ _ => False) I5 (fpB I5 n5) st5 stop) fun r s6 ⟨hr, I6⟩ => ?_
        subst hr
        have I7 : Inv X pins σ H5 s6 := I3.call' (ch := fp) I6.os I6.base I6.hok I6.bare fun b hb => ⟨(f3 b hb).1.2.2.2.1, (f3 b hb).1.2.1, (f3 b hb).1.2.2.2.2.1, (f3 b hb).1.2.2.2.2.2⟩
        have nC : H5 s3.heap.objs.size = none := by
          rw [← here]
          exact I6.free
        obtain ⟨m, hn, _⟩ := I6.loc
        have hn' : s6.heap.Ns s3.heap.objs.size m := by
          rw [← here]
          exact hn
        exact done D s3.heap.objs.size s6 m H5 I7 fin hn' (I3.fpOk (Nat.le_refl _) nC)
      · refine thnF (T.item (X.blk s3 H3 scope ce fp) rfl rfl rfl hc i [] s5 _ H5 (fun _ _ => False) I5 (fpB I5 n5) st5 go) fun r s6 ⟨u, hr, h6⟩ => ?_
        subst hr
        refine thnF h6 fun _ s7 ⟨x, H7, I7, r7, y7, st7, n7⟩ => ?_
        refine thnF (pg.run _ s7 _ H7 x u _ (I7.pinned (fpB I7 n7) (T.obj _ _ st7)) r7 (step x H7 y7)) fun _ s8 ⟨σ8, H8, I8, same, q8⟩ => ?_
        show wpAny _ _ (pure true) _ _ _
        refine wpAny_pure ?_
        rw [if_pos rfl]
        refine thnF (pk.run _ s8 σ8 H8 _ I8 q8) fun ku s9 ⟨y, H9, I9, ry, q9⟩ => ?_
        refine thnF (pv.run _ s9 σ8 H9 _ I9 q9) fun vu s10 ⟨z, H10, I10, rz, b, kvs, k, ey, eb, eD, small, nx⟩ => ?_
        subst ey
        refine gk_setT (X := X.blk s3 H3 scope ce fp) hu I10 eD eb small ry rz fun s11 I11 => ?_
        obtain ⟨m', lt, w'⟩ := down _ nx
        have stays : ∀ c ∈ fp, ∀ o, s7.heap.get? c = some o → s11.heap.get? c = some o ∧ upd H10 D (.dT (putK kvs k z)) c = none := fun c hc o e =>
          let w := I11.pin (c, o) (List.mem_append_right _ (List.mem_append_right _ (mem_pinsAt hc e)))
          ⟨w.1, w.2.1⟩
        refine ⟨m', lt, i + 1, _, (I11.unpinned (pins := [])).weak (by rw [← same, wipe_length]) (fun j v e => ?_), T.keep _ _ _ st7 fun c hc o e => (stays c hc o e).1, fun c hc => ?_, w'⟩
        · rw [← same] at e
          exact (wipe_some e).1
        · obtain ⟨o, e, _⟩ := T.obj _ _ st7 c hc
          exact (stays c hc o e).2
    exact codeAny_compStart_dict loop (T.self X.A 0 _ _ _ st4 loop)
  rw [hs3] at goal
  rw [← hD]
  exact goal
theorem pe_dcT {kx vx tg iter : Expr} {scope : Scope} {own : List (Str × Nat)} {pos : Pos} {wi : TI} {g : TG} {tk tv : TE} (hu : X.A.units + 1 < cLine) (hc : X.calm = true) (hN : X.N.Nodup) (hi : PI X tg iter wi) (ok : BlkOk X.N X.env.scope scope own)
    (hg : ∀ (s : Shared) (H : Hp) (C : Addr) (cl : List (Str × Addr)) (fp : List Addr), PG (X.blk s H scope (compEnvC scope cl C X.env) fp) tg g)
    (hk : ∀ (s : Shared) (H : Hp) (C : Addr) (cl : List (Str × Addr)) (fp : List Addr), PE (X.blk s H scope (compEnvC scope cl C X.env) fp) kx tk)
    (hv : ∀ (s : Shared) (H : Hp) (C : Addr) (cl : List (Str × Addr)) (fp : List Addr), PE (X.blk s H scope (compEnvC scope cl C X.env) fp) vx tv) (hs : ∀ x, foldedSetIterable iter X.env x = pure x := by intro _; rfl) :
    PE X (.DictComp kx vx [⟨tg, iter, [], 0⟩] scope pos) (tDcT wi g tk tv (own.map (·.2))) := by
  refine ⟨fun pins s σ H Q I h => ?_⟩
  rw [arm_eval_DictComp]
  refine dcT_core hu hc hN I hi ok hg hk hv hs h fun D C s' m H' I' q hn f => ⟨m, hn, fun h'' sb => ?_⟩
  obtain ⟨f0, f1, f2, f4, f5, f6⟩ := f
  exact ⟨.ref D, H', I'.turned (t' := s'.toks) (fun b o hb e => (sb.2 b hb).trans e) f0 f1 f4 f5 f6, rfl, q⟩
/-- y = {k: v for ..} on one row -/
theorem ps_setDcT {i : Nat} {y : Str} {py : Pos} {kx vx tg iter : Expr} {scope : Scope} {own : List (Str × Nat)} {pos spos : Pos} {wi : TI} {g : TG} {tk tv : TE} (hu : X.A.units + 1 < cLine) (hc : X.calm = true) (hN : X.N.Nodup) (hy : X.N[i]? = some y) (hyl : X.env.scope.names.lookup y = some .local)
    (hsw : swapsWith (.DictComp kx vx [⟨tg, iter, [], 0⟩] scope pos) (some (.Name y py)) spos.line X.env = pure true) (hi : PI X tg iter wi) (ok : BlkOk X.N X.env.scope scope own)
    (hg : ∀ (s : Shared) (H : Hp) (C : Addr) (cl : List (Str × Addr)) (fp : List Addr), PG (X.blk s H scope (compEnvC scope cl C X.env) fp) tg g)
    (hk : ∀ (s : Shared) (H : Hp) (C : Addr) (cl : List (Str × Addr)) (fp : List Addr), PE (X.blk s H scope (compEnvC scope cl C X.env) fp) kx tk)
    (hv : ∀ (s : Shared) (H : Hp) (C : Addr) (cl : List (Str × Addr)) (fp : List Addr), PE (X.blk s H scope (compEnvC scope cl C X.env) fp) vx tv) (hs : ∀ x, foldedSetIterable iter X.env x = pure x := by intro _; rfl) :
    PS X (.Assign [.Name y py] (.DictComp kx vx [⟨tg, iter, [], 0⟩] scope pos) spos) (tAsg (tDcT wi g tk tv (own.map (·.2))) (gName i)) := by
  refine ⟨fun pins s σ H D I h => ?_⟩
  rw [exec_Assign_Name_used _ _ _ _ hsw]
  refine wpAny_bind (wpAny_standAt (wpAny_bind ?_))
  show wpAny _ X.A (do let _ ← comprehension (.DictComp kx vx [⟨tg, iter, [], 0⟩] scope pos) scope X.env (firstIterPos [⟨tg, iter, [], 0⟩] pos) newDict false (eval iter X.env) (some (assign (.Name y py) X.env))) _ _ s
  have h' : tDcT wi g tk tv (own.map (·.2)) σ H (fun x H1 => gName i x σ H1 D.nx) := h
  refine wpAny_bind (thn (dcT_core (Qf := fun _ s' => SP X pins D .next s') hu hc hN I hi ok hg hk hv hs h' fun L C s' m H' I' q hn f => ?_) fun _ s' hq => wpAny_pure (wpAny_pure hq))
  show wpAny _ _ (assign (.Name y py) X.env (.ref L)) _ _ _
  refine wpAny_assign_Name (store_ok2 (v := V.ref L) I' hN hy (.inl hyl) rfl (fun s2 I2 ⟨a, sb, at_⟩ => ?_) (.inr hyl))
  obtain ⟨f0, f1, f2, f4, f5, f6⟩ := f
  have apart : C ≠ a := by
    rcases at_ with z | z
    · rw [z]; exact f1
    · exact fun e => f5 y a z e.symm
  exact ⟨m, hn.sameBut sb apart, fun h3 sb3 => ⟨_, H', I2.turned (t' := s2.toks) (fun b o hb e => (sb3.2 b hb).trans e) f0 f1 f4 f5 f6, q⟩⟩
theorem sw_dict {kx vx : Expr} {gs : List Comprehension} {scope : Scope} {pos py : Pos} {y : Str} {l : Nat} {env : Env} (hk : env.scope.kind = .function) (hy : env.scope.names.lookup y = some .local) (hl : (py.line == pos.line) = true)
    (ha : (scope.names.any fun (n, k) => n == y && (k == .local || k == .cell)) = false) : swapsWith (.DictComp kx vx gs scope pos) (some (.Name y py)) l env = pure true := by
  have h1 : env.kindOf y = some .local := hy
  have h2 : env.blockKind = .function := by unfold Env.blockKind; rw [hk]; rfl
  unfold swapsWith
  simp only [h2, h1, ha, Expr.pos, hl]
  rfl
end
section
variable {X : Cx} {C : Addr} {bmB : List Value} {B newId initId : String}
/-- X(), an own error without own __init__ -/
theorem pmk_own0 {x : Str} {p pos : Pos} (F : ExcBaseFacts B newId initId bmB) (q : PySem.W.excIn X.K C bmB newId = true) (gC : X.mg x = some (.ref C)) (kC : PySem.W.keepIn X.K (.ref C) = true) (r : Raises X (.ref C)) (hg : Gl X x)
    (hdb : (x == ("__debug__" : Str)) = false := by decide) : PMk X (.Call (.Name x p) [] [] pos) (fun _ H Q => Q (.ref C) none H) := by
  intro pins s σ H Q I h
  refine wpAny_Call_Name_kw (ld_glob I hg gC ?_ hdb)
  refine PySem.W.callWith_K0 I.kIn kC ?_
  show wpAny _ _ (call (.ref C) []) _ _ _
  obtain ⟨bm, N, nm, qn, bs, hdct, sn, sub, ab, col, dd, k0, k1, k2, k3, k5, mN, hC, hN, hni, T⟩ := exc_obj I.kIn q
  refine wpAny_call_exc_subT F T hC hN hni (fun h' e hm => ?_) (Nat.zero_le _)
  exact mk_of I hm r h (I.hok.gone hm.new)
end
end Gk

/-! the small defs -/
namespace Gk
open PySem PySem.Spec PyProof.Rows L2
open Evl (Ex)
def topS (i : Nat) : Stmt := PySem.Challenge.pw_gridink_k95_whole_boxes_within.main.body.getD i (.Pass ⟨0, 0, 0, 0⟩)
abbrev sIsInteger : Stmt := topS 1
abbrev sIsIn : Stmt := topS 2
abbrev sIsList : Stmt := topS 3
abbrev sIsCell : Stmt := topS 12
abbrev sNeedInk : Stmt := topS 13
abbrev sBoxIn : Stmt := topS 14
abbrev sSumTable : Stmt := topS 16
abbrev sIsBox : Stmt := topS 17
abbrev sCountIn : Stmt := topS 18
abbrev sGreatest : Stmt := topS 19
abbrev sCountBoxes : Stmt := topS 20
abbrev sTaken : Stmt := topS 22
abbrev sPick : Stmt := topS 23
abbrev sSigned : Stmt := topS 24
abbrev sAlike : Stmt := topS 25
abbrev sInk : Stmt := topS 26
abbrev sLawBox : Stmt := topS 27
abbrev sRefused : Stmt := topS 28
abbrev sLaw : Stmt := topS 29
/-- what the top has left of a def -/
structure Df (K : PySem.W.Frag) (mg : Str → Option Value) (x : Str) (st : Stmt) (ps : List Str) (f : Addr) (fd : FuncData) : Prop where
  F : Fun K x x st f fd
  b : Binds K fd ps []
  g : mg x = some (.ref f)
/-- names that are the built-ins' still, and the numbers -/
structure Txt (mg : Str → Option Value) : Prop where
  isi : mg "isinstance" = none
  int : mg "int" = none
  bool : mg "bool" = none
  tuple : mg "tuple" = none
  list : mg "list" = none
  str : mg "str" = none
  len : mg "len" = none
  enum : mg "enumerate" = none
  min : mg "min" = none
  max : mg "max" = none
  range : mg "range" = none
  sorted : mg "sorted" = none
  most : ∃ t, mg "MOST" = some (.int 60 t)
  cells : ∃ t, mg "MOST_CELLS" = some (.int 400 t)
/-! ### kinds of values -/
/-- a value of one of the kinds that come here -/
def Kd (K : PySem.W.Frag) (H : Hp) (x : V) (T : String) : Prop := TyX K H x (.type T) ∧ (T = "int" ∨ T = "bool" ∨ T = "NoneType" ∨ T = "tuple" ∨ T = "list")
theorem kit_int {K : PySem.W.Frag} {H : Hp} {x : V} {T : String} (h : Kd K H x T) : PySem.W.kitOne K (.type T) (.type "int") = some (decide (T = "int" ∨ T = "bool")) := by
  rcases h.2 with rfl | rfl | rfl | rfl | rfl <;> exact kit_ty (by decide +kernel)
theorem kit_bool {K : PySem.W.Frag} {H : Hp} {x : V} {T : String} (h : Kd K H x T) : PySem.W.kitOne K (.type T) (.type "bool") = some (decide (T = "bool")) := by
  rcases h.2 with rfl | rfl | rfl | rfl | rfl <;> exact kit_ty (by decide +kernel)
theorem kit_tuple {K : PySem.W.Frag} {H : Hp} {x : V} {T : String} (h : Kd K H x T) : PySem.W.kitOne K (.type T) (.type "tuple") = some (decide (T = "tuple")) := by
  rcases h.2 with rfl | rfl | rfl | rfl | rfl <;> exact kit_ty (by decide +kernel)
theorem kd_int {K : PySem.W.Frag} {H : Hp} (i : Int) : Kd K H (.int i) "int" := ⟨.base (.int i), .inl rfl⟩
theorem kd_bl {K : PySem.W.Frag} {H : Hp} (b : Bool) : Kd K H (.bl b) "bool" := ⟨.base (.bl b), .inr (.inl rfl)⟩
theorem kd_non {K : PySem.W.Frag} {H : Hp} : Kd K H .non "NoneType" := ⟨.base .non, .inr (.inr (.inl rfl))⟩
theorem kd_tup {K : PySem.W.Frag} {H : Hp} {a : Addr} {xs : List V} (h : H a = some (.tup xs)) : Kd K H (.ref a) "tuple" := ⟨.base (.tup h), .inr (.inr (.inr (.inl rfl)))⟩
theorem kd_lst {K : PySem.W.Frag} {H : Hp} {a : Addr} {xs : List V} (h : H a = some (.lst xs)) : Kd K H (.ref a) "list" := ⟨.base (.lst h), .inr (.inr (.inr (.inr rfl)))⟩
section
variable {P : Program} {w : World} {K : PySem.W.Frag} {mg : Str → Option Value} {base : Heap}
/-! ### is_integer -/
def spIsInt (K : PySem.W.Frag) : Sp := fun vs H Q _ => ∃ x T, vs = [x] ∧ Kd K H x T ∧ Q (.bl (decide (T = "int"))) H
theorem scIsInteger : FnScope ["value"] ["value"] (defScope sIsInteger) := ⟨rfl, rfl, rfl, by decide +kernel, rfl, by decide +kernel, by decide +kernel⟩
theorem ok_isInteger {f : Addr} {fd : FuncData} (T : Txt mg) (D : Df K mg "is_integer" sIsInteger ["value"] f fd) : FnOk P w K mg base CX0 1 f fd ["value"] (spIsInt K) := by
  refine D.F.ok scIsInteger (fun vs H Q E h => ?_) (fun cdv A outer s H vs Q E hr h => ?_)
  · obtain ⟨x, T, rfl, _⟩ := h
    rfl
  · obtain ⟨x, ty, rfl, hk, q⟩ := h
    refine ⟨_, pss_one (ps_ret (pe_and (pe_callB call_isi (by rfl) T.isi (by decide +kernel) (pa_cons (pv 0) (pa_cons (pe_bltn (v := .ty "int") (by rfl) T.int (by decide +kernel) rfl) pa_nil)))
      (pe_one (pe_not (pe_callB call_isi (by rfl) T.isi (by decide +kernel) (pa_cons (pv 0) (pa_cons (pe_bltn (v := .ty "bool") (by rfl) T.bool (by decide +kernel) rfl) pa_nil))))))), ?_⟩
    refine ⟨_, rfl, _, _, _, _, _, rfl, .ty _, hk.1, kit_int hk, _, rfl, ?_⟩
    by_cases h1 : ty = "int" ∨ ty = "bool"
    · rw [decide_eq_true h1]
      refine iteT ⟨_, rfl, _, _, _, _, _, rfl, .ty _, hk.1, kit_bool hk, _, rfl, ?_⟩
      have e : (!decide (ty = "bool")) = decide (ty = "int") := by
        rcases h1 with rfl | rfl <;> decide
      show Q (.bl (!decide (ty = "bool"))) H
      rw [e]
      exact q
    · rw [decide_eq_false h1]
      refine iteF ?_
      rw [decide_eq_false (fun z => h1 (.inl z))] at q
      exact q
/-! ### is_in -/
/-- an int or a bool -/
def Scal (v : V) : Prop := (∃ i, v = .int i) ∨ ∃ b, v = .bl b
def inS (v : V) (lo hi : Int) : Bool := match v with
  | .int i => decide (lo ≤ i) && decide (i ≤ hi)
  | _ => false
def spIsIn : Sp := fun vs H Q _ => ∃ x lo hi, vs = [x, .int lo, .int hi] ∧ Scal x ∧ Q (.bl (inS x lo hi)) H
theorem scIsIn : FnScope ["value", "least", "most"] ["value", "least", "most"] (defScope sIsIn) := ⟨rfl, rfl, rfl, by decide +kernel, rfl, by decide +kernel, by decide +kernel⟩
theorem ok_isIn {f f1 : Addr} {fd fd1 : FuncData} (T : Txt mg) (D : Df K mg "is_in" sIsIn ["value", "least", "most"] f fd) (D1 : Df K mg "is_integer" sIsInteger ["value"] f1 fd1) : FnOk P w K mg base CX0 2 f fd ["value", "least", "most"] spIsIn := by
  refine D.F.ok scIsIn (fun vs H Q E h => ?_) (fun cdv A outer s H vs Q E hr h => ?_)
  · obtain ⟨x, lo, hi, rfl, _⟩ := h
    rfl
  · obtain ⟨x, lo, hi, rfl, hs, q⟩ := h
    refine ⟨_, pss_one (ps_ret (pe_and (pe_call (ok_isInteger T D1) hr (by rfl) D1.g D1.F.kp D1.b .nil pass0 (pa_cons (pv 0) pa_nil)) (pe_one (pe_chain op_le op_le (pv 1) (pv 0) (pv 2))))), ?_⟩
    rcases hs with ⟨i, rfl⟩ | ⟨b, rfl⟩
    · refine ⟨_, rfl, _, _, rfl, kd_int i, _, rfl, iteT ⟨_, rfl, _, rfl, _, _, rfl, rfl, _, rfl, ?_⟩⟩
      have e : inS (.int i) lo hi = (decide (lo ≤ i) && decide (i ≤ hi)) := rfl
      rw [e] at q
      by_cases h1 : lo ≤ i
      · rw [decide_eq_true h1] at q ⊢
        exact iteT ⟨_, rfl, _, _, rfl, rfl, q⟩
      · rw [decide_eq_false h1] at q ⊢
        exact iteF q
    · exact ⟨_, rfl, _, _, rfl, kd_bl b, _, rfl, iteF q⟩
/-! ### is_list -/
def spIsList (K : PySem.W.Frag) : Sp := fun vs H Q _ => ∃ x lo hi, vs = [x, .int lo, .int hi] ∧
  ((∃ a xs, x = .ref a ∧ H a = some (.tup xs) ∧ Q (.bl (decide (lo ≤ (xs.length : Int)) && decide ((xs.length : Int) ≤ hi))) H) ∨ ∃ T, Kd K H x T ∧ T ≠ "tuple" ∧ Q (.bl false) H)
theorem scIsList : FnScope ["value", "least", "most"] ["value", "least", "most"] (defScope sIsList) := ⟨rfl, rfl, rfl, by decide +kernel, rfl, by decide +kernel, by decide +kernel⟩
theorem ok_isList {f : Addr} {fd : FuncData} (T : Txt mg) (D : Df K mg "is_list" sIsList ["value", "least", "most"] f fd) : FnOk P w K mg base CX0 1 f fd ["value", "least", "most"] (spIsList K) := by
  refine D.F.ok scIsList (fun vs H Q E h => ?_) (fun cdv A outer s H vs Q E hr h => ?_)
  · obtain ⟨x, lo, hi, rfl, _⟩ := h
    rfl
  · obtain ⟨x, lo, hi, rfl, hs⟩ := h
    refine ⟨_, pss_one (ps_ret (pe_and (pe_callB call_isi (by rfl) T.isi (by decide +kernel) (pa_cons (pv 0) (pa_cons (pe_bltn (v := .ty "tuple") (by rfl) T.tuple (by decide +kernel) rfl) pa_nil)))
      (pe_one (pe_chain op_le op_le (pv 1) (pe_callB call_len_seq (by rfl) T.len PySem.boot_len (pa_cons (pv 0) pa_nil)) (pv 2))))), ?_⟩
    rcases hs with ⟨a, xs, rfl, ha, q⟩ | ⟨ty, hk, hne, q⟩
    · refine ⟨_, rfl, _, _, _, _, _, rfl, .ty _, (kd_tup (K := K) ha).1, kit_tuple (kd_tup ha), _, rfl, ?_⟩
      rw [decide_eq_true (rfl : ("tuple" : String) = "tuple")]
      refine iteT ⟨_, rfl, _, rfl, a, xs, rfl, .inr (SqT.of ha), _, _, rfl, rfl, _, rfl, ?_⟩
      by_cases h1 : lo ≤ (xs.length : Int)
      · rw [decide_eq_true h1] at q ⊢
        exact iteT ⟨_, rfl, _, _, rfl, rfl, q⟩
      · rw [decide_eq_false h1] at q ⊢
        exact iteF q
    · refine ⟨_, rfl, _, _, _, _, _, rfl, .ty _, hk.1, kit_tuple hk, _, rfl, ?_⟩
      rw [decide_eq_false hne]
      exact iteF q
/-! ### is_cell -/
def inR (v : V) : Bool := inS v (-60) 60
def spIsCell : Sp := fun vs H Q _ => ∃ a v0 v1, vs = [.ref a] ∧ H a = some (.tup [v0, v1]) ∧ Scal v0 ∧ Scal v1 ∧ Q (.bl (inR v0 && inR v1)) H
theorem scIsCell : FnScope ["value"] ["value"] (defScope sIsCell) := ⟨rfl, rfl, rfl, by decide +kernel, rfl, by decide +kernel, by decide +kernel⟩
theorem ok_isCell {f f1 f2 f3 : Addr} {fd fd1 fd2 fd3 : FuncData} (T : Txt mg) (D : Df K mg "is_cell" sIsCell ["value"] f fd) (D1 : Df K mg "is_integer" sIsInteger ["value"] f1 fd1) (D2 : Df K mg "is_in" sIsIn ["value", "least", "most"] f2 fd2)
    (D3 : Df K mg "is_list" sIsList ["value", "least", "most"] f3 fd3) : FnOk P w K mg base CX0 3 f fd ["value"] spIsCell := by
  refine D.F.ok scIsCell (fun vs H Q E h => ?_) (fun cdv A outer s H vs Q E hr h => ?_)
  · obtain ⟨a, v0, v1, rfl, _⟩ := h
    rfl
  · obtain ⟨a, v0, v1, rfl, ha, s0, s1, q⟩ := h
    obtain ⟨tm, em⟩ := T.most
    have hr1 : Room 1 _ := hr.mono (by decide)
    refine ⟨_, pss_one (ps_ret (pe_and (pe_call (ok_isList T D3) hr1 (by rfl) D3.g D3.F.kp D3.b .nil pass0 (pa_cons (pv 0) (pa_cons pe_int (pa_cons pe_int pa_nil))))
      (pe_and (pe_call (ok_isIn T D2 D1) hr (by rfl) D2.g D2.F.kp D2.b .nil pass0 (pa_cons (pe_ix ix_tup (pv 0) pe_int (fun _ _ => rfl)) (pa_cons (pe_un un_neg (pe_glob (v := .int 60) (by rfl) em ⟨tm, rfl⟩)) (pa_cons (pe_glob (v := .int 60) (by rfl) em ⟨tm, rfl⟩) pa_nil))))
        (pe_one (pe_call (ok_isIn T D2 D1) hr (by rfl) D2.g D2.F.kp D2.b .nil pass0 (pa_cons (pe_ix ix_tup (pv 0) pe_int (fun _ _ => rfl)) (pa_cons (pe_un un_neg (pe_glob (v := .int 60) (by rfl) em ⟨tm, rfl⟩)) (pa_cons (pe_glob (v := .int 60) (by rfl) em ⟨tm, rfl⟩) pa_nil)))))))), ?_⟩
    refine ⟨_, rfl, _, _, _, rfl, .inl ⟨a, _, rfl, ha, _, rfl, iteT ?_⟩⟩
    refine ⟨_, rfl, a, _, _, _, rfl, rfl, SqT.of ha, atI_nat (j := 0) rfl, _, rfl, _, _, _, rfl, s0, _, rfl, ?_⟩
    show if inS v0 (-60) 60 = true then _ else _
    have e : (inR v0 && inR v1) = (inS v0 (-60) 60 && inS v1 (-60) 60) := rfl
    rw [e] at q
    cases h0 : inS v0 (-60) 60 with
    | true =>
      rw [h0] at q
      exact iteT ⟨_, rfl, a, _, _, _, rfl, rfl, SqT.of ha, atI_nat (j := 1) rfl, _, rfl, _, _, _, rfl, s1, q⟩
    | false =>
      rw [h0] at q
      exact iteF q
end
end Gk

/-! need_ink, box_in -/
namespace Gk
open PySem PySem.Spec PyProof.Rows L2
open Evl (Ex)
/-! ### inks -/
def Pair2 (H : Hp) (v : V) (c : C2) : Prop := ∃ a, v = .ref a ∧ H a = some (.tup [.int c.1, .int c.2])
abbrev Cells (H : Hp) : List V → List C2 → Prop := Paired (Pair2 H)
def InkAt (H : Hp) (p : Addr) (cs : List C2) : Prop := ∃ vs, H p = some (.tup vs) ∧ Cells H vs cs
def ltC (a b : C2) : Prop := a.1 < b.1 ∨ (a.1 = b.1 ∧ a.2 < b.2)
structure Good (cs : List C2) : Prop where
  asc : cs.Pairwise ltC
  inn : ∀ c ∈ cs, (-9 ≤ c.1 ∧ c.1 ≤ 14) ∧ (-9 ≤ c.2 ∧ c.2 ≤ 14)
  len : cs.length ≤ 200
theorem Good.nodup {cs : List C2} (g : Good cs) : cs.Nodup := by
  refine List.Pairwise.imp ?_ g.asc
  intro a b h e
  rw [e] at h
  unfold ltC at h
  omega
/-- the tuples stay -/
def Tx (H H' : Hp) : Prop := ∀ a xs, H a = some (.tup xs) → H' a = some (.tup xs)
theorem Tx.refl (H : Hp) : Tx H H := fun _ _ h => h
theorem Tx.trans {H H1 H2 : Hp} (a : Tx H H1) (b : Tx H1 H2) : Tx H H2 := fun x o h => b x o (a x o h)
theorem Tx.of {H H' : Hp} (e : Ex H H') : Tx H H' := fun a xs h => e a _ h
theorem Tx.up {H : Hp} {d : Addr} {o : HO} (h : ∀ xs, H d ≠ some (.tup xs)) : Tx H (upd H d o) := fun a xs e => by
  have ne : a ≠ d := fun z => h xs (by rw [← z]; exact e)
  rw [upd_ne ne]
  exact e
theorem Tx.new {H : Hp} {d : Addr} {o : HO} (h : H d = none) : Tx H (upd H d o) := Tx.up fun xs z => by rw [h] at z; cases z
theorem Pair2.tx {H H' : Hp} {v : V} {c : C2} (e : Tx H H') (h : Pair2 H v c) : Pair2 H' v c := let ⟨a, e1, e2⟩ := h; ⟨a, e1, e _ _ e2⟩
theorem Cells.tx {H H' : Hp} (e : Tx H H') : ∀ {vs : List V} {cs : List C2}, Cells H vs cs → Cells H' vs cs
  | _, _, .nil => .nil
  | _, _, .cons h t => .cons (h.tx e) (Cells.tx e t)
theorem InkAt.tx {H H' : Hp} {p : Addr} {cs : List C2} (e : Tx H H') (h : InkAt H p cs) : InkAt H' p cs := let ⟨vs, e1, e2⟩ := h; ⟨vs, e _ _ e1, Cells.tx e e2⟩
theorem Cells.len {H : Hp} {vs : List V} {cs : List C2} (h : Cells H vs cs) : vs.length = cs.length := Paired.length h
theorem Cells.at {H : Hp} : ∀ {vs : List V} {cs : List C2} {i : Nat} {v : V}, Cells H vs cs → vs[i]? = some v → ∃ c, cs[i]? = some c ∧ Pair2 H v c
  | _, _, _, _, .nil, e => by simp at e
  | _, _, 0, _, .cons h _, e => by
    simp at e
    subst e
    exact ⟨_, rfl, h⟩
  | _, _, i + 1, v, .cons _ t, e => by
    obtain ⟨c, h1, h2⟩ := Cells.at (i := i) (v := v) t (by simpa using e)
    exact ⟨c, by simpa using h1, h2⟩
/-- <= of a pair and a lesser one -/
theorem leq_false {r c r' c' : Int} (h : ltC (r', c') (r, c)) : Ob.lexAt (fun j => decide (([r, c] : List Int).getD j 0 = ([r', c'] : List Int).getD j 0)) (fun j => decide (([r, c] : List Int).getD j 0 ≤ ([r', c'] : List Int).getD j 0)) (decide (([r, c] : List Int).length ≤ ([r', c'] : List Int).length)) 0 (min ([r, c] : List Int).length ([r', c'] : List Int).length) = false := by
  have e : Ob.lexAt (fun j => decide (([r, c] : List Int).getD j 0 = ([r', c'] : List Int).getD j 0)) (fun j => decide (([r, c] : List Int).getD j 0 ≤ ([r', c'] : List Int).getD j 0)) (decide (([r, c] : List Int).length ≤ ([r', c'] : List Int).length)) 0 (min ([r, c] : List Int).length ([r', c'] : List Int).length)
      = if decide (r = r') = true then (if decide (c = c') = true then decide ((2 : Nat) ≤ 2) else decide (c ≤ c')) else decide (r ≤ r') := rfl
  rw [e]
  unfold ltC at h
  simp only at h
  rcases h with h | ⟨h1, h2⟩
  · rw [decide_eq_false (by omega), if_neg Bool.false_ne_true]
    exact decide_eq_false (by omega)
  · rw [decide_eq_true h1.symm, if_pos rfl, decide_eq_false (by omega), if_neg Bool.false_ne_true]
    exact decide_eq_false (by omega)
section
variable {P : Program} {w : World} {K : PySem.W.Frag} {mg : Str → Option Value} {base : Heap}
/-! ### need_ink -/
def spNeed : Sp := fun vs H Q _ => ∃ p cs, vs = [.ref p] ∧ InkAt H p cs ∧ Good cs ∧ ∀ H2, Ex H H2 → Q .non H2
theorem scNeed : FnScope ["value", "index", "cell"] ["value"] (defScope sNeedInk) := ⟨rfl, rfl, rfl, by decide +kernel, rfl, by decide +kernel, by decide +kernel⟩
theorem ok_need {f f1 f2 f3 f4 : Addr} {fd fd1 fd2 fd3 fd4 : FuncData} (T : Txt mg) (D : Df K mg "need_ink" sNeedInk ["value"] f fd) (D1 : Df K mg "is_integer" sIsInteger ["value"] f1 fd1) (D2 : Df K mg "is_in" sIsIn ["value", "least", "most"] f2 fd2)
    (D3 : Df K mg "is_list" sIsList ["value", "least", "most"] f3 fd3) (D4 : Df K mg "is_cell" sIsCell ["value"] f4 fd4) : FnOk P w K mg base CX0 4 f fd ["value"] spNeed := by
  refine D.F.ok scNeed (fun vs H Q E h => ?_) (fun cdv A outer s H vs Q E hr h => ?_)
  · obtain ⟨p, cs, rfl, _⟩ := h
    rfl
  · obtain ⟨p, cs, rfl, ⟨vs, hp, hcs⟩, g, q⟩ := h
    obtain ⟨tm, em⟩ := T.cells
    have hr1 : Room 1 _ := hr.mono (by decide)
    have hu := hu_of hr
    refine ⟨_, pss_cons (ps_if (pt_not (pt_val (pe_call (ok_isList T D3) hr1 (by rfl) D3.g D3.F.kp D3.b .nil pass0 (pa_cons (pv 0) (pa_cons pe_int (pa_cons (pe_glob (v := .int 400) (by rfl) em ⟨tm, rfl⟩) pa_nil)))))) (pss_one ps_never) pss_nil)
      (pss_one (ps_for PassesOwn.never rfl (pi_enumT (by rfl) T.enum (pa_cons (pv 0) pa_nil)) (pg_tup rfl (pgs_cons (pg_name (i := 1) scNeed.nd rfl (.inl rfl)) (pgs_cons (pg_name (i := 2) scNeed.nd rfl (.inl rfl)) pgs_nil)))
        (pss_one (ps_if (PW.pt (pw_or (pt_not (pt_val (pe_call (ok_isCell T D4 D1 D2 D3) hr (by rfl) D4.g D4.F.kp D4.b .nil pass0 (pa_cons (pv 2) pa_nil))))
          (pw_or1 (PW.pt (pw_and (pt_cmpR op_gt (pv 1) pe_int (nomark _)) (pw_and1 (pt_cmpR (op_leT (Nat.lt_of_succ_lt hu)) (pv 2) (pe_ix ix_tup (pv 0) (pe_op op_sub (pv 1) pe_int) (fun _ _ => rfl)) (nomark _)))))))) (pss_one ps_never) pss_nil)))), ?_⟩
    have hl := Cells.len hcs
    have h400 : vs.length ≤ 400 := by
      have := g.len
      omega
    refine ⟨_, rfl, _, _, _, rfl, .inl ⟨p, vs, rfl, hp, _, rfl, ?_⟩⟩
    rw [decide_eq_true (by omega : (0 : Int) ≤ (vs.length : Int)), decide_eq_true (by omega : (vs.length : Int) ≤ 400)]
    refine iteF ?_
    refine ⟨_, rfl, p, vs, rfl, SqT.of hp, for_enumT (K := K) (a := p) (xs := vs) (fun i σ H' => ∃ x1 x2, σ = [some (.ref p), x1, x2] ∧ Ex H H') ⟨none, none, rfl, Evl.Ex.refl H⟩ (fun i σ H' _ ⟨_, _, _, e⟩ => SqT.of (e _ _ hp)) ?_ ?_⟩
    · rintro i x σ H' T0 hi ⟨x1, x2, rfl, e⟩ hT
      obtain ⟨c, hc, a, rfl, ha⟩ := Cells.at hcs hi
      have e2 : Ex H (upd H' T0 (.tup [.int (i : Nat), .ref a])) := e.trans (Evl.Ex.new hT)
      have ha2 := e2 _ _ ha
      have gi := g.inn c (List.mem_of_getElem? hc)
      refine ⟨T0, _, rfl, SqT.of upd_same, rfl, _, _, rfl, _, _, rfl, rfl, ?_⟩
      have r1 : inR (V.int c.1) = true := by
        show (decide (-60 ≤ c.1) && decide (c.1 ≤ 60)) = true
        rw [decide_eq_true (by omega), decide_eq_true (by omega)]
        rfl
      have r2 : inR (V.int c.2) = true := by
        show (decide (-60 ≤ c.2) && decide (c.2 ≤ 60)) = true
        rw [decide_eq_true (by omega), decide_eq_true (by omega)]
        rfl
      refine ⟨_, rfl, a, _, _, rfl, ha2, .inl ⟨_, rfl⟩, .inl ⟨_, rfl⟩, _, rfl, ?_⟩
      rw [r1, r2]
      refine iteF ⟨_, rfl, _, _, rfl, rfl, _, rfl, ?_⟩
      by_cases h0 : (0 : Int) < ((i : Nat) : Int)
      · rw [decide_eq_true h0]
        refine iteT ⟨_, rfl, _, rfl, _, rfl, _, _, rfl, rfl, p, vs, ((i : Nat) : Int) - 1, ?_⟩
        obtain ⟨j, rfl⟩ : ∃ j, i = j + 1 := ⟨i - 1, by omega⟩
        have hj : j < cs.length := by
          have := (List.getElem?_eq_some_iff.mp hc).1
          omega
        have hjv : j < vs.length := by omega
        obtain ⟨c', hc', b, eb, hb⟩ := Cells.at hcs (List.getElem?_eq_getElem hjv)
        refine ⟨vs[j], rfl, rfl, SqT.of (e2 _ _ hp), at_of (j := j) (by omega) (List.getElem?_eq_getElem hjv), a, b, [c.1, c.2], [c'.1, c'.2], rfl, eb, SqT.of ha2, SqT.of (e2 _ _ hb), ?_⟩
        have lt : ltC (c'.1, c'.2) (c.1, c.2) := by
          obtain ⟨q1, e1⟩ := List.getElem?_eq_some_iff.mp hc'
          obtain ⟨q2, e2⟩ := List.getElem?_eq_some_iff.mp hc
          have z := List.pairwise_iff_getElem.mp g.asc j (j + 1) q1 q2 (Nat.lt_succ_self _)
          rw [e1, e2] at z
          exact z
        rw [leq_false lt]
        exact ⟨_, rfl, iteF ⟨_, _, rfl, e2⟩⟩
      · rw [decide_eq_false h0]
        exact iteF (iteF ⟨_, _, rfl, e2⟩)
    · rintro σ H' ⟨x1, x2, rfl, e⟩
      exact q H' e
end
end Gk

/-! comprehensions over inks; box_in -/
namespace Gk
open PySem PySem.Spec PyProof.Rows L2
open Evl (Ex given)
section
variable {K : PySem.W.Frag} {a : Addr} {vs : List V} {σ : L2.St} {H : Hp} {own : List Nat} {g : TG} {tt : TT} {te tl : TE} {Q : VK}
/-- what a turn of a comprehension does: whether its item is kept, and what it gives -/
def TurnLc (g : TG) (tt : TT) (te : TE) (own : List Nat) (σ : L2.St) (x : V) (b : Bool) (v : V) (H' : Hp) : Prop :=
  ∀ (A : V → Hp → Prop) (B : Hp → Prop), (b = true → ∀ H4, Ex H' H4 → A v H4) → (b = false → ∀ H4, Ex H' H4 → B H4) → g x (wipe σ own) H' fun σ2 H2 => wipe σ2 own = wipe σ own ∧ tt σ2 H2 fun b H3 => if b = true then te σ2 H3 A else B H3
theorem lc_step {x : V} {D : Addr} {i : Nat} {f : Nat → Bool} {v : Nat → V} {H' : Hp} (hi : i < 50000) (p : Evl.Cw H f v D i H') (h : TurnLc g tt te own σ x (f i) (v i) H') :
    g x (wipe σ own) H' fun σ2 H2 => wipe σ2 own = wipe σ own ∧ tt σ2 H2 fun b H3 => if b = true then te σ2 H3 fun y H4 => ∃ acc, H4 D = some (.lst acc) ∧ acc.length < sizeLine ∧ Evl.Cw H f v D (i + 1) (upd H4 D (.lst (acc ++ [y]))) else Evl.Cw H f v D (i + 1) H3 := by
  obtain ⟨p1, p2, p3⟩ := p
  refine h _ _ (fun hf H4 e4 => ⟨given i f v, e4 D _ p3, Evl.sz_lt (by have := Evl.given_len i f v; omega), p1, Evl.Ex.mut (p2.trans e4) p1, ?_⟩) (fun hf H4 e4 => ⟨p1, p2.trans e4, ?_⟩)
  · rw [Evl.given_yes hf]
    exact upd_same
  · rw [Evl.given_no hf]
    exact e4 D _ p3
/-- a comprehension over a tuple -/
theorem lc_overT (f : Nat → Bool) (v : Nat → V) (ht : ∀ R : VK, R (.ref a) H → tl σ H R) (hv : H a = some (.tup vs)) (hz : vs.length ≤ 40000)
    (turn : ∀ i x H', vs[i]? = some x → Ex H H' → TurnLc g tt te own σ x (f i) (v i) H') (k : ∀ D H', H D = none → Ex H H' → H' D = some (.lst (given vs.length f v)) → Q (.ref D) H') : tLc (iTup K tl) g tt te own σ H Q :=
  ht _ ⟨a, rfl, ⟨vs, SqT.of hv⟩, fun D hD => lc_tup (xs := vs) (Evl.Cw H f v D) ⟨hD, Evl.Ex.new hD, upd_same⟩ (fun i H' _ p => SqT.of (p.2.1 a _ hv))
    (fun i x H' hi p => lc_step (by have := (List.getElem?_eq_some_iff.mp hi).1; omega) p (turn i x H' hi p.2.1)) fun H' p => k D H' hD p.2.1 p.2.2⟩
/-- over a list -/
theorem lc_overL (f : Nat → Bool) (v : Nat → V) (ht : ∀ R : VK, R (.ref a) H → tl σ H R) (hv : H a = some (.lst vs)) (hz : vs.length ≤ 40000)
    (turn : ∀ i x H', vs[i]? = some x → Ex H H' → TurnLc g tt te own σ x (f i) (v i) H') (k : ∀ D H', H D = none → Ex H H' → H' D = some (.lst (given vs.length f v)) → Q (.ref D) H') : tLc (iList K tl) g tt te own σ H Q :=
  ht _ ⟨a, rfl, ⟨vs, SqL.of hv⟩, fun D hD => lc_list (xs := vs) (Evl.Cw H f v D) ⟨hD, Evl.Ex.new hD, upd_same⟩ (fun i H' _ p => SqL.of (p.2.1 a _ hv))
    (fun i x H' hi p => lc_step (by have := (List.getElem?_eq_some_iff.mp hi).1; omega) p (turn i x H' hi p.2.1)) fun H' p => k D H' hD p.2.1 p.2.2⟩
end
theorem given_map {n : Nat} {v : Nat → V} {f : Nat → Bool} (hf : ∀ i, f i = true) : given n f v = (List.range n).map v := by
  unfold given
  rw [List.filter_eq_self.mpr fun i _ => hf i]
theorem range_map {α : Type} (cs : List α) (d : α) (f : α → V) : (List.range cs.length).map (fun i => f (cs.getD i d)) = cs.map f := by
  apply List.ext_getElem
  · simp
  · intro i h1 h2
    simp only [List.length_map] at h2
    simp [List.getD_eq_getElem?_getD, List.getElem?_eq_getElem h2]
theorem isBox_of {cs : List C2} {t l b r : Int} (ht : t ∈ cs.map (·.1)) (ht' : ∀ y ∈ cs.map (·.1), t ≤ y) (hl : l ∈ cs.map (·.2)) (hl' : ∀ y ∈ cs.map (·.2), l ≤ y) (hb : b ∈ cs.map (·.1)) (hb' : ∀ y ∈ cs.map (·.1), y ≤ b) (hr : r ∈ cs.map (·.2)) (hr' : ∀ y ∈ cs.map (·.2), y ≤ r) :
    IsBox cs t l (b + 1) (r + 1) := by
  obtain ⟨p1, q1, e1⟩ := List.mem_map.mp ht
  obtain ⟨p2, q2, e2⟩ := List.mem_map.mp hl
  obtain ⟨p3, q3, e3⟩ := List.mem_map.mp hb
  obtain ⟨p4, q4, e4⟩ := List.mem_map.mp hr
  refine ⟨fun p hp => ?_, ⟨p1, q1, e1⟩, ⟨p2, q2, e2⟩, ⟨p3, q3, by omega⟩, ⟨p4, q4, by omega⟩⟩
  have a1 := ht' _ (List.mem_map.mpr ⟨p, hp, rfl⟩)
  have a2 := hl' _ (List.mem_map.mpr ⟨p, hp, rfl⟩)
  have a3 := hb' _ (List.mem_map.mpr ⟨p, hp, rfl⟩)
  have a4 := hr' _ (List.mem_map.mpr ⟨p, hp, rfl⟩)
  omega
theorem IsBox.one {cs : List C2} {t l b r t' l' b' r' : Int} (B : IsBox cs t l b r) (B' : IsBox cs t' l' b' r') : t = t' ∧ l = l' ∧ b = b' ∧ r = r' := by
  obtain ⟨p1, q1, e1⟩ := B.tt
  obtain ⟨p2, q2, e2⟩ := B.ll
  obtain ⟨p3, q3, e3⟩ := B.bb
  obtain ⟨p4, q4, e4⟩ := B.rr
  obtain ⟨u1, v1, f1⟩ := B'.tt
  obtain ⟨u2, v2, f2⟩ := B'.ll
  obtain ⟨u3, v3, f3⟩ := B'.bb
  obtain ⟨u4, v4, f4⟩ := B'.rr
  have a1 := B'.inn p1 q1
  have a2 := B'.inn p2 q2
  have a3 := B'.inn p3 q3
  have a4 := B'.inn p4 q4
  have b1 := B.inn u1 v1
  have b2 := B.inn u2 v2
  have b3 := B.inn u3 v3
  have b4 := B.inn u4 v4
  omega
theorem IsBox.bounds {cs : List C2} {t l b r : Int} (B : IsBox cs t l b r) (g : Good cs) : (-9 ≤ t ∧ t < b ∧ b ≤ 15) ∧ (-9 ≤ l ∧ l < r ∧ r ≤ 15) := by
  obtain ⟨p1, q1, e1⟩ := B.tt
  obtain ⟨p2, q2, e2⟩ := B.ll
  obtain ⟨p3, q3, e3⟩ := B.bb
  obtain ⟨p4, q4, e4⟩ := B.rr
  have a1 := g.inn p1 q1
  have a2 := g.inn p2 q2
  have a3 := g.inn p3 q3
  have a4 := g.inn p4 q4
  have i1 := B.inn p1 q1
  have i2 := B.inn p2 q2
  omega
section
variable {P : Program} {w : World} {K : PySem.W.Frag} {mg : Str → Option Value} {base : Heap}
/-- [part for row, column in ink] -/
theorem t_pairs {σ : L2.St} {H : Hp} {Q : VK} {p : Addr} {cs : List C2} {j i1 i2 : Nat} {te : TE} (f : C2 → V) (hj : σ[j]? = some (some (.ref p))) (hp : InkAt H p cs) (hl : cs.length ≤ 200)
    (hw : ∀ x y, wipe (((wipe σ [i1, i2]).set i1 (some x)).set i2 (some y)) [i1, i2] = wipe σ [i1, i2]) (he : ∀ (c : C2) H' (A : VK), A (f c) H' → te (((wipe σ [i1, i2]).set i1 (some (.int c.1))).set i2 (some (.int c.2))) H' A)
    (k : ∀ D H', H D = none → Ex H H' → H' D = some (.lst (cs.map f)) → Q (.ref D) H') : tLc (iTup K (tVar j)) (gTup K 2 (gCons (gName i1) (gCons (gName i2) gNil))) tYes te [i1, i2] σ H Q := by
  obtain ⟨vs, hv, hc⟩ := hp
  have hlen := Cells.len hc
  refine lc_overT (f := fun _ => true) (v := fun i => f (cs.getD i (0, 0))) (fun R h => ⟨_, hj, h⟩) hv (by omega) (fun i x H' hi e A B hA _ => ?_) fun D H' hD e h => k D H' hD e ?_
  · obtain ⟨c, hci, a, rfl, ha⟩ := Cells.at hc hi
    have ed : cs.getD i (0, 0) = c := by rw [List.getD_eq_getElem?_getD, hci]; rfl
    rw [ed] at hA
    refine ⟨a, _, rfl, SqT.of (e _ _ ha), rfl, _, _, rfl, _, _, rfl, rfl, hw _ _, ?_⟩
    show if true = true then te (((wipe σ [i1, i2]).set i1 (some (.int c.1))).set i2 (some (.int c.2))) H' A else B H'
    exact iteT (he c H' _ (hA rfl H' (Evl.Ex.refl H')))
  · rw [h, given_map fun _ => rfl, hlen, range_map]
/-! ### box_in -/
def spBoxIn : Sp := fun vs H Q _ => ∃ p cs, vs = [.ref p] ∧ InkAt H p cs ∧ Good cs ∧ cs ≠ [] ∧ ∀ q t l b r H2, Ex H H2 → H2 q = some (.tup [.int t, .int l, .int b, .int r]) → IsBox cs t l b r → Q (.ref q) H2
theorem scBoxIn : FnScope ["ink", "rows", "columns", "row", "column"] ["ink"] (defScope sBoxIn) := ⟨rfl, rfl, rfl, by decide +kernel, rfl, by decide +kernel, by decide +kernel⟩
theorem scLawBox : FnScope ["_law_ink_here", "_law_rows", "_law_columns", "_law_row", "_law_column"] ["_law_ink_here"] (defScope sLawBox) := ⟨rfl, rfl, rfl, by decide +kernel, rfl, by decide +kernel, by decide +kernel⟩
/-- the reading of both -/
def tBoxIn (K : PySem.W.Frag) : TS :=
  tSeq (tPar 1 2 (tCons (tLc (iTup K (tVar 0)) (gTup K 2 (gCons (gName 3) (gCons (gName 4) gNil))) tYes (tVar 3) [3, 4]) (tCons (tLc (iTup K (tVar 0)) (gTup K 2 (gCons (gName 3) (gCons (gName 4) gNil))) tYes (tVar 4) [3, 4]) tNil)))
    (tRet (tTup (tCons (tCB (rMin K) (tCons (tVar 1) tNil)) (tCons (tCB (rMin K) (tCons (tVar 2) tNil)) (tCons (tOp (rI0 fun i j => .int (i + j)) (tCB (rMax K) (tCons (tVar 1) tNil)) (tC (.int 1))) (tCons (tOp (rI0 fun i j => .int (i + j)) (tCB (rMax K) (tCons (tVar 2) tNil)) (tC (.int 1))) tNil))))))
theorem pure_boxIn {vs : List V} {H : Hp} {Q : VK} {E : XK} (N : List Str) (hN : N.length = 5) (h : spBoxIn vs H Q E) : tBoxIn K { nx := fun _ H' => Q .non H', rt := Q } (start N vs) H := by
  obtain ⟨p, cs, rfl, hp, g, hne, q⟩ := h
  obtain ⟨n0, n1, n2, n3, n4, rfl⟩ : ∃ a b c d e, N = [a, b, c, d, e] := by
    match N, hN with
    | [a, b, c, d, e], _ => exact ⟨a, b, c, d, e, rfl⟩
  have hpos : 0 < cs.length := List.length_pos_iff.mpr hne
  dsimp only [tBoxIn, tSeq, tPar, tCons]
  refine t_pairs (fun c => .int c.1) rfl hp g.len (fun _ _ => rfl) (fun c H' A hA => ⟨_, rfl, hA⟩) fun D1 H1 hD1 e1 h1 => ?_
  refine t_pairs (fun c => .int c.2) rfl (hp.tx (Tx.of e1)) g.len (fun _ _ => rfl) (fun c H' A hA => ⟨_, rfl, hA⟩) fun D2 H2 hD2 e2 h2 => ?_
  have g1 : SqL K H2 D1 ((cs.map (·.1)).map V.int) := by
    rw [List.map_map]
    exact SqL.of (e2 _ _ h1)
  have g2 : SqL K H2 D2 ((cs.map (·.2)).map V.int) := by
    rw [List.map_map]
    exact SqL.of h2
  refine ⟨_, _, rfl, ?_⟩
  refine ⟨_, rfl, D1, cs.map (·.1), rfl, g1, by rw [List.length_map]; exact hpos, fun t ht ht' => ?_⟩
  refine ⟨_, rfl, D2, cs.map (·.2), rfl, g2, by rw [List.length_map]; exact hpos, fun l hl hl' => ?_⟩
  refine ⟨_, rfl, D1, cs.map (·.1), rfl, g1, by rw [List.length_map]; exact hpos, fun b hb hb' => ?_⟩
  refine ⟨_, _, rfl, rfl, ?_⟩
  refine ⟨_, rfl, D2, cs.map (·.2), rfl, g2, by rw [List.length_map]; exact hpos, fun r hr hr' => ?_⟩
  refine ⟨_, _, rfl, rfl, ?_⟩
  refine ⟨by show 4 ≤ sizeLine; decide, fun qa hq => ?_⟩
  exact q qa t l (b + 1) (r + 1) _ ((e1.trans e2).trans (Evl.Ex.new hq)) upd_same (isBox_of ht ht' hl hl' hb hb' hr hr')
theorem ok_boxIn {f : Addr} {fd : FuncData} (T : Txt mg) (D : Df K mg "box_in" sBoxIn ["ink"] f fd) : FnOk P w K mg base CX0 1 f fd ["ink"] spBoxIn := by
  refine D.F.ok scBoxIn (fun vs H Q E h => ?_) (fun cdv A outer s H vs Q E hr h => ⟨tBoxIn K, ?_, pure_boxIn _ rfl h⟩)
  · obtain ⟨p, cs, rfl, _⟩ := h
    rfl
  · exact pss_cons (ps_par (i := 1) (j := 2) (by rfl) scBoxIn.nd rfl rfl (by decide) rfl rfl
        (pa_cons (pe_lc (own := [("row", 3), ("column", 4)]) (g := gTup K 2 (gCons (gName 3) (gCons (gName 4) gNil))) (tt := tYes) (by rfl) scBoxIn.nd (pi_tup (pv 0)) (blkOk_by (N := ["ink", "rows", "columns", "row", "column"]) (sc := defScope sBoxIn) (by decide +kernel)) (fun _ _ _ _ _ => pg_tup rfl (pgs_cons (pg_name (i := 3) scBoxIn.nd rfl (.inl rfl)) (pgs_cons (pg_name (i := 4) scBoxIn.nd rfl (.inl rfl)) pgs_nil))) (fun _ _ _ _ _ => pts_nil) (fun _ _ _ _ _ => pv 3))
        (pa_cons (pe_lc (own := [("row", 3), ("column", 4)]) (g := gTup K 2 (gCons (gName 3) (gCons (gName 4) gNil))) (tt := tYes) (by rfl) scBoxIn.nd (pi_tup (pv 0)) (blkOk_by (N := ["ink", "rows", "columns", "row", "column"]) (sc := defScope sBoxIn) (by decide +kernel)) (fun _ _ _ _ _ => pg_tup rfl (pgs_cons (pg_name (i := 3) scBoxIn.nd rfl (.inl rfl)) (pgs_cons (pg_name (i := 4) scBoxIn.nd rfl (.inl rfl)) pgs_nil))) (fun _ _ _ _ _ => pts_nil) (fun _ _ _ _ _ => pv 4)) pa_nil)) (by rfl))
      (pss_one (ps_ret (pe_tup (pa_cons (pe_callB (cr_min rfl) (by rfl) T.min (by decide +kernel) (pa_cons (pv 1) pa_nil)) (pa_cons (pe_callB (cr_min rfl) (by rfl) T.min (by decide +kernel) (pa_cons (pv 2) pa_nil))
        (pa_cons (pe_op op_add (pe_callB (cr_max rfl) (by rfl) T.max (by decide +kernel) (pa_cons (pv 1) pa_nil)) pe_int) (pa_cons (pe_op op_add (pe_callB (cr_max rfl) (by rfl) T.max (by decide +kernel) (pa_cons (pv 2) pa_nil)) pe_int) pa_nil)))))))
theorem ok_lawBox {f : Addr} {fd : FuncData} (T : Txt mg) (D : Df K mg "_law_box" sLawBox ["_law_ink_here"] f fd) : FnOk P w K mg base CX0 1 f fd ["_law_ink_here"] spBoxIn := by
  refine D.F.ok scLawBox (fun vs H Q E h => ?_) (fun cdv A outer s H vs Q E hr h => ⟨tBoxIn K, ?_, pure_boxIn _ rfl h⟩)
  · obtain ⟨p, cs, rfl, _⟩ := h
    rfl
  · exact pss_cons (ps_par (i := 1) (j := 2) (by rfl) scLawBox.nd rfl rfl (by decide) rfl rfl
        (pa_cons (pe_lc (own := [("_law_row", 3), ("_law_column", 4)]) (g := gTup K 2 (gCons (gName 3) (gCons (gName 4) gNil))) (tt := tYes) (by rfl) scLawBox.nd (pi_tup (pv 0)) (blkOk_by (N := ["_law_ink_here", "_law_rows", "_law_columns", "_law_row", "_law_column"]) (sc := defScope sLawBox) (by decide +kernel)) (fun _ _ _ _ _ => pg_tup rfl (pgs_cons (pg_name (i := 3) scLawBox.nd rfl (.inl rfl)) (pgs_cons (pg_name (i := 4) scLawBox.nd rfl (.inl rfl)) pgs_nil))) (fun _ _ _ _ _ => pts_nil) (fun _ _ _ _ _ => pv 3))
        (pa_cons (pe_lc (own := [("_law_row", 3), ("_law_column", 4)]) (g := gTup K 2 (gCons (gName 3) (gCons (gName 4) gNil))) (tt := tYes) (by rfl) scLawBox.nd (pi_tup (pv 0)) (blkOk_by (N := ["_law_ink_here", "_law_rows", "_law_columns", "_law_row", "_law_column"]) (sc := defScope sLawBox) (by decide +kernel)) (fun _ _ _ _ _ => pg_tup rfl (pgs_cons (pg_name (i := 3) scLawBox.nd rfl (.inl rfl)) (pgs_cons (pg_name (i := 4) scLawBox.nd rfl (.inl rfl)) pgs_nil))) (fun _ _ _ _ _ => pts_nil) (fun _ _ _ _ _ => pv 4)) pa_nil)) (by rfl))
      (pss_one (ps_ret (pe_tup (pa_cons (pe_callB (cr_min rfl) (by rfl) T.min (by decide +kernel) (pa_cons (pv 1) pa_nil)) (pa_cons (pe_callB (cr_min rfl) (by rfl) T.min (by decide +kernel) (pa_cons (pv 2) pa_nil))
        (pa_cons (pe_op op_add (pe_callB (cr_max rfl) (by rfl) T.max (by decide +kernel) (pa_cons (pv 1) pa_nil)) pe_int) (pa_cons (pe_op op_add (pe_callB (cr_max rfl) (by rfl) T.max (by decide +kernel) (pa_cons (pv 2) pa_nil)) pe_int) pa_nil)))))))
end
end Gk

/-! the dict of the cells; sum_table -/
namespace Gk
open PySem PySem.Spec PyProof.Rows L2
open Evl (Ex given)
abbrev k2 (r c : Int) : List Key := [Sum.inl r, Sum.inl c]
theorem k2_inj {r c r' c' : Int} : k2 r c = k2 r' c' ↔ (r = r' ∧ c = c') := by
  unfold k2
  constructor
  · intro h
    injection h with h1 h2
    injection h2 with h3 _
    exact ⟨Sum.inl.inj h1, Sum.inl.inj h3⟩
  · rintro ⟨rfl, rfl⟩
    rfl
/-- d holds the cells as keys -/
def CellsD (H : Hp) (d : Addr) (cs : List C2) : Prop := ∃ kvs : List (List Key × V), H d = some (.dT kvs) ∧ ∀ r c, (valV kvs (k2 r c)).isSome = decide ((r, c) ∈ cs)
theorem CellsD.ex {H H' : Hp} {d : Addr} {cs : List C2} (e : Ex H H') (h : CellsD H d cs) : CellsD H' d cs := let ⟨kvs, e1, e2⟩ := h; ⟨kvs, e _ _ e1, e2⟩
theorem CellsD.get {H : Hp} {d b : Addr} {cs : List C2} {r c : Int} (h : CellsD H d cs) (hb : H b = some (.tup [.int r, .int c])) : ∃ o, DGet H d (.ref b) o ∧ o.isSome = decide ((r, c) ∈ cs) := by
  obtain ⟨kvs, e1, e2⟩ := h
  exact ⟨_, DGet.t (k := k2 r c) e1 hb, e2 r c⟩
theorem mem_take_succ {α : Type} {cs : List α} {i : Nat} {c : α} (h : cs[i]? = some c) (x : α) : x ∈ cs.take (i + 1) ↔ x ∈ cs.take i ∨ x = c := by
  rw [List.take_add_one, h]
  simp
section
variable {P : Program} {w : World} {K : PySem.W.Frag} {mg : Str → Option Value} {base : Heap}
/-- {cell: True for cell in ink} -/
theorem t_cellsD {σ : L2.St} {H : Hp} {Q : VK} {p : Addr} {cs : List C2} {j i1 : Nat} (hj : σ[j]? = some (some (.ref p))) (hp : InkAt H p cs) (hl : cs.length ≤ 200)
    (hw : ∀ x, wipe ((wipe σ [i1]).set i1 (some x)) [i1] = wipe σ [i1]) (hi : ∀ x, ((wipe σ [i1]).set i1 (some x))[i1]? = some (some x))
    (k : ∀ D H', H D = none → Ex H H' → CellsD H' D cs → Q (.ref D) H') : tDcT (iTup K (tVar j)) (gName i1) (tVar i1) (tC (.bl true)) [i1] σ H Q := by
  obtain ⟨vs, hv, hc⟩ := hp
  have hlen := Cells.len hc
  refine ⟨_, hj, p, rfl, ⟨vs, SqT.of hv⟩, fun D hD => ?_⟩
  refine ⟨fun i m H' => m = vs.length - i ∧ i ≤ vs.length ∧ Ex H H' ∧ ∃ kvs : List (List Key × V), H' D = some (.dT kvs) ∧ kvs.length ≤ i ∧ ∀ r c, (valV kvs (k2 r c)).isSome = decide ((r, c) ∈ cs.take i),
    ⟨vs.length, by omega, by omega, Evl.Ex.new hD, [], upd_same, Nat.le_refl _, fun r c => by simp [valV]⟩, ?_⟩
  rintro i m H' ⟨rfl, hi2, e, kvs, hk, hkl, hks⟩
  rcases Nat.lt_or_ge i vs.length with hlt | hge
  · refine .inr ⟨⟨vs, vs[i], SqT.of (e _ _ hv), List.getElem?_eq_getElem hlt⟩, fun H2 => i + 1 ≤ vs.length ∧ Ex H H2 ∧ ∃ kvs : List (List Key × V), H2 D = some (.dT kvs) ∧ kvs.length ≤ i + 1 ∧ ∀ r c, (valV kvs (k2 r c)).isSome = decide ((r, c) ∈ cs.take (i + 1)),
      fun H2 h2 => ⟨vs.length - (i + 1), by omega, rfl, h2⟩, fun x H2 y => ?_⟩
    obtain ⟨rfl, y⟩ := y
    have hx := y vs (SqT.of (e _ _ hv))
    obtain ⟨c, hci, a, rfl, ha⟩ := Cells.at hc hx
    refine ⟨hw _, _, hi _, a, kvs, k2 c.1 c.2, rfl, e _ _ ha, hk, Evl.sz_lt (by omega), by omega, Evl.Ex.mut e hD, _, upd_same, Nat.le_trans (length_putK _ _ _) (by omega), fun r c' => ?_⟩
    rw [valV_put]
    have hm := mem_take_succ hci (r, c')
    by_cases hkk : k2 r c' = k2 c.1 c.2
    · rw [if_pos hkk]
      obtain ⟨rfl, rfl⟩ := k2_inj.mp hkk
      exact (decide_eq_true (hm.mpr (.inr rfl))).symm
    · rw [if_neg hkk, hks r c']
      have : (r, c') ≠ c := fun z => hkk (by rw [← z])
      have h2 : ((r, c') ∈ cs.take (i + 1)) = ((r, c') ∈ cs.take i) := propext ⟨fun z => (hm.mp z).resolve_right this, fun z => hm.mpr (.inl z)⟩
      simp only [h2]
  · obtain rfl : i = vs.length := by omega
    refine .inl ⟨⟨vs, SqT.of (e _ _ hv), Nat.le_refl _⟩, k D H' hD e ⟨kvs, hk, fun r c => ?_⟩⟩
    have := hks r c
    rw [hlen, List.take_length] at this
    exact this
/-! ### sum_table -/
def spSum : Sp := fun vs H Q _ => ∃ p cs, vs = [.ref p] ∧ InkAt H p cs ∧ Good cs ∧ cs ≠ [] ∧
  ∀ d kvs t l b r H2, Ex H H2 → H2 d = some (.dT kvs) → IsBox cs t l b r → (∀ r' c', t ≤ r' → r' ≤ b → l ≤ c' → c' ≤ r → valV kvs (k2 r' c') = some (.int (T cs r' c'))) → Q (.ref d) H2
theorem scSum : FnScope ["ink", "top", "left", "bottom", "right", "cells", "found", "row", "column", "sides", "corner", "cell"] ["ink"] (defScope sSumTable) := ⟨rfl, rfl, rfl, by decide +kernel, rfl, by decide +kernel, by decide +kernel⟩
/-- the corners that are done: all of the first i rows, j of the next -/
def Done (t l r : Int) (i j : Nat) (r' c' : Int) : Prop := t ≤ r' ∧ l ≤ c' ∧ c' ≤ r ∧ (r' < t + i ∨ (r' = t + i ∧ c' < l + j))
instance (t l r : Int) (i j : Nat) (r' c' : Int) : Decidable (Done t l r i j r' c') := by unfold Done; infer_instance
def Table (cs : List C2) (t l r : Int) (i j : Nat) (kvs : List (List Key × V)) : Prop := ∀ r' c', valV kvs (k2 r' c') = if Done t l r i j r' c' then some (.int (T cs r' c')) else none
theorem Table.look {cs : List C2} {t l b r : Int} (B : IsBox cs t l b r) {i j : Nat} {kvs : List (List Key × V)} (h : Table cs t l r i j kvs) {r' c' : Int} (h0 : Done t l r i j r' c' ∨ r' < t ∨ r' = t ∨ c' < l ∨ c' = l) (hd : ¬ Done t l r i j r' c' → r' < t ∨ c' < l) :
    (valV kvs (k2 r' c')).getD (.int 0) = .int (T cs r' c') := by
  rw [h r' c']
  by_cases q : Done t l r i j r' c'
  · rw [if_pos q]
    rfl
  · rw [if_neg q]
    have z : T cs r' c' = 0 := by
      rcases hd q with z | z
      · exact T_low_r fun p hp => by have := B.inn p hp; omega
      · exact T_low_c fun p hp => by have := B.inn p hp; omega
    rw [z]
    rfl
theorem ok_sum {f f1 : Addr} {fd fd1 : FuncData} (T0 : Txt mg) (D : Df K mg "sum_table" sSumTable ["ink"] f fd) (D1 : Df K mg "box_in" sBoxIn ["ink"] f1 fd1) : FnOk P w K mg base CX0 2 f fd ["ink"] spSum := by
  refine D.F.ok scSum (fun vs H Q E h => ?_) (fun cdv A outer s H vs Q E hr h => ?_)
  · obtain ⟨p, cs, rfl, _⟩ := h
    rfl
  · obtain ⟨p, cs, rfl, hp, g, hne, q⟩ := h
    have hu := hu_of hr
    refine ⟨_, pss_cons (ps_asg (pe_call (ok_boxIn T0 D1) hr (by rfl) D1.g D1.F.kp D1.b .nil pass0 (pa_cons (pv 0) pa_nil)) (pg_tup rfl (pgs_cons (pg_name (i := 1) scSum.nd rfl (.inl rfl)) (pgs_cons (pg_name (i := 2) scSum.nd rfl (.inl rfl)) (pgs_cons (pg_name (i := 3) scSum.nd rfl (.inl rfl)) (pgs_cons (pg_name (i := 4) scSum.nd rfl (.inl rfl)) pgs_nil))))))
      (pss_cons (ps_setDcT (i := 5) (own := [("cell", 11)]) hu rfl scSum.nd rfl rfl (sw_dict rfl rfl rfl (by decide +kernel)) (pi_tup (pv 0)) (blkOk_by (N := ["ink", "top", "left", "bottom", "right", "cells", "found", "row", "column", "sides", "corner", "cell"]) (sc := defScope sSumTable) (by decide +kernel)) (fun _ _ _ _ _ => pg_name (i := 11) scSum.nd rfl (.inl rfl)) (fun _ _ _ _ _ => pv 11) (fun _ _ _ _ _ => pe_bl))
      (pss_cons (ps_set (i := 6) scSum.nd rfl (.inl rfl) pe_dnewT)
      (pss_cons (ps_for PassesOwn.never rfl (pi_range2 (by rfl) T0.range (pa_cons (pv 1) (pa_cons (pe_op op_add (pv 3) pe_int) pa_nil))) (pg_name (i := 7) scSum.nd rfl (.inl rfl))
        (pss_one (ps_for PassesOwn.never rfl (pi_range2 (by rfl) T0.range (pa_cons (pv 2) (pa_cons (pe_op op_add (pv 4) pe_int) pa_nil))) (pg_name (i := 8) scSum.nd rfl (.inl rfl))
          (pss_cons (ps_set (i := 9) scSum.nd rfl (.inl rfl) (pe_op op_add (pe_dget2 hu (pv 6) (pe_tup (pa_cons (pe_op op_sub (pv 7) pe_int) (pa_cons (pv 8) pa_nil))) pe_int ⟨rfl, rfl, rfl, rfl⟩) (pe_dget2 hu (pv 6) (pe_tup (pa_cons (pv 7) (pa_cons (pe_op op_sub (pv 8) pe_int) pa_nil))) pe_int ⟨rfl, rfl, rfl, rfl⟩)))
          (pss_cons (ps_set (i := 10) scSum.nd rfl (.inl rfl) (pe_tup (pa_cons (pe_op op_sub (pv 7) pe_int) (pa_cons (pe_op op_sub (pv 8) pe_int) pa_nil))))
          (pss_one (ps_dput hu (pv 6) (pe_tup (pa_cons (pv 7) (pa_cons (pv 8) pa_nil))) (pe_op op_add (pe_op op_sub (pv 9) (pe_dget2 hu (pv 6) (pv 10) pe_int ⟨rfl, rfl, rfl, rfl⟩)) (pe_callTy call_int1 (by rfl) T0.int (by decide +kernel) (pa_cons (pe_cmp (pc_din hu (pv 10) (pv 5)) rfl) pa_nil))) rfl))))))) 
      (pss_one (ps_ret (pv 6)))))), ?_⟩
    refine ⟨_, rfl, p, cs, rfl, hp, g, hne, fun bq t l b r H1 e1 hbq B => ?_⟩
    refine ⟨bq, _, rfl, SqT.of hbq, rfl, _, _, rfl, _, _, rfl, _, _, rfl, _, _, rfl, rfl, ?_⟩
    dsimp only [tSeq, tAsg]
    refine t_cellsD rfl (hp.tx (Tx.of e1)) g.len (fun _ => rfl) (fun _ => rfl) fun dc H2 hdc e2 hcd => ?_
    intro d hd
    have bd := B.bounds g
    have hdc2 : Ex H2 (upd H2 d (.dT [])) := Evl.Ex.new hd
    refine ⟨_, rfl, _, rfl, _, _, rfl, rfl, t, b + 1, rfl, ⟨by omega, by omega, by omega, by omega⟩, for_range (lo := t) (n := (b + 1 - t).toNat)
      (fun i σ H' => ∃ x7 x8 x9 x10, σ = [some (.ref p), some (.int t), some (.int l), some (.int b), some (.int r), some (.ref dc), some (.ref d), x7, x8, x9, x10, none] ∧ Ex H2 H' ∧ ∃ kvs, H' d = some (.dT kvs) ∧ kvs.length ≤ i * 30 ∧ Table cs t l r i 0 kvs)
      ⟨none, none, none, none, rfl, hdc2, [], upd_same, by simp, fun r' c' => ?_⟩ ?_ ?_⟩
    · rw [if_neg (fun z => by unfold Done at z; omega)]
      rfl
    · rintro i σ H' hi ⟨x7, x8, x9, x10, rfl, e3, kvs, hk, hkl, tab⟩
      refine ⟨_, rfl, _, rfl, _, _, rfl, rfl, l, r + 1, rfl, ⟨by omega, by omega, by omega, by omega⟩, for_range (lo := l) (n := (r + 1 - l).toNat)
        (fun j σ H' => ∃ x8 x9 x10, σ = [some (.ref p), some (.int t), some (.int l), some (.int b), some (.int r), some (.ref dc), some (.ref d), some (.int (t + (i : Int))), x8, x9, x10, none] ∧ Ex H2 H' ∧ ∃ kvs, H' d = some (.dT kvs) ∧ kvs.length ≤ i * 30 + j ∧ Table cs t l r i j kvs)
        ⟨x8, x9, x10, rfl, e3, kvs, hk, by omega, tab⟩ ?_ ?_⟩
      · rintro j σ H' hj ⟨x8, x9, x10, rfl, e3, kvs, hk, hkl, tab⟩
        have l1 : (valV kvs (k2 (t + (i : Int) - 1) (l + (j : Int)))).getD (.int 0) = .int (T cs (t + (i : Int) - 1) (l + (j : Int))) := tab.look B (by unfold Done; omega) (fun z => by unfold Done at z; omega)
        have l2 : (valV kvs (k2 (t + (i : Int)) (l + (j : Int) - 1))).getD (.int 0) = .int (T cs (t + (i : Int)) (l + (j : Int) - 1)) := tab.look B (by unfold Done; omega) (fun z => by unfold Done at z; omega)
        have l3 : (valV kvs (k2 (t + (i : Int) - 1) (l + (j : Int) - 1))).getD (.int 0) = .int (T cs (t + (i : Int) - 1) (l + (j : Int) - 1)) := tab.look B (by unfold Done; omega) (fun z => by unfold Done at z; omega)
        -- sides
        refine ⟨_, rfl, d, rfl, .inr ⟨kvs, Rd.of hk⟩, _, rfl, _, _, rfl, rfl, _, rfl, (by show 2 ≤ sizeLine; decide), fun pa hpa => ?_⟩
        have ea := Evl.Ex.new (o := HO.tup [.int (t + (i : Int) - 1), .int (l + (j : Int))]) hpa
        refine ⟨_, DGet.t (k := k2 (t + (i : Int) - 1) (l + (j : Int))) (ea _ _ hk) upd_same, ?_⟩
        refine ⟨_, rfl, d, rfl, .inr ⟨kvs, Rd.of (ea _ _ hk)⟩, _, rfl, _, rfl, _, _, rfl, rfl, (by show 2 ≤ sizeLine; decide), fun pb hpb => ?_⟩
        have eb := ea.trans (Evl.Ex.new (o := HO.tup [.int (t + (i : Int)), .int (l + (j : Int) - 1)]) hpb)
        refine ⟨_, DGet.t (k := k2 (t + (i : Int)) (l + (j : Int) - 1)) (eb _ _ hk) upd_same, _, _, l1, l2, ?_⟩
        -- corner
        refine ⟨_, rfl, _, _, rfl, rfl, _, rfl, _, _, rfl, rfl, (by show 2 ≤ sizeLine; decide), fun pc hpc => ?_⟩
        have ec := eb.trans (Evl.Ex.new (o := HO.tup [.int (t + (i : Int) - 1), .int (l + (j : Int) - 1)]) hpc)
        -- the value
        obtain ⟨o, ho, hs⟩ := (hcd.ex (e3.trans ec)).get (b := pc) (r := t + (i : Int) - 1) (c := l + (j : Int) - 1) upd_same
        refine ⟨_, rfl, _, rfl, d, rfl, .inr ⟨kvs, Rd.of (ec _ _ hk)⟩, _, rfl, _, DGet.t (k := k2 (t + (i : Int) - 1) (l + (j : Int) - 1)) (ec _ _ hk) upd_same, _, _, rfl, l3, _, rfl, _, rfl, dc, o, rfl, ho, ?_⟩
        refine .inr ⟨o.isSome, rfl, _, (if o.isSome = true then 1 else 0), rfl, rfl, _, rfl, _, rfl, _, rfl, (by show 2 ≤ sizeLine; decide), fun pk hpk => ?_⟩
        have ek := ec.trans (Evl.Ex.new (o := HO.tup [.int (t + (i : Int)), .int (l + (j : Int))]) hpk)
        refine ⟨d, _, rfl, DPut.t (k := k2 (t + (i : Int)) (l + (j : Int))) (ek _ _ hk) upd_same (Evl.sz_lt (by omega)), ?_⟩
        refine ⟨_, _, _, rfl, Evl.Ex.mut (e3.trans ek) hd, _, upd_same, Nat.le_trans (length_putK _ _ _) (by omega), fun r' c' => ?_⟩
        have step := T_step g.nodup (t + (i : Int)) (l + (j : Int))
        have isin : isIn cs (t + (i : Int) - 1, l + (j : Int) - 1) = if o.isSome = true then 1 else 0 := by
          rw [hs]
          unfold isIn
          simp only [decide_eq_true_eq]
        rw [valV_put]
        by_cases hkk : k2 r' c' = k2 (t + (i : Int)) (l + (j : Int))
        · rw [if_pos hkk]
          obtain ⟨rfl, rfl⟩ := k2_inj.mp hkk
          have hd' : Done t l r i (j + 1) (t + (i : Int)) (l + (j : Int)) := by unfold Done; omega
          rw [if_pos hd', step, isin]
        · rw [if_neg hkk, tab r' c']
          have ne : ¬ (r' = t + (i : Int) ∧ c' = l + (j : Int)) := fun z => hkk (k2_inj.mpr z)
          have e : Done t l r i j r' c' ↔ Done t l r i (j + 1) r' c' := by
            unfold Done
            omega
          simp only [e]
      · rintro σ H' ⟨x8, x9, x10, rfl, e3, kvs, hk, hkl, tab⟩
        refine ⟨_, x8, x9, x10, rfl, e3, kvs, hk, by omega, fun r' c' => ?_⟩
        rw [tab r' c']
        have e : Done t l r i (r + 1 - l).toNat r' c' ↔ Done t l r (i + 1) 0 r' c' := by
          unfold Done
          omega
        simp only [e]
    · rintro σ H' ⟨x7, x8, x9, x10, rfl, e3, kvs, hk, hkl, tab⟩
      refine ⟨_, rfl, q d kvs t l b r H' ((e1.trans e2).trans e3) hk B fun r' c' h1 h2 h3 h4 => ?_⟩
      rw [tab r' c', if_pos]
      unfold Done
      omega
end
end Gk

/-! is_box, count_in -/
namespace Gk
open PySem PySem.Spec PyProof.Rows L2
open Evl (Ex given)
/-! ### inks as data -/
def pairD (c : C2) : PyData := .tuple [.int c.1, .int c.2]
theorem dp_pair {K : PySem.W.Frag} {H : Hp} {v : V} {c : C2} (h : Pair2 H v c) : Dp K H v (pairD c) := by
  obtain ⟨a, rfl, ha⟩ := h
  exact .tup (SqT.of ha) (.cons (.int _) (.cons (.int _) .nil))
theorem dp_cells {K : PySem.W.Frag} {H : Hp} : ∀ {vs : List V} {cs : List C2}, Cells H vs cs → DpAll K H vs (cs.map pairD)
  | _, _, .nil => .nil
  | _, _, .cons h t => .cons (dp_pair h) (dp_cells t)
theorem lay_pairs : ∀ cs : List C2, PyData.canLayAll0 (cs.map pairD) = true ∧ PyData.depthAll (cs.map pairD) ≤ 1
  | [] => by simp [PyData.canLayAll0, PyData.depthAll]
  | c :: cs => by
    have h := lay_pairs cs
    have d : (pairD c).depth = 1 := rfl
    have l : (pairD c).canLay0 = true := rfl
    simp only [List.map_cons, PyData.canLayAll0, PyData.depthAll]
    rw [d, l, h.1]
    exact ⟨rfl, by omega⟩
theorem shaped_ink (cs : List C2) : SeqAt.shaped (.tuple (cs.map pairD)) = true := by
  have h := lay_pairs cs
  have l : (PyData.tuple (cs.map pairD)).canLay0 = PyData.canLayAll0 (cs.map pairD) := by simp only [PyData.canLay0]
  have d : (PyData.tuple (cs.map pairD)).depth = PyData.depthAll (cs.map pairD) + 1 := by simp only [PyData.depth]
  unfold SeqAt.shaped
  rw [l, d, h.1, decide_eq_true (by omega)]
  rfl
theorem eqv_ink (cs : List C2) : PyData.eqv (.tuple (cs.map pairD)) (.tuple []) = cs.isEmpty := by
  cases cs with
  | nil => simp [PyData.eqv, PyData.eqvAll]
  | cons c cs => simp [PyData.eqv, PyData.eqvAll]
/-- ink == () -/
theorem rv_empty {K : PySem.W.Frag} {H : Hp} {p q : Addr} {cs : List C2} {Q : VK} (hp : InkAt H p cs) (hq : H q = some (.tup [])) (h : Q (.bl cs.isEmpty) H) : rEqD K (.ref p) (.ref q) H Q := by
  obtain ⟨vs, e1, e2⟩ := hp
  refine ⟨.tuple (cs.map pairD), .tuple [], .tup (SqT.of e1) (dp_cells e2), .tup (SqT.of hq) .nil, shaped_ink cs, by decide +kernel, ?_⟩
  rw [eqv_ink]
  exact h
/-! ### is_box -/
def ltV (a b : V) : Bool := match a, b with
  | .int i, .int j => decide (i < j)
  | _, _ => false
def boxB (v0 v1 v2 v3 : V) : Bool := inR v0 && inR v1 && (inR v2 && inR v3) && (ltV v0 v2 && ltV v1 v3)
def NotFour (K : PySem.W.Frag) (H : Hp) (x : V) : Prop := (∃ a xs, x = .ref a ∧ H a = some (.tup xs) ∧ xs.length ≠ 4) ∨ ∃ T, Kd K H x T ∧ T ≠ "tuple"
theorem inR_int {v : V} (s : Scal v) (h : inR v = true) : ∃ i, v = .int i ∧ -60 ≤ i ∧ i ≤ 60 := by
  rcases s with ⟨i, rfl⟩ | ⟨b, rfl⟩
  · have h' : (decide (-60 ≤ i) && decide (i ≤ 60)) = true := h
    simp only [Bool.and_eq_true, decide_eq_true_eq] at h'
    exact ⟨i, rfl, h'⟩
  · cases (show false = true from h)
def spIsBox (K : PySem.W.Frag) : Sp := fun vs H Q _ => ∃ x, vs = [x] ∧
  ((∃ a v0 v1 v2 v3, x = .ref a ∧ H a = some (.tup [v0, v1, v2, v3]) ∧ (Scal v0 ∧ Scal v1 ∧ Scal v2 ∧ Scal v3) ∧ ∀ H2, Ex H H2 → Q (.bl (boxB v0 v1 v2 v3)) H2) ∨ (NotFour K H x ∧ ∀ H2, Ex H H2 → Q (.bl false) H2))
section
variable {P : Program} {w : World} {K : PySem.W.Frag} {mg : Str → Option Value} {base : Heap}
theorem scIsBox : FnScope ["value"] ["value"] (defScope sIsBox) := ⟨rfl, rfl, rfl, by decide +kernel, rfl, by decide +kernel, by decide +kernel⟩
theorem ok_isBox {f f1 f2 f3 f4 : Addr} {fd fd1 fd2 fd3 fd4 : FuncData} (T : Txt mg) (D : Df K mg "is_box" sIsBox ["value"] f fd) (D1 : Df K mg "is_integer" sIsInteger ["value"] f1 fd1) (D2 : Df K mg "is_in" sIsIn ["value", "least", "most"] f2 fd2)
    (D3 : Df K mg "is_list" sIsList ["value", "least", "most"] f3 fd3) (D4 : Df K mg "is_cell" sIsCell ["value"] f4 fd4) : FnOk P w K mg base CX0 4 f fd ["value"] (spIsBox K) := by
  refine D.F.ok scIsBox (fun vs H Q E h => ?_) (fun cdv A outer s H vs Q E hr h => ?_)
  · obtain ⟨x, rfl, _⟩ := h
    rfl
  · obtain ⟨x, rfl, hx⟩ := h
    have hr1 : Room 1 _ := hr.mono (by decide)
    refine ⟨_, pss_cons (ps_if (PW.pt (pw_or (pt_not (pt_val (pe_call (ok_isList T D3) hr1 (by rfl) D3.g D3.F.kp D3.b .nil pass0 (pa_cons (pv 0) (pa_cons pe_int (pa_cons pe_int pa_nil))))))
        (pw_or (pt_not (pt_val (pe_call (ok_isCell T D4 D1 D2 D3) hr (by rfl) D4.g D4.F.kp D4.b .nil pass0 (pa_cons (pe_slice sl_tup (pv 0) po_none (po_some pe_int)) pa_nil))))
          (pw_or1 (pt_not (pt_val (pe_call (ok_isCell T D4 D1 D2 D3) hr (by rfl) D4.g D4.F.kp D4.b .nil pass0 (pa_cons (pe_tup (pa_cons (pe_ix ix_tup (pv 0) pe_int (fun _ _ => rfl)) (pa_cons (pe_ix ix_tup (pv 0) pe_int (fun _ _ => rfl)) pa_nil))) pa_nil)))))))) (pss_one (ps_ret pe_bl)) pss_nil)
      (pss_one (ps_ret (pe_and (pe_cmpR op_lt (pe_ix ix_tup (pv 0) pe_int (fun _ _ => rfl)) (pe_ix ix_tup (pv 0) pe_int (fun _ _ => rfl)) (nomark _)) (pe_one (pe_cmpR op_lt (pe_ix ix_tup (pv 0) pe_int (fun _ _ => rfl)) (pe_ix ix_tup (pv 0) pe_int (fun _ _ => rfl)) (nomark _)))))), ?_⟩
    rcases hx with ⟨a, v0, v1, v2, v3, rfl, ha, ⟨s0, s1, s2, s3⟩, q⟩ | ⟨hn, q⟩
    · refine ⟨_, rfl, _, _, _, rfl, .inl ⟨a, _, rfl, ha, _, rfl, ?_⟩⟩
      refine iteF ?_
      -- value[:2]
      refine ⟨_, rfl, _, rfl, a, [v0, v1, v2, v3], rfl, SqT.of ha, (by show ¬ (HT.sIx 4 0 none = 0 ∧ HT.sIx 4 4 (some 2) = 4); decide), fun p1 hp1 => ?_⟩
      have e1 : Ex H (upd H p1 (.tup [v0, v1])) := Evl.Ex.new hp1
      refine ⟨p1, v0, v1, rfl, upd_same, s0, s1, _, rfl, ?_⟩
      cases h01 : inR v0 && inR v1 with
      | false =>
        refine iteT (iteT ?_)
        have : boxB v0 v1 v2 v3 = false := by unfold boxB; rw [h01]; rfl
        rw [this] at q
        exact q _ e1
      | true =>
        refine iteF ?_
        have ha1 := e1 _ _ ha
        refine ⟨_, rfl, a, _, _, _, rfl, rfl, SqT.of ha1, atI_nat (j := 2) rfl, _, rfl, a, _, _, _, rfl, rfl, SqT.of ha1, atI_nat (j := 3) rfl, (by show 2 ≤ sizeLine; decide), fun p2 hp2 => ?_⟩
        have e2 := e1.trans (Evl.Ex.new (o := HO.tup [v2, v3]) hp2)
        refine ⟨p2, v2, v3, rfl, upd_same, s2, s3, _, rfl, ?_⟩
        cases h23 : inR v2 && inR v3 with
        | false =>
          refine iteT ?_
          have : boxB v0 v1 v2 v3 = false := by unfold boxB; rw [h01, h23]; rfl
          rw [this] at q
          exact q _ e2
        | true =>
          refine iteF ?_
          have ha2 := e2 _ _ ha
          simp only [Bool.and_eq_true] at h01 h23
          obtain ⟨i0, rfl, _⟩ := inR_int s0 h01.1
          obtain ⟨i1, rfl, _⟩ := inR_int s1 h01.2
          obtain ⟨i2, rfl, _⟩ := inR_int s2 h23.1
          obtain ⟨i3, rfl, _⟩ := inR_int s3 h23.2
          have eb : boxB (.int i0) (.int i1) (.int i2) (.int i3) = (decide (i0 < i2) && decide (i1 < i3)) := by
            unfold boxB
            rw [h01.1, h01.2, h23.1, h23.2]
            rfl
          have q2 := q _ e2
          rw [eb] at q2
          refine ⟨_, rfl, a, _, _, _, rfl, rfl, SqT.of ha2, atI_nat (j := 0) rfl, _, rfl, a, _, _, _, rfl, rfl, SqT.of ha2, atI_nat (j := 2) rfl, _, _, rfl, rfl, _, rfl, ?_⟩
          cases h02 : decide (i0 < i2) with
          | false =>
            rw [h02] at q2
            exact iteF q2
          | true =>
            rw [h02] at q2
            exact iteT ⟨_, rfl, a, _, _, _, rfl, rfl, SqT.of ha2, atI_nat (j := 1) rfl, _, rfl, a, _, _, _, rfl, rfl, SqT.of ha2, atI_nat (j := 3) rfl, _, _, rfl, rfl, q2⟩
    · have q0 := q H (Evl.Ex.refl H)
      rcases hn with ⟨a, xs, rfl, ha, hl⟩ | ⟨T', hk, hne⟩
      · refine ⟨_, rfl, _, _, _, rfl, .inl ⟨a, _, rfl, ha, _, rfl, ?_⟩⟩
        have e : (decide ((4 : Int) ≤ (xs.length : Int)) && decide ((xs.length : Int) ≤ 4)) = false := by
          by_cases h1 : (4 : Int) ≤ (xs.length : Int)
          · rw [decide_eq_true h1, decide_eq_false (by omega)]
            rfl
          · rw [decide_eq_false h1]
            rfl
        rw [e]
        exact iteT (iteT q0)
      · exact ⟨_, rfl, _, _, _, rfl, .inr ⟨T', hk, hne, _, rfl, iteT (iteT q0)⟩⟩
end
end Gk

/-! count_in -/
namespace Gk
open PySem PySem.Spec PyProof.Rows L2
open Evl (Ex given)
/-- a comprehension over a tuple that is made for it -/
theorem lc_overU {K : PySem.W.Frag} {vs : List V} {σ : L2.St} {H : Hp} {own : List Nat} {g : TG} {tt : TT} {te tl : TE} {Q : VK} (f : Nat → Bool) (v : Nat → V) (ht : ∀ R : VK, (∀ a H1, Ex H H1 → H1 a = some (.tup vs) → R (.ref a) H1) → tl σ H R) (hz : vs.length ≤ 40000)
    (turn : ∀ i x H', vs[i]? = some x → Ex H H' → TurnLc g tt te own σ x (f i) (v i) H') (k : ∀ D H', Ex H H' → H' D = some (.lst (given vs.length f v)) → Q (.ref D) H') : tLc (iTup K tl) g tt te own σ H Q :=
  ht _ fun a H1 e1 hv => ⟨a, rfl, ⟨vs, SqT.of hv⟩, fun D hD => lc_tup (xs := vs) (Evl.Cw H1 f v D) ⟨hD, Evl.Ex.new hD, upd_same⟩ (fun i H' _ p => SqT.of (p.2.1 a _ hv))
    (fun i x H' hi p => lc_step (by have := (List.getElem?_eq_some_iff.mp hi).1; omega) p (turn i x H' hi (e1.trans p.2.1))) fun H' p => k D H' (e1.trans p.2.1) p.2.2⟩
theorem yes_of {te : TE} {σ : L2.St} {H : Hp} {A : V → Hp → Prop} {B : Hp → Prop} (h : te σ H A) : tYes σ H fun b H3 => if b = true then te σ H3 A else B H3 := by
  show if true = true then te σ H A else B H
  exact iteT h
/-- an own error's class -/
structure Exn (K : PySem.W.Frag) (mg : Str → Option Value) (x : Str) (C : Addr) : Prop where
  g : mg x = some (.ref C)
  x : PySem.W.excIn K C [.type "ValueError", .type "Exception", .type "BaseException", .type "object"] "ValueError.__new__" = true
  k : PySem.W.keepIn K (.ref C) = true
  b : PySem.W.subIn K (.ref C) (.type "BaseException") = some true
  t : PySem.W.typeIn K (.ref C) = some (.type "type")
/-- into lo .. hi -/
def clip (x lo hi : Int) : Int := if hi < (if lo > x then lo else x) then hi else (if lo > x then lo else x)
theorem clip_in {x lo hi : Int} (h : lo ≤ hi) : lo ≤ clip x lo hi ∧ clip x lo hi ≤ hi := by
  unfold clip
  split <;> split <;> omega
theorem clip_lt {x lo hi p : Int} (h1 : lo ≤ p) (h2 : p < hi) : p < clip x lo hi ↔ p < x := by
  unfold clip
  split <;> split <;> omega
/-- what is no box -/
def BadBox (K : PySem.W.Frag) (H : Hp) (x : V) : Prop := (∃ a v0 v1 v2 v3, x = .ref a ∧ H a = some (.tup [v0, v1, v2, v3]) ∧ (Scal v0 ∧ Scal v1 ∧ Scal v2 ∧ Scal v3) ∧ boxB v0 v1 v2 v3 = false) ∨ NotFour K H x
theorem NotFour.ex {K : PySem.W.Frag} {H H' : Hp} {x : V} (hT : ∀ T, Kd K H x T → Kd K H' x T) (e : Ex H H') (h : NotFour K H x) : NotFour K H' x := by
  rcases h with ⟨a, xs, h1, h2, h3⟩ | ⟨T, h1, h2⟩
  · exact .inl ⟨a, xs, h1, e _ _ h2, h3⟩
  · exact .inr ⟨T, hT T h1, h2⟩
theorem TyX.exG {K : PySem.W.Frag} {H H' : Hp} {x : V} {T : Value} (e : Ex H H') (h : TyX K H x T) : TyX K H' x T := by
  cases h with
  | base b =>
    cases b with
    | non => exact .base .non
    | bl y => exact .base (.bl y)
    | int i => exact .base (.int i)
    | str y => exact .base (.str y)
    | flt y => exact .base (.flt y)
    | lst ea => exact .base (.lst (e _ _ ea))
    | frz ea => exact .base (.frz (e _ _ ea))
    | tup ea => exact .base (.tup (e _ _ ea))
    | dK ea => exact .base (.dK (e _ _ ea))
    | dT ea => exact .base (.dT (e _ _ ea))
    | ins ea cl ha hn htk hm => exact .base (.ins (e _ _ ea) cl ha hn htk hm)
  | byt y => exact .byt y
  | set ea => exact .set (e _ _ ea)
  | kList k c => exact .kList k c
  | kTuple k c => exact .kTuple k c
  | kDict k c => exact .kDict k c
  | fTuple ea => exact .fTuple (e _ _ ea)
  | fDict ea => exact .fDict (e _ _ ea)
theorem Kd.ex {K : PySem.W.Frag} {H H' : Hp} {x : V} {T : String} (e : Ex H H') (h : Kd K H x T) : Kd K H' x T := ⟨TyX.exG e h.1, h.2⟩
theorem BadBox.ex {K : PySem.W.Frag} {H H' : Hp} {x : V} (e : Ex H H') (h : BadBox K H x) : BadBox K H' x := by
  rcases h with ⟨a, v0, v1, v2, v3, h1, h2, h3⟩ | h
  · exact .inl ⟨a, v0, v1, v2, v3, h1, e _ _ h2, h3⟩
  · exact .inr (NotFour.ex (fun T => Kd.ex e) e h)
theorem getT {H : Hp} {d b : Addr} {kvs : List (List Key × V)} {r c : Int} {v : V} (hd : H d = some (.dT kvs)) (hb : H b = some (.tup [.int r, .int c])) (h : valV kvs (k2 r c) = some v) : DGet H d (.ref b) (some v) := by
  have z := DGet.t (k := k2 r c) hd hb
  rw [h] at z
  exact z
def spCountIn (K : PySem.W.Frag) (CB : Addr) : Sp := fun vs H Q E => ∃ p cs x, vs = [.ref p, x] ∧ InkAt H p cs ∧ Good cs ∧
  ((∃ a t l b r, x = .ref a ∧ H a = some (.tup [.int t, .int l, .int b, .int r]) ∧ (-60 ≤ t ∧ t < b ∧ b ≤ 60) ∧ (-60 ≤ l ∧ l < r ∧ r ≤ 60) ∧ ∀ H2, Ex H H2 → Q (.int (cnt cs t l b r)) H2) ∨ (BadBox K H x ∧ ∀ H2, Ex H H2 → E (.ref CB) none H2))
section
variable {P : Program} {w : World} {K : PySem.W.Frag} {mg : Str → Option Value} {base : Heap}
theorem scCountIn : FnScope ["ink", "box", "top", "left", "bottom", "right", "table", "rows", "columns", "outer", "row", "column"] ["ink", "box"] (defScope sCountIn) := ⟨rfl, rfl, rfl, by decide +kernel, rfl, by decide +kernel, by decide +kernel⟩
theorem ok_countIn {f f1 f2 f3 f4 f5 f6 f7 f8 CB : Addr} {fd fd1 fd2 fd3 fd4 fd5 fd6 fd7 fd8 : FuncData} (T0 : Txt mg) (D : Df K mg "count_in" sCountIn ["ink", "box"] f fd) (D1 : Df K mg "is_integer" sIsInteger ["value"] f1 fd1) (D2 : Df K mg "is_in" sIsIn ["value", "least", "most"] f2 fd2)
    (D3 : Df K mg "is_list" sIsList ["value", "least", "most"] f3 fd3) (D4 : Df K mg "is_cell" sIsCell ["value"] f4 fd4) (D5 : Df K mg "need_ink" sNeedInk ["value"] f5 fd5) (D6 : Df K mg "is_box" sIsBox ["value"] f6 fd6) (D7 : Df K mg "box_in" sBoxIn ["ink"] f7 fd7)
    (D8 : Df K mg "sum_table" sSumTable ["ink"] f8 fd8) (B0 : Exn K mg "BadNumber" CB) : FnOk P w K mg base (L2.CX P w) 5 f fd ["ink", "box"] (spCountIn K CB) := by
  refine D.F.okX scCountIn (fun vs H Q E h => ?_) (fun cdv A outer s H vs Q E hr h => ?_)
  · obtain ⟨p, cs, x, rfl, _⟩ := h
    rfl
  · obtain ⟨p, cs, x, rfl, hp, g, hx⟩ := h
    have hu := hu_of hr
    have hr1 : Room 1 _ := hr.mono (by decide)
    have hr2 : Room 2 _ := hr.mono (by decide)
    refine ⟨_, pss_cons (ps_expr (pe_call (ok_need T0 D5 D1 D2 D3 D4) hr (by rfl) D5.g D5.F.kp D5.b .nil pass0 (pa_cons (pv 0) pa_nil)))
      (pss_cons (ps_if (pt_not (pt_val (pe_call (ok_isBox T0 D6 D1 D2 D3 D4) hr (by rfl) D6.g D6.F.kp D6.b .nil pass0 (pa_cons (pv 1) pa_nil)))) (pss_one (ps_raise rfl (takes_of rfl rfl rfl rfl) (pmk_own0 PySem.F.excBase_ValueError B0.x B0.g B0.k (raises_own B0.b B0.t) (by rfl)))) pss_nil)
      (pss_cons (ps_if (pt_cmpR (op_eqD hr.units) (pv 0) (pe_tup pa_nil) (nomark _)) (pss_one (ps_ret pe_int)) pss_nil)
      (pss_cons (ps_asg (pe_call (ok_boxIn T0 D7) hr1 (by rfl) D7.g D7.F.kp D7.b .nil pass0 (pa_cons (pv 0) pa_nil)) (pg_tup rfl (pgs_cons (pg_name (i := 2) scCountIn.nd rfl (.inr rfl)) (pgs_cons (pg_name (i := 3) scCountIn.nd rfl (.inr rfl)) (pgs_cons (pg_name (i := 4) scCountIn.nd rfl (.inr rfl)) (pgs_cons (pg_name (i := 5) scCountIn.nd rfl (.inr rfl)) pgs_nil))))))
      (pss_cons (ps_set (i := 6) scCountIn.nd rfl (.inl rfl) (pe_call (ok_sum T0 D8 D7) hr2 (by rfl) D8.g D8.F.kp D8.b .nil pass0 (pa_cons (pv 0) pa_nil)))
      (pss_cons (ps_setLc (i := 7) (own := [("row", 10)]) (g := gName 10) (tt := tYes) rfl scCountIn.nd rfl rfl (sw_true rfl rfl rfl (by decide +kernel)) (pi_tup (pe_tup (pa_cons (pe_ix ix_tup (pv 1) pe_int (fun _ _ => rfl)) (pa_cons (pe_ix ix_tup (pv 1) pe_int (fun _ _ => rfl)) pa_nil))))
        (blkOk_by (N := ["ink", "box", "top", "left", "bottom", "right", "table", "rows", "columns", "outer", "row", "column"]) (sc := defScope sCountIn) (by decide +kernel)) (fun _ _ _ _ _ => pg_name (i := 10) scCountIn.nd rfl (.inl rfl)) (fun _ _ _ _ _ => pts_nil)
        (fun _ _ _ _ _ => pe_callB (call_min2 rfl) (by rfl) T0.min (by decide +kernel) (pa_cons (pe_callB (call_max2 rfl) (by rfl) T0.max (by decide +kernel) (pa_cons (pv 10) (pa_cons (pv 2) pa_nil))) (pa_cons (pv 4) pa_nil))))
      (pss_cons (ps_setLc (i := 8) (own := [("column", 11)]) (g := gName 11) (tt := tYes) rfl scCountIn.nd rfl rfl (sw_true rfl rfl rfl (by decide +kernel)) (pi_tup (pe_tup (pa_cons (pe_ix ix_tup (pv 1) pe_int (fun _ _ => rfl)) (pa_cons (pe_ix ix_tup (pv 1) pe_int (fun _ _ => rfl)) pa_nil))))
        (blkOk_by (N := ["ink", "box", "top", "left", "bottom", "right", "table", "rows", "columns", "outer", "row", "column"]) (sc := defScope sCountIn) (by decide +kernel)) (fun _ _ _ _ _ => pg_name (i := 11) scCountIn.nd rfl (.inl rfl)) (fun _ _ _ _ _ => pts_nil)
        (fun _ _ _ _ _ => pe_callB (call_min2 rfl) (by rfl) T0.min (by decide +kernel) (pa_cons (pe_callB (call_max2 rfl) (by rfl) T0.max (by decide +kernel) (pa_cons (pv 11) (pa_cons (pv 3) pa_nil))) (pa_cons (pv 5) pa_nil))))
      (pss_cons (ps_set (i := 9) scCountIn.nd rfl (.inl rfl) (pe_op op_sub (pe_dget hu (pv 6) (pe_tup (pa_cons (pe_ix ix_list (pv 7) pe_int (fun _ _ => rfl)) (pa_cons (pe_ix ix_list (pv 8) pe_int (fun _ _ => rfl)) pa_nil))) (fun _ _ => rfl))
        (pe_dget hu (pv 6) (pe_tup (pa_cons (pe_ix ix_list (pv 7) pe_int (fun _ _ => rfl)) (pa_cons (pe_ix ix_list (pv 8) pe_int (fun _ _ => rfl)) pa_nil))) (fun _ _ => rfl))))
      (pss_one (ps_ret (pe_op op_add (pe_op op_sub (pv 9) (pe_dget hu (pv 6) (pe_tup (pa_cons (pe_ix ix_list (pv 7) pe_int (fun _ _ => rfl)) (pa_cons (pe_ix ix_list (pv 8) pe_int (fun _ _ => rfl)) pa_nil))) (fun _ _ => rfl)))
        (pe_dget hu (pv 6) (pe_tup (pa_cons (pe_ix ix_list (pv 7) pe_int (fun _ _ => rfl)) (pa_cons (pe_ix ix_list (pv 8) pe_int (fun _ _ => rfl)) pa_nil))) (fun _ _ => rfl)))))))))))), ?_⟩
    refine ⟨_, rfl, p, cs, rfl, hp, g, fun H1 e1 => ?_⟩
    rcases hx with ⟨a, t, l, b, r, rfl, ha, ⟨ht0, htb, hb6⟩, ⟨hl0, hlr, hr6⟩, q⟩ | ⟨bad, q⟩
    · have eb : boxB (.int t) (.int l) (.int b) (.int r) = true := by
        show ((decide (-60 ≤ t) && decide (t ≤ 60)) && (decide (-60 ≤ l) && decide (l ≤ 60)) && ((decide (-60 ≤ b) && decide (b ≤ 60)) && (decide (-60 ≤ r) && decide (r ≤ 60))) && (decide (t < b) && decide (l < r))) = true
        simp only [Bool.and_eq_true, decide_eq_true_eq]
        omega
      refine ⟨_, rfl, _, rfl, .inl ⟨a, _, _, _, _, rfl, e1 _ _ ha, ⟨.inl ⟨_, rfl⟩, .inl ⟨_, rfl⟩, .inl ⟨_, rfl⟩, .inl ⟨_, rfl⟩⟩, fun H2 e2 => ?_⟩⟩
      rw [eb]
      refine ⟨_, rfl, iteF ?_⟩
      have e12 := e1.trans e2
      refine ⟨_, rfl, Nat.zero_le _, fun em hem => ?_⟩
      have e3 := e12.trans (Evl.Ex.new (o := HO.tup []) hem)
      refine rv_empty (hp.tx (Tx.of e3)) upd_same ⟨_, rfl, ?_⟩
      cases hcs : cs.isEmpty with
      | true =>
        have : cs = [] := List.isEmpty_iff.mp hcs
        subst this
        exact iteT (q _ e3)
      | false =>
        refine iteF ?_
        have hne : cs ≠ [] := fun z => by rw [z] at hcs; cases hcs
        refine ⟨_, rfl, p, cs, rfl, hp.tx (Tx.of e3), g, hne, fun bq T' L' B' R' H4 e4 hbq bx => ?_⟩
        refine ⟨bq, _, rfl, SqT.of hbq, rfl, _, _, rfl, _, _, rfl, _, _, rfl, _, _, rfl, rfl, ?_⟩
        have e34 := e3.trans e4
        refine ⟨_, rfl, p, cs, rfl, hp.tx (Tx.of e34), g, hne, fun d kvs T2 L2' B2 R2' H5 e5 hd bx2 tab => ?_⟩
        obtain ⟨rfl, rfl, rfl, rfl⟩ := bx.one bx2
        have bd := bx.bounds g
        have e35 := e34.trans e5
        have ha5 := e35 _ _ ha
        dsimp only [gName, tSeq, tAsg]
        refine lc_overU (f := fun _ => true) (v := fun i => .int (clip (([t, b] : List Int).getD i 0) T' B')) (vs := [.int t, .int b]) (fun R h => ⟨_, rfl, a, _, _, _, rfl, rfl, SqT.of ha5, atI_nat (j := 0) rfl, _, rfl, a, _, _, _, rfl, rfl, SqT.of ha5, atI_nat (j := 2) rfl, (by show 2 ≤ sizeLine; decide), fun pa hpa => h pa _ (Evl.Ex.new hpa) upd_same⟩) (by show 2 ≤ 40000; decide) (fun i x H' hi e A B hA _ => ?_) fun R7 H6 e6 h7 => ?_
        · refine ⟨rfl, ?_⟩
          have hx : x = .int (([t, b] : List Int).getD i 0) := by
            match i, hi with
            | 0, hi => exact (Option.some.inj hi).symm
            | 1, hi => exact (Option.some.inj hi).symm
            | i + 2, hi => cases hi
          subst hx
          exact yes_of ⟨_, rfl, _, rfl, _, _, rfl, _, rfl, _, _, rfl, hA rfl H' (Evl.Ex.refl H')⟩
        have e36 := e35.trans e6
        have ha6 := e6 _ _ ha5
        refine lc_overU (f := fun _ => true) (v := fun i => .int (clip (([l, r] : List Int).getD i 0) L' R')) (vs := [.int l, .int r]) (fun R h => ⟨_, rfl, a, _, _, _, rfl, rfl, SqT.of ha6, atI_nat (j := 1) rfl, _, rfl, a, _, _, _, rfl, rfl, SqT.of ha6, atI_nat (j := 3) rfl, (by show 2 ≤ sizeLine; decide), fun pa hpa => h pa _ (Evl.Ex.new hpa) upd_same⟩) (by show 2 ≤ 40000; decide) (fun i x H' hi e A B hA _ => ?_) fun R8 H7 e7 h8 => ?_
        · refine ⟨rfl, ?_⟩
          have hx : x = .int (([l, r] : List Int).getD i 0) := by
            match i, hi with
            | 0, hi => exact (Option.some.inj hi).symm
            | 1, hi => exact (Option.some.inj hi).symm
            | i + 2, hi => cases hi
          subst hx
          exact yes_of ⟨_, rfl, _, rfl, _, _, rfl, _, rfl, _, _, rfl, hA rfl H' (Evl.Ex.refl H')⟩
        have e37 := e36.trans e7
        have hd7 : H7 d = some (.dT kvs) := e7 _ _ (e6 _ _ hd)
        have h7' : H7 R7 = some (.lst [.int (clip t T' B'), .int (clip b T' B')]) := e7 _ _ h7
        have h8' : H7 R8 = some (.lst [.int (clip l L' R'), .int (clip r L' R')]) := h8
        have ct := clip_in (x := t) (lo := T') (hi := B') (by omega)
        have cb := clip_in (x := b) (lo := T') (hi := B') (by omega)
        have cl := clip_in (x := l) (lo := L') (hi := R') (by omega)
        have cr := clip_in (x := r) (lo := L') (hi := R') (by omega)
        have same : ∀ x y, T cs (clip x T' B') (clip y L' R') = T cs x y := fun x y => T_same fun p hp' => by
          have i := bx.inn p hp'
          exact ⟨clip_lt i.1.1 i.1.2, clip_lt i.2.1 i.2.2⟩
        -- outer
        refine ⟨_, rfl, _, rfl, R7, _, _, _, rfl, rfl, SqL.of h7', atI_nat (j := 1) rfl, _, rfl, R8, _, _, _, rfl, rfl, SqL.of h8', atI_nat (j := 1) rfl, (by show 2 ≤ sizeLine; decide), fun pa hpa => ?_⟩
        have ea := Evl.Ex.new (o := HO.tup [.int (clip b T' B'), .int (clip r L' R')]) hpa
        refine ⟨d, _, rfl, getT (ea _ _ hd7) upd_same (tab _ _ cb.1 cb.2 cr.1 cr.2), ?_⟩
        refine ⟨_, rfl, _, rfl, R7, _, _, _, rfl, rfl, SqL.of (ea _ _ h7'), atI_nat (j := 0) rfl, _, rfl, R8, _, _, _, rfl, rfl, SqL.of (ea _ _ h8'), atI_nat (j := 1) rfl, (by show 2 ≤ sizeLine; decide), fun pb hpb => ?_⟩
        have eb := ea.trans (Evl.Ex.new (o := HO.tup [.int (clip t T' B'), .int (clip r L' R')]) hpb)
        refine ⟨d, _, rfl, getT (eb _ _ hd7) upd_same (tab _ _ ct.1 ct.2 cr.1 cr.2), _, _, rfl, rfl, ?_⟩
        -- the answer
        refine ⟨_, rfl, _, rfl, _, rfl, R7, _, _, _, rfl, rfl, SqL.of (eb _ _ h7'), atI_nat (j := 1) rfl, _, rfl, R8, _, _, _, rfl, rfl, SqL.of (eb _ _ h8'), atI_nat (j := 0) rfl, (by show 2 ≤ sizeLine; decide), fun pc hpc => ?_⟩
        have ec := eb.trans (Evl.Ex.new (o := HO.tup [.int (clip b T' B'), .int (clip l L' R')]) hpc)
        refine ⟨d, _, rfl, getT (ec _ _ hd7) upd_same (tab _ _ cb.1 cb.2 cl.1 cl.2), _, _, rfl, rfl, ?_⟩
        refine ⟨_, rfl, _, rfl, R7, _, _, _, rfl, rfl, SqL.of (ec _ _ h7'), atI_nat (j := 0) rfl, _, rfl, R8, _, _, _, rfl, rfl, SqL.of (ec _ _ h8'), atI_nat (j := 0) rfl, (by show 2 ≤ sizeLine; decide), fun pe hpe => ?_⟩
        have ee := ec.trans (Evl.Ex.new (o := HO.tup [.int (clip t T' B'), .int (clip l L' R')]) hpe)
        refine ⟨d, _, rfl, getT (ee _ _ hd7) upd_same (tab _ _ ct.1 ct.2 cl.1 cl.2), _, _, rfl, rfl, ?_⟩
        have fin : T cs (clip b T' B') (clip r L' R') - T cs (clip t T' B') (clip r L' R') - T cs (clip b T' B') (clip l L' R') + T cs (clip t T' B') (clip l L' R') = (cnt cs t l b r : Int) := by
          rw [same, same, same, same]
          exact T_box cs (by omega) (by omega)
        show Q (.int (T cs (clip b T' B') (clip r L' R') - T cs (clip t T' B') (clip r L' R') - T cs (clip b T' B') (clip l L' R') + T cs (clip t T' B') (clip l L' R'))) _
        rw [fin]
        exact q _ (e37.trans ee)
    · refine ⟨_, rfl, _, rfl, ?_⟩
      rcases bad.ex e1 with ⟨a, v0, v1, v2, v3, rfl, ha, hs, hb⟩ | hn
      · refine .inl ⟨a, v0, v1, v2, v3, rfl, ha, hs, fun H2 e2 => ⟨_, rfl, ?_⟩⟩
        rw [hb]
        exact iteT (q H2 (e1.trans e2))
      · exact .inr ⟨hn, fun H2 e2 => ⟨_, rfl, iteT (q H2 (e1.trans e2))⟩⟩
end
end Gk

/-! greatest_box -/
namespace Gk
open PySem PySem.Spec PyProof.Rows L2
open Evl (Ex given)
def KeyAt (H : Hp) (v : V) (m : K5) : Prop := ∃ a b, v = .ref a ∧ H a = some (.tup [.int m.1, .ref b]) ∧ H b = some (.tup [.int m.2.1, .int m.2.2.1, .int m.2.2.2.1, .int m.2.2.2.2])
theorem KeyAt.tx {H H' : Hp} {v : V} {m : K5} (e : Tx H H') (h : KeyAt H v m) : KeyAt H' v m := let ⟨a, b, h1, h2, h3⟩ := h; ⟨a, b, h1, e _ _ h2, e _ _ h3⟩
theorem KeyAt.dp {K : PySem.W.Frag} {H : Hp} {v : V} {m : K5} (h : KeyAt H v m) : Dp K H v (toP m) := by
  obtain ⟨a, b, rfl, h2, h3⟩ := h
  exact .tup (SqT.of h2) (.cons (.int _) (.cons (.tup (SqT.of h3) (.cons (.int _) (.cons (.int _) (.cons (.int _) (.cons (.int _) .nil))))) .nil))
def BestV (H : Hp) (v : V) (o : Option K5) : Prop := match o with
  | none => v = .non
  | some m => KeyAt H v m
theorem BestV.tx {H H' : Hp} {v : V} {o : Option K5} (e : Tx H H') (h : BestV H v o) : BestV H' v o := by
  cases o with
  | none => exact h
  | some m => exact KeyAt.tx e h
theorem getK {H : Hp} {d : Addr} {kvs : List (Key × V)} {c : Int} {v : V} (hd : H d = some (.dK kvs)) (h : valV kvs (Sum.inl c) = some v) : DGet H d (.int c) (some v) := by
  have z := DGet.k (k := Sum.inl c) hd
  rw [h] at z
  exact z
/-- the heights, j columns of the next row done -/
def Highs (cs : List C2) (t l r : Int) (i j : Nat) (kvs : List (Key × V)) : Prop :=
  (∀ c, l ≤ c → c < l + j → c < r → valV kvs (Sum.inl c) = some (.int (hi cs t (i + 1) c))) ∧ ∀ c, l + j ≤ c → c < r → (valV kvs (Sum.inl c)).getD (.int 0) = .int (hi cs t i c)
theorem hi_succ (cs : List C2) (t : Int) (m : Nat) (c : Int) : hi cs t (m + 1) c = if (t + (m : Int), c) ∈ cs then hi cs t m c + 1 else 0 := rfl
def spGreat (CE : Addr) : Sp := fun vs H Q E => ∃ p cs, vs = [.ref p] ∧ InkAt H p cs ∧ Good cs ∧
  ((cs ≠ [] ∧ ∀ q m H2, Ex H H2 → Least cs m → H2 q = some (.tup [.int m.2.1, .int m.2.2.1, .int m.2.2.2.1, .int m.2.2.2.2]) → Q (.ref q) H2) ∨ (cs = [] ∧ ∀ H2, Ex H H2 → E (.ref CE) none H2))
section
variable {P : Program} {w : World} {K : PySem.W.Frag} {mg : Str → Option Value} {base : Heap}
theorem scGreat : FnScope ["ink", "top", "left", "bottom", "right", "cells", "high", "best", "row", "column", "low", "end", "told", "cell"] ["ink"] (defScope sGreatest) := ⟨rfl, rfl, rfl, by decide +kernel, rfl, by decide +kernel, by decide +kernel⟩
theorem ok_great {f f1 f2 f3 f4 f5 f7 CE : Addr} {fd fd1 fd2 fd3 fd4 fd5 fd7 : FuncData} (T0 : Txt mg) (D : Df K mg "greatest_box" sGreatest ["ink"] f fd) (D1 : Df K mg "is_integer" sIsInteger ["value"] f1 fd1) (D2 : Df K mg "is_in" sIsIn ["value", "least", "most"] f2 fd2)
    (D3 : Df K mg "is_list" sIsList ["value", "least", "most"] f3 fd3) (D4 : Df K mg "is_cell" sIsCell ["value"] f4 fd4) (D5 : Df K mg "need_ink" sNeedInk ["value"] f5 fd5) (D7 : Df K mg "box_in" sBoxIn ["ink"] f7 fd7)
    (E0 : Exn K mg "EmptyInk" CE) : FnOk P w K mg base (L2.CX P w) 5 f fd ["ink"] (spGreat CE) := by
  refine D.F.okX scGreat (fun vs H Q E h => ?_) (fun cdv A outer s H vs Q E hr h => ?_)
  · obtain ⟨p, cs, rfl, _⟩ := h
    rfl
  · obtain ⟨p, cs, rfl, hp, g, hx⟩ := h
    have hu := hu_of hr
    have hr1 : Room 1 _ := hr.mono (by decide)
    refine ⟨_, pss_cons (ps_expr (pe_call (ok_need T0 D5 D1 D2 D3 D4) hr (by rfl) D5.g D5.F.kp D5.b .nil pass0 (pa_cons (pv 0) pa_nil)))
      (pss_cons (ps_if (pt_cmpR (op_eqD hr.units) (pv 0) (pe_tup pa_nil) (nomark _)) (pss_one (ps_raise rfl (takes_of rfl rfl rfl rfl) (pmk_own0 PySem.F.excBase_ValueError E0.x E0.g E0.k (raises_own E0.b E0.t) (by rfl)))) pss_nil)
      (pss_cons (ps_asg (pe_call (ok_boxIn T0 D7) hr1 (by rfl) D7.g D7.F.kp D7.b .nil pass0 (pa_cons (pv 0) pa_nil)) (pg_tup rfl (pgs_cons (pg_name (i := 1) scGreat.nd rfl (.inl rfl)) (pgs_cons (pg_name (i := 2) scGreat.nd rfl (.inl rfl)) (pgs_cons (pg_name (i := 3) scGreat.nd rfl (.inl rfl)) (pgs_cons (pg_name (i := 4) scGreat.nd rfl (.inl rfl)) pgs_nil))))))
      (pss_cons (ps_par3 (i := 5) (j := 6) (l := 7) (by rfl) scGreat.nd rfl rfl rfl (by decide) (by decide) (by decide) rfl rfl rfl (pa_cons (pe_dcT (own := [("cell", 13)]) (g := gName 13) hu (by rfl) scGreat.nd (pi_tup (pv 0))
            (blkOk_by (N := ["ink", "top", "left", "bottom", "right", "cells", "high", "best", "row", "column", "low", "end", "told", "cell"]) (sc := defScope sGreatest) (by decide +kernel)) (fun _ _ _ _ _ => pg_name (i := 13) scGreat.nd rfl (.inl rfl)) (fun _ _ _ _ _ => pv 13) (fun _ _ _ _ _ => pe_bl))
          (pa_cons pe_dnewK (pa_cons pe_non pa_nil))) (by rfl))
      (pss_cons (ps_for (passes_of rfl) rfl (pi_range2 (by rfl) T0.range (pa_cons (pv 1) (pa_cons (pv 3) pa_nil))) (pg_name (i := 8) scGreat.nd rfl (.inl rfl))
        (pss_cons (ps_for (passes_of rfl) rfl (pi_range2 (by rfl) T0.range (pa_cons (pv 2) (pa_cons (pv 4) pa_nil))) (pg_name (i := 9) scGreat.nd rfl (.inl rfl))
          (pss_one (ps_dput hu (pv 6) (pv 9) (pe_ifExp (pt_cmp (pc_din hu (pe_tup (pa_cons (pv 8) (pa_cons (pv 9) pa_nil))) (pv 5))) (pe_op op_add (pe_dget2 hu (pv 6) (pv 9) pe_int ⟨rfl, rfl, rfl, rfl⟩) pe_int) pe_int) rfl)))
        (pss_one (ps_for (passes_of rfl) rfl (pi_range2 (by rfl) T0.range (pa_cons (pv 2) (pa_cons (pv 4) pa_nil))) (pg_name (i := 9) scGreat.nd rfl (.inl rfl))
          (pss_cons (ps_set (i := 10) scGreat.nd rfl (.inl rfl) (pe_dget hu (pv 6) (pv 9) (fun _ _ => rfl)))
          (pss_one (ps_for (passes_of rfl) rfl (pi_range2 (by rfl) T0.range (pa_cons (pv 9) (pa_cons (pv 4) pa_nil))) (pg_name (i := 11) scGreat.nd rfl (.inl rfl))
            (pss_cons (ps_set (i := 10) scGreat.nd rfl (.inl rfl) (pe_callB (call_min2 rfl) (by rfl) T0.min (by decide +kernel) (pa_cons (pv 10) (pa_cons (pe_dget hu (pv 6) (pv 11) (fun _ _ => rfl)) pa_nil))))
            (pss_one (ps_if (pt_cmpR op_gt (pv 10) pe_int (nomark _))
              (pss_cons (ps_set (i := 12) scGreat.nd rfl (.inl rfl) (pe_tup (pa_cons (pe_op op_mul (pe_un un_neg (pv 10)) (pe_op op_sub (pe_op op_add (pv 11) pe_int) (pv 9)))
                  (pa_cons (pe_tup (pa_cons (pe_op op_sub (pe_op op_add (pv 8) pe_int) (pv 10)) (pa_cons (pv 9) (pa_cons (pe_op op_add (pv 8) pe_int) (pa_cons (pe_op op_add (pv 11) pe_int) pa_nil))))) pa_nil))))
              (pss_one (ps_set (i := 7) scGreat.nd rfl (.inl rfl) (pe_ifExp (pt_cmp (pc_isN (pv 7))) (pv 12) (pe_callB (cr_minKey2 rfl hr.units) (by rfl) T0.min (by decide +kernel) (pa_cons (pv 7) (pa_cons (pv 12) pa_nil))))))) pss_nil))))))))))
      (pss_one (ps_ret (pe_ix ix_tup (pv 7) pe_int (fun _ _ => rfl)))))))), ?_⟩
    refine ⟨_, rfl, p, cs, rfl, hp, g, fun H1 e1 => ?_⟩
    refine ⟨_, rfl, Nat.zero_le _, fun em hem => ?_⟩
    have e2 := e1.trans (Evl.Ex.new (o := HO.tup []) hem)
    refine rv_empty (hp.tx (Tx.of e2)) upd_same ⟨_, rfl, ?_⟩
    rcases hx with ⟨hne, q⟩ | ⟨rfl, q⟩
    · have hcs : cs.isEmpty = false := by
        cases cs with
        | nil => exact absurd rfl hne
        | cons _ _ => rfl
      rw [hcs]
      refine iteF ?_
      refine ⟨_, rfl, p, cs, rfl, hp.tx (Tx.of e2), g, hne, fun bq t l b r H3 e3 hbq bx => ?_⟩
      refine ⟨bq, _, rfl, SqT.of hbq, rfl, _, _, rfl, _, _, rfl, _, _, rfl, _, _, rfl, rfl, ?_⟩
      have e13 := e2.trans e3
      have bd := bx.bounds g
      dsimp only [gName, tSeq, tPar3, tCons]
      refine t_cellsD rfl (hp.tx (Tx.of e13)) g.len (fun _ => rfl) (fun _ => rfl) fun dc H4 hdc e4 hcd => ?_
      intro hd hhd
      have e14 := e13.trans e4
      have hnew : Ex H4 (upd H4 hd (.dK [])) := Evl.Ex.new hhd
      have muthd : ∀ {H' : Hp} {kvs : List (Key × V)}, H' hd = some (.dK kvs) → ∀ o, Tx H' (upd H' hd o) := fun h o => Tx.up fun xs z => by rw [h] at z; cases z
      refine ⟨_, _, _, rfl, ?_⟩
      refine ⟨_, rfl, _, rfl, t, b, rfl, ⟨by omega, by omega, by omega, by omega⟩, for_range (lo := t) (n := (b - t).toNat)
        (fun i σ H' => ∃ v7 x8 x9 x10 x11 x12 o, σ = [some (.ref p), some (.int t), some (.int l), some (.int b), some (.int r), some (.ref dc), some (.ref hd), some v7, x8, x9, x10, x11, x12, none] ∧ Ex H4 H' ∧
          (∃ kvs, H' hd = some (.dK kvs) ∧ kvs.length ≤ i * 30 ∧ Highs cs t l r i 0 kvs) ∧ BestV H' v7 o ∧ Over cs t l (PP (r - l).toNat i 0 0) o)
        ⟨_, none, none, none, none, none, none, rfl, hnew, ⟨[], upd_same, by simp, ⟨fun c h1 h2 => by omega, fun c h1 h2 => rfl⟩⟩, rfl, ⟨fun m z => (by cases z), fun n j k z => (by unfold PP at z; omega)⟩⟩ ?_ ?_⟩
      · rintro i σ H' hil ⟨v7, x8, x9, x10, x11, x12, o, rfl, e5, ⟨kvs, hk, hkl, hh⟩, hb, hov⟩
        -- the heights
        refine ⟨_, rfl, _, rfl, l, r, rfl, ⟨by omega, by omega, by omega, by omega⟩, for_range (lo := l) (n := (r - l).toNat)
          (fun j σ H' => ∃ x9, σ = [some (.ref p), some (.int t), some (.int l), some (.int b), some (.int r), some (.ref dc), some (.ref hd), some v7, some (.int (t + (i : Int))), x9, x10, x11, x12, none] ∧ Ex H4 H' ∧
            (∃ kvs, H' hd = some (.dK kvs) ∧ kvs.length ≤ i * 30 + j ∧ Highs cs t l r i j kvs) ∧ BestV H' v7 o)
          ⟨x9, rfl, e5, ⟨kvs, hk, by omega, hh⟩, hb⟩ ?_ ?_⟩
        · rintro j σ H' hj ⟨x9, rfl, e5, ⟨kvs, hk, hkl, hh⟩, hb⟩
          refine ⟨_, rfl, _, rfl, (by show 2 ≤ sizeLine; decide), fun pa hpa => ?_⟩
          have ea := Evl.Ex.new (o := HO.tup [.int (t + (i : Int)), .int (l + (j : Int))]) hpa
          obtain ⟨oc, ho, hs⟩ := (hcd.ex (e5.trans ea)).get (b := pa) (r := t + (i : Int)) (c := l + (j : Int)) upd_same
          refine ⟨_, rfl, dc, oc, rfl, ho, _, rfl, ?_⟩
          have hka := ea _ _ hk
          have put : ∀ z, z = hi cs t (i + 1) (l + (j : Int)) → ∃ x9, [some (V.ref p), some (.int t), some (.int l), some (.int b), some (.int r), some (.ref dc), some (.ref hd), some v7, some (.int (t + (i : Int))), some (.int (l + (j : Int))), x10, x11, x12, none] = [some (.ref p), some (.int t), some (.int l), some (.int b), some (.int r), some (.ref dc), some (.ref hd), some v7, some (.int (t + (i : Int))), x9, x10, x11, x12, none] ∧
              Ex H4 (upd (upd H' pa (.tup [.int (t + (i : Int)), .int (l + (j : Int))])) hd (.dK (putK kvs (Sum.inl (l + (j : Int))) (.int z)))) ∧
              (∃ kvs', upd (upd H' pa (.tup [.int (t + (i : Int)), .int (l + (j : Int))])) hd (.dK (putK kvs (Sum.inl (l + (j : Int))) (.int z))) hd = some (.dK kvs') ∧ kvs'.length ≤ i * 30 + (j + 1) ∧ Highs cs t l r i (j + 1) kvs') ∧ BestV (upd (upd H' pa (.tup [.int (t + (i : Int)), .int (l + (j : Int))])) hd (.dK (putK kvs (Sum.inl (l + (j : Int))) (.int z)))) v7 o := by
            rintro z rfl
            refine ⟨_, rfl, Evl.Ex.mut (e5.trans ea) hhd, ⟨_, upd_same, Nat.le_trans (length_putK _ _ _) (by omega), ?_, ?_⟩, hb.tx ((Tx.of ea).trans (muthd hka _))⟩
            · intro c h1 h2 h3
              rw [valV_put]
              by_cases hc : (Sum.inl c : Key) = Sum.inl (l + (j : Int))
              · rw [if_pos hc, Sum.inl.inj hc]
              · rw [if_neg hc]
                exact hh.1 c h1 (by have : c ≠ l + (j : Int) := fun z => hc (by rw [z]); omega) h3
            · intro c h1 h2
              rw [valV_put, if_neg (fun z => by have := Sum.inl.inj z; omega)]
              exact hh.2 c (by omega) h2
          cases hm : oc.isSome with
          | true =>
            have hin : (t + (i : Int), l + (j : Int)) ∈ cs := of_decide_eq_true (hs.symm.trans hm)
            refine iteT ⟨_, rfl, hd, rfl, .inl ⟨kvs, Rd.of hka⟩, _, rfl, _, DGet.k (k := Sum.inl (l + (j : Int))) hka, _, _, hh.2 _ (by omega) (by omega), rfl, _, rfl, _, rfl, hd, _, rfl, DPut.k (k := Sum.inl (l + (j : Int))) hka (Evl.sz_lt (by omega)), ?_⟩
            refine put _ ?_
            rw [hi_succ, if_pos hin]
          | false =>
            have hin : ¬ (t + (i : Int), l + (j : Int)) ∈ cs := of_decide_eq_false (hs.symm.trans hm)
            refine iteF ⟨_, rfl, _, rfl, hd, _, rfl, DPut.k (k := Sum.inl (l + (j : Int))) hka (Evl.sz_lt (by omega)), ?_⟩
            refine put 0 ?_
            rw [hi_succ, if_neg hin]
        · rintro σ H' ⟨x9, rfl, e5, ⟨kvs, hk, hkl, hh⟩, hb⟩
          have hF : ∀ c, l ≤ c → c < r → valV kvs (Sum.inl c) = some (.int (hi cs t (i + 1) c)) := fun c h1 h2 => hh.1 c h1 (by omega) h2
          -- the boxes that end in this row
          refine ⟨_, rfl, _, rfl, l, r, rfl, ⟨by omega, by omega, by omega, by omega⟩, for_range (lo := l) (n := (r - l).toNat)
            (fun j σ H' => ∃ v7 x9 x10 x11 x12 o, σ = [some (.ref p), some (.int t), some (.int l), some (.int b), some (.int r), some (.ref dc), some (.ref hd), some v7, some (.int (t + (i : Int))), x9, x10, x11, x12, none] ∧ Ex H4 H' ∧
              H' hd = some (.dK kvs) ∧ BestV H' v7 o ∧ Over cs t l (PP (r - l).toNat i j 0) o)
            ⟨v7, x9, x10, x11, x12, o, rfl, e5, hk, hb, hov⟩ ?_ ?_⟩
          · rintro j σ H' hj ⟨v7, x9, x10, x11, x12, o, rfl, e5, hk, hb, hov⟩
            refine ⟨_, rfl, _, rfl, hd, _, rfl, getK hk (hF _ (by omega) (by omega)), ?_⟩
            refine ⟨_, rfl, _, rfl, l + (j : Int), r, rfl, ⟨by omega, by omega, by omega, by omega⟩, for_range (lo := l + (j : Int)) (n := (r - (l + (j : Int))).toNat)
              (fun k σ H' => ∃ v7 x11 x12 o, σ = [some (.ref p), some (.int t), some (.int l), some (.int b), some (.int r), some (.ref dc), some (.ref hd), some v7, some (.int (t + (i : Int))), some (.int (l + (j : Int))), some (.int (lo cs t (i + 1) (l + (j : Int)) k)), x11, x12, none] ∧ Ex H4 H' ∧
                H' hd = some (.dK kvs) ∧ BestV H' v7 o ∧ Over cs t l (PP (r - l).toNat i j k) o)
              ⟨v7, x11, x12, o, rfl, e5, hk, hb, hov⟩ ?_ ?_⟩
            · rintro k σ H' hkr ⟨v7, x11, x12, o, rfl, e5, hk, hb, hov⟩
              refine ⟨_, rfl, _, rfl, _, rfl, hd, _, rfl, getK hk (hF (l + (j : Int) + (k : Int)) (by omega) (by omega)), _, _, rfl, ?_⟩
              have elow : (if hi cs t (i + 1) (l + (j : Int) + (k : Int)) < lo cs t (i + 1) (l + (j : Int)) k then hi cs t (i + 1) (l + (j : Int) + (k : Int)) else lo cs t (i + 1) (l + (j : Int)) k) = lo cs t (i + 1) (l + (j : Int)) (k + 1) := rfl
              rw [elow]
              have more : ∀ n' j' k', PP (r - l).toNat i j (k + 1) n' j' k' → PP (r - l).toNat i j k n' j' k' ∨ (n' = i ∧ j' = j ∧ k' = k) := fun n' j' k' z => by
                unfold PP at z ⊢
                omega
              refine ⟨_, rfl, _, _, rfl, rfl, _, rfl, ?_⟩
              by_cases hpos : 0 < lo cs t (i + 1) (l + (j : Int)) (k + 1)
              · rw [decide_eq_true hpos]
                refine iteT ⟨_, rfl, _, rfl, _, rfl, _, _, rfl, rfl, _, rfl, _, _, rfl, rfl, _, _, rfl, rfl, .inr ⟨by omega, by omega⟩, ?_⟩
                refine ⟨_, rfl, _, _, rfl, rfl, _, rfl, _, _, rfl, rfl, _, rfl, _, rfl, _, _, rfl, rfl, _, rfl, _, _, rfl, rfl, (by show 4 ≤ sizeLine; decide), fun pb hpb => ?_⟩
                refine ⟨by show 2 ≤ sizeLine; decide, fun pa hpa => ?_⟩
                have e6 := (Evl.Ex.new (o := HO.tup [.int ((t + (i : Int)) + 1 - low cs t l i j k), .int (l + (j : Int)), .int ((t + (i : Int)) + 1), .int ((l + (j : Int) + (k : Int)) + 1)]) hpb).trans (Evl.Ex.new (o := HO.tup [.int (-low cs t l i j k * ((l + (j : Int) + (k : Int)) + 1 - (l + (j : Int)))), .ref pb]) hpa)
                have nab : pb ≠ pa := ne_of_none upd_same hpa
                have kt : KeyAt (upd (upd H' pb (.tup [.int ((t + (i : Int)) + 1 - low cs t l i j k), .int (l + (j : Int)), .int ((t + (i : Int)) + 1), .int ((l + (j : Int) + (k : Int)) + 1)])) pa (.tup [.int (-low cs t l i j k * ((l + (j : Int) + (k : Int)) + 1 - (l + (j : Int)))), .ref pb])) (.ref pa) (told cs t l i j k) :=
                  ⟨pa, pb, rfl, upd_same, (upd_ne nab).trans upd_same⟩
                have hov2 := (hov.more (n := i) (j := j) (k := k) hpos).anti more
                refine ⟨v7, rfl, _, rfl, ?_⟩
                cases o with
                | none =>
                  obtain rfl : v7 = .non := hb
                  exact iteT ⟨_, rfl, _, _, _, some (told cs t l i j k), rfl, e5.trans e6, e6 _ _ hk, kt, hov2⟩
                | some m =>
                  have hb2 : KeyAt _ v7 m := KeyAt.tx (Tx.of e6) hb
                  have hv : decide (v7 = V.non) = false := by
                    obtain ⟨a, b', rfl, _⟩ := hb2
                    rfl
                  rw [hv]
                  refine iteF ⟨_, rfl, _, rfl, v7, .ref pa, m, told cs t l i j k, rfl, hb2.dp, kt.dp, fun lt => ?_, fun nlt => ?_⟩
                  · have eb : best2 (some m) (told cs t l i j k) = told cs t l i j k := if_pos lt
                    rw [eb] at hov2
                    exact ⟨_, _, _, some (told cs t l i j k), rfl, e5.trans e6, e6 _ _ hk, kt, hov2⟩
                  · have eb : best2 (some m) (told cs t l i j k) = m := if_neg nlt
                    rw [eb] at hov2
                    exact ⟨_, _, _, some m, rfl, e5.trans e6, e6 _ _ hk, hb2, hov2⟩
              · rw [decide_eq_false hpos]
                exact iteF ⟨_, _, _, _, rfl, e5, hk, hb, (hov.skip (n := i) (j := j) (k := k) hpos).anti more⟩
            · rintro σ H' ⟨v7, x11, x12, o, rfl, e5, hk, hb, hov⟩
              exact ⟨_, _, _, _, _, _, rfl, e5, hk, hb, hov.anti fun n' j' k' z => by unfold PP at z ⊢; omega⟩
          · rintro σ H' ⟨v7, x9, x10, x11, x12, o, rfl, e5, hk, hb, hov⟩
            exact ⟨_, _, _, _, _, _, _, rfl, e5, ⟨kvs, hk, by omega, ⟨fun c h1 h2 => by omega, fun c h1 h2 => by rw [hF c (by omega) h2]; rfl⟩⟩, hb, hov.anti fun n' j' k' z => by unfold PP at z ⊢; omega⟩
      · rintro σ H' ⟨v7, x8, x9, x10, x11, x12, o, rfl, e5, ⟨kvs, hk, hkl, hh⟩, hb, hov⟩
        obtain ⟨m, rfl, hm⟩ := hov.least bx (fun n j k h1 h2 => by unfold PP; omega)
        obtain ⟨a, b', rfl, ha, hb'⟩ := hb
        exact ⟨_, rfl, a, _, _, _, rfl, rfl, SqT.of ha, atI_nat (j := 1) rfl, q b' m H' (e14.trans e5) hm hb'⟩
    · exact iteT (q _ e2)
end
end Gk

/-! count_boxes -/
namespace Gk
open PySem PySem.Spec PyProof.Rows L2
open Evl (Ex given)
/-! ### plain: the whole boxes, cell by cell -/
def gB (cs : List C2) (b r : Int) (c : C2) : Nat := (L3 cs c.1 c.2 (b - c.1).toNat (r - c.2).toNat).length
theorem sum_rowL (cs : List C2) (a l b r : Int) : ∀ w : Nat, (((List.range w).map fun (j : Nat) => ((a, l + (j : Int)) : C2)).map (gB cs b r)).sum = (L2 cs a l b r w).length
  | 0 => rfl
  | w + 1 => by
    rw [List.range_succ, List.map_append, List.map_append, List.sum_append, sum_rowL cs a l b r w, L2_succ, List.length_append]
    rfl
theorem sum_grid (cs : List C2) (t l b r : Int) (w : Nat) : ∀ h : Nat, ((grid t l h w).map (gB cs b r)).sum = (L1 cs t l b r h w).length
  | 0 => rfl
  | h + 1 => by
    have e : grid t l (h + 1) w = grid t l h w ++ (List.range w).map fun (j : Nat) => ((t + (h : Int), l + (j : Int)) : C2) := by
      unfold grid
      exact flat_succ _ h
    rw [e, List.map_append, List.sum_append, sum_grid cs t l b r w h, sum_rowL, L1_succ, List.length_append]
theorem nil_of_mem {α : Type} {xs : List α} (h : ∀ x, x ∉ xs) : xs = [] := List.eq_nil_iff_forall_not_mem.mpr h
theorem sum_cells {cs : List C2} (hn : cs.Nodup) {t l b r : Int} (B : IsBox cs t l b r) {h w : Nat} (hh : b = t + h) (hw : r = l + w) : (cs.map (gB cs b r)).sum = (L1 cs t l b r h w).length := by
  rw [← sum_grid]
  refine (sum_sub (gB cs b r) cs (grid t l h w) hn (grid_nodup _ _ _ _) (fun c hc => ?_) (fun c hc hnc => ?_)).symm
  · rw [mem_grid]
    have := B.inn c hc
    omega
  · have e : L3 cs c.1 c.2 (b - c.1).toNat (r - c.2).toNat = [] := nil_of_mem fun x hx => by
      obtain ⟨b', r', h1, h2, h3, h4, h5, h6⟩ := mem_L3.mp hx
      exact hnc ((fullB_iff hn (by omega) (by omega)).mp h5 c.1 c.2 (by omega) h1 (by omega) h3)
    unfold gB
    rw [e]
    rfl
def Wd (cs : List C2) (x y : Int) (d w : Nat) : Prop := w ≤ 120 ∧ ∀ v : Nat, v ≤ 120 → (v ≤ w ↔ Full cs x y (x + d) (y + v))
theorem Wd.zero (cs : List C2) (x y : Int) : Wd cs x y 0 120 := ⟨Nat.le_refl _, fun v hv => ⟨fun _ a c h1 h2 => by omega, fun _ => hv⟩⟩
theorem Wd.step {cs : List C2} {x y : Int} {d w j : Nat} (h : Wd cs x y d w) (hj : j ≤ w) (hc : ∀ k : Nat, k < j → (x + (d : Int), y + (k : Int)) ∈ cs) (hx : ¬ (j < w ∧ (x + (d : Int), y + (j : Int)) ∈ cs)) : Wd cs x y (d + 1) j := by
  refine ⟨Nat.le_trans hj h.1, fun v hv => ⟨fun hvj a c h1 h2 h3 h4 => ?_, fun f => ?_⟩⟩
  · rcases Int.lt_or_le a (x + d) with q | q
    · exact (h.2 v hv).mp (by omega) a c h1 q h3 h4
    · have ea : a = x + d := by omega
      have ec : c = y + ((c - y).toNat : Int) := by omega
      rw [ea, ec]
      exact hc _ (by omega)
  · rcases Nat.lt_or_ge j v with q | q
    · have : v ≤ w := (h.2 v hv).mpr fun a c h1 h2 h3 h4 => f a c h1 (by omega) h3 h4
      exact absurd ⟨by omega, f _ _ (by omega) (by omega) (by omega) (by omega)⟩ hx
    · exact q
theorem L4_count {cs : List C2} {t l b : Int} {w : Nat} : ∀ n : Nat, (∀ f : Nat, f < n → (fullB cs t l b (l + 1 + (f : Int)) = true ↔ f + 1 ≤ w)) → (L4 cs t l b n).length = min n w
  | 0, _ => by simp [L4]
  | n + 1, h => by
    rw [L4_succ, List.length_append, L4_count n fun f hf => h f (by omega)]
    have := h n (by omega)
    by_cases q : fullB cs t l b (l + 1 + (n : Int)) = true
    · rw [if_pos q]
      have := this.mp q
      simp only [List.length_singleton]
      omega
    · rw [if_neg q]
      have : ¬ (n + 1 ≤ w) := fun z => q (this.mpr z)
      simp only [List.length_nil]
      omega
theorem Wd.count {cs : List C2} (hn : cs.Nodup) {x y : Int} {d w n : Nat} (h : Wd cs x y (d + 1) w) (hnn : n ≤ 120) (hc : ∀ c ∈ cs, c.2 < y + n) : (L4 cs x y (x + 1 + (d : Int)) n).length = w := by
  rw [L4_count (w := w) n fun f hf => ?_]
  · have : w ≤ n := by
      rcases Nat.eq_zero_or_pos w with q | q
      · omega
      · have z := hc _ ((h.2 w h.1).mp (Nat.le_refl _) x (y + w - 1) (by omega) (by omega) (by omega) (by omega))
        simp only at z
        omega
    omega
  · rw [fullB_iff hn (by omega) (by omega), h.2 (f + 1) (by omega)]
    have e1 : x + 1 + (d : Int) = x + ((d + 1 : Nat) : Int) := by omega
    have e2 : y + 1 + (f : Int) = y + ((f + 1 : Nat) : Int) := by omega
    rw [e1, e2]
theorem L3_stop {cs : List C2} (hn : cs.Nodup) {x y : Int} {d : Nat} (n : Nat) (h : (x + (d : Int), y) ∉ cs) : ∀ e : Nat, (L3 cs x y (d + e) n).length = (L3 cs x y d n).length
  | 0 => rfl
  | e + 1 => by
    have z : L4 cs x y (x + 1 + ((d + e : Nat) : Int)) n = [] := nil_of_mem fun v hv => by
      obtain ⟨r, h1, h2, h3, h4⟩ := mem_L4.mp hv
      exact h ((fullB_iff hn (by omega) (by omega)).mp h3 _ _ (by omega) (by omega) (by omega) (by omega))
    have e1 : L3 cs x y (d + (e + 1)) n = L3 cs x y (d + e) n ++ L4 cs x y (x + 1 + ((d + e : Nat) : Int)) n := L3_succ cs x y (d + e) n
    rw [e1, z, List.append_nil]
    exact L3_stop hn n h e
theorem sum_take {cs : List C2} {g : C2 → Nat} {i : Nat} {c : C2} (h : cs[i]? = some c) : ((cs.take (i + 1)).map g).sum = ((cs.take i).map g).sum + g c := by
  rw [List.take_add_one, h]
  simp
/-! ### count_boxes -/
def spBoxes : Sp := fun vs H Q _ => ∃ p cs n, vs = [.ref p] ∧ InkAt H p cs ∧ Good cs ∧ ((cs = [] ∧ n = 0) ∨ ∃ t l b r h w, IsBox cs t l b r ∧ b = t + ((h : Nat) : Int) ∧ r = l + ((w : Nat) : Int) ∧ n = (L1 cs t l b r h w).length) ∧ ∀ H2, Ex H H2 → Q (.int ((n : Nat) : Int)) H2
section
variable {P : Program} {w : World} {K : PySem.W.Frag} {mg : Str → Option Value} {base : Heap}
theorem scBoxes : FnScope ["ink", "cells", "found", "row", "column", "wide", "down", "reach", "cell"] ["ink"] (defScope sCountBoxes) := ⟨rfl, rfl, rfl, by decide +kernel, rfl, by decide +kernel, by decide +kernel⟩
theorem ok_boxes {f f1 f2 f3 f4 f5 : Addr} {fd fd1 fd2 fd3 fd4 fd5 : FuncData} (T0 : Txt mg) (D : Df K mg "count_boxes" sCountBoxes ["ink"] f fd) (D1 : Df K mg "is_integer" sIsInteger ["value"] f1 fd1) (D2 : Df K mg "is_in" sIsIn ["value", "least", "most"] f2 fd2)
    (D3 : Df K mg "is_list" sIsList ["value", "least", "most"] f3 fd3) (D4 : Df K mg "is_cell" sIsCell ["value"] f4 fd4) (D5 : Df K mg "need_ink" sNeedInk ["value"] f5 fd5) : FnOk P w K mg base CX0 5 f fd ["ink"] spBoxes := by
  refine D.F.ok scBoxes (fun vs H Q E h => ?_) (fun cdv A outer s H vs Q E hr h => ?_)
  · obtain ⟨p, cs, n, rfl, _⟩ := h
    rfl
  · obtain ⟨p, cs, n, rfl, hp, g, hx, q⟩ := h
    obtain ⟨tm, em⟩ := T0.most
    have hu := hu_of hr
    refine ⟨_, pss_cons (ps_expr (pe_call (ok_need T0 D5 D1 D2 D3 D4) hr (by rfl) D5.g D5.F.kp D5.b .nil pass0 (pa_cons (pv 0) pa_nil)))
      (pss_cons (ps_par (i := 1) (j := 2) (by rfl) scBoxes.nd rfl rfl (by decide) rfl rfl (pa_cons (pe_dcT (own := [("cell", 8)]) (g := gName 8) hu (by rfl) scBoxes.nd (pi_tup (pv 0))
            (blkOk_by (N := ["ink", "cells", "found", "row", "column", "wide", "down", "reach", "cell"]) (sc := defScope sCountBoxes) (by decide +kernel)) (fun _ _ _ _ _ => pg_name (i := 8) scBoxes.nd rfl (.inl rfl)) (fun _ _ _ _ _ => pv 8) (fun _ _ _ _ _ => pe_bl))
          (pa_cons pe_int pa_nil)) (by rfl))
      (pss_cons (ps_for PassesOwn.never rfl (pi_tup (pv 0)) (pg_tup rfl (pgs_cons (pg_name (i := 3) scBoxes.nd rfl (.inl rfl)) (pgs_cons (pg_name (i := 4) scBoxes.nd rfl (.inl rfl)) pgs_nil)))
        (pss_cons (ps_par (i := 5) (j := 6) (by rfl) scBoxes.nd rfl rfl (by decide) rfl rfl (pa_cons (pe_op op_add (pe_glob (v := .int 60) (by rfl) em ⟨tm, rfl⟩) (pe_glob (v := .int 60) (by rfl) em ⟨tm, rfl⟩)) (pa_cons pe_int pa_nil)) (by rfl))
        (pss_one (ps_while PassesOwn.never (pt_cmp (pc_din hu (pe_tup (pa_cons (pe_op op_add (pv 3) (pv 6)) (pa_cons (pv 4) pa_nil))) (pv 1)))
          (pss_cons (ps_set (i := 7) scBoxes.nd rfl (.inl rfl) pe_int)
          (pss_cons (ps_while PassesOwn.never (PW.pt (pw_and (pt_cmpR op_lt (pv 7) (pv 5) (nomark _)) (pw_and1 (pt_cmp (pc_din hu (pe_tup (pa_cons (pe_op op_add (pv 3) (pv 6)) (pa_cons (pe_op op_add (pv 4) (pv 7)) pa_nil))) (pv 1))))))
            (pss_one (ps_aug (i := 7) scBoxes.nd rfl (.inl rfl) pe_int ip_add)))
          (pss_cons (ps_par (i := 5) (j := 6) (by rfl) scBoxes.nd rfl rfl (by decide) rfl rfl (pa_cons (pe_callB (call_min2 rfl) (by rfl) T0.min (by decide +kernel) (pa_cons (pv 5) (pa_cons (pv 7) pa_nil))) (pa_cons (pe_op op_add (pv 6) pe_int) pa_nil)) (by rfl))
          (pss_one (ps_aug (i := 2) scBoxes.nd rfl (.inl rfl) (pv 5) ip_add)))))))))
      (pss_one (ps_ret (pv 2))))), ?_⟩
    refine ⟨_, rfl, p, cs, rfl, hp, g, fun H1 e1 => ?_⟩
    dsimp only [gName, tSeq, tPar, tCons]
    refine t_cellsD rfl (hp.tx (Tx.of e1)) g.len (fun _ => rfl) (fun _ => rfl) fun dc H2 hdc e2 hcd => ?_
    have e12 := e1.trans e2
    obtain ⟨vs, hv, hc⟩ := hp.tx (Tx.of e12)
    have hlen := Cells.len hc
    obtain ⟨t, l, b, r, hb9⟩ : ∃ t l b r : Int, cs ≠ [] → IsBox cs t l b r ∧ n = (cs.map (gB cs b r)).sum := by
      rcases hx with ⟨rfl, _⟩ | ⟨t, l, b, r, h, w, B, hh, hw, hn⟩
      · exact ⟨0, 0, 0, 0, fun z => absurd rfl z⟩
      · exact ⟨t, l, b, r, fun _ => ⟨B, hn.trans (sum_cells g.nodup B hh hw).symm⟩⟩
    refine ⟨_, _, rfl, _, rfl, p, rfl, ⟨vs, SqT.of hv⟩, for_tup (xs := vs)
      (fun i σ H' => ∃ x3 x4 x5 x6 x7, σ = [some (.ref p), some (.ref dc), some (.int ((((cs.take i).map (gB cs b r)).sum : Nat) : Int)), x3, x4, x5, x6, x7, none] ∧ Ex H2 H')
      ⟨none, none, none, none, none, rfl, Ex.refl _⟩ (fun i σ H' _ ⟨_, _, _, _, _, _, e3⟩ => SqT.of (e3 _ _ hv)) ?_ ?_⟩
    · rintro i v σ H' hvi ⟨x3, x4, x5, x6, x7, rfl, e3⟩
      obtain ⟨⟨x, y⟩, hci, a, rfl, ha⟩ := Cells.at hc hvi
      have hmem : (x, y) ∈ cs := List.mem_of_getElem? hci
      obtain ⟨B, hn⟩ := hb9 (List.ne_nil_of_mem hmem)
      have bd := B.bounds g
      have hin := B.inn _ hmem
      simp only at hin
      refine ⟨a, _, rfl, SqT.of (e3 _ _ ha), rfl, _, _, rfl, _, _, rfl, rfl, ?_⟩
      refine ⟨_, _, rfl, rfl, _, _, rfl, ?_⟩
      have hcol : ∀ c ∈ cs, c.2 < y + ((r - y).toNat : Int) := fun c hc => by have := B.inn c hc; omega
      refine ⟨fun m σ H' => ∃ x7 wd d, m = (b - x).toNat - d ∧ σ = [some (.ref p), some (.ref dc), some (.int ((((cs.take i).map (gB cs b r)).sum + (L3 cs x y d (r - y).toNat).length : Nat) : Int)), some (.int x), some (.int y), some (.int ((wd : Nat) : Int)), some (.int ((d : Nat) : Int)), x7, none] ∧ Ex H2 H' ∧ Wd cs x y d wd ∧ x + (d : Int) ≤ b,
        ⟨_, x7, 120, 0, rfl, rfl, e3, Wd.zero _ _ _, by omega⟩, ?_⟩
      rintro m σ H' ⟨x7, wd, d, rfl, rfl, e3, hW, hd⟩
      refine ⟨_, rfl, _, rfl, _, _, rfl, rfl, _, rfl, (by show 2 ≤ sizeLine; decide), fun pa hpa => ?_⟩
      have ea := Evl.Ex.new (o := HO.tup [.int (x + (d : Int)), .int y]) hpa
      obtain ⟨oc, ho, hs⟩ := (hcd.ex (e3.trans ea)).get (b := pa) (r := x + (d : Int)) (c := y) upd_same
      refine ⟨_, rfl, dc, oc, rfl, ho, _, rfl, ?_⟩
      cases hm : oc.isSome with
      | true =>
        have hmm : (x + (d : Int), y) ∈ cs := of_decide_eq_true (hs.symm.trans hm)
        have hd2 := B.inn _ hmm
        simp only at hd2
        refine iteT ⟨fun σ' H'' => ∃ x7 wd', σ' = [some (.ref p), some (.ref dc), some (.int ((((cs.take i).map (gB cs b r)).sum + (L3 cs x y (d + 1) (r - y).toNat).length : Nat) : Int)), some (.int x), some (.int y), some (.int ((wd' : Nat) : Int)), some (.int ((d + 1 : Nat) : Int)), x7, none] ∧ Ex H2 H'' ∧ Wd cs x y (d + 1) wd', ?_, ?_⟩
        · rintro σ' H'' ⟨x7, wd', rfl, e4, hW'⟩
          exact ⟨(b - x).toNat - (d + 1), by omega, x7, wd', d + 1, rfl, rfl, e4, hW', by omega⟩
        · skip
          refine ⟨fun m σ H' => ∃ j : Nat, m = wd - j ∧ σ = [some (.ref p), some (.ref dc), some (.int ((((cs.take i).map (gB cs b r)).sum + (L3 cs x y d (r - y).toNat).length : Nat) : Int)), some (.int x), some (.int y), some (.int ((wd : Nat) : Int)), some (.int ((d : Nat) : Int)), some (.int (j : Int)), none] ∧ Ex H2 H' ∧ j ≤ wd ∧ ∀ k : Nat, k < j → (x + (d : Int), y + (k : Int)) ∈ cs,
            ⟨_, 0, rfl, rfl, e3.trans ea, Nat.zero_le _, fun k hk => by omega⟩, ?_⟩
          rintro m σ H' ⟨j, rfl, rfl, e4, hj, hall⟩
          have fin : ∀ H'' : Hp, Ex H2 H'' → ¬ (j < wd ∧ (x + (d : Int), y + (j : Int)) ∈ cs) → ∃ x7 wd', [some (.ref p), some (.ref dc), some (.int ((((cs.take i).map (gB cs b r)).sum + (L3 cs x y d (r - y).toNat).length : Nat) + (if (j : Int) < (wd : Int) then (j : Int) else (wd : Int)) : Int)), some (.int x), some (.int y), some (.int (if (j : Int) < (wd : Int) then (j : Int) else (wd : Int))), some (.int ((d : Int) + 1)), some (.int (j : Int)), none] = [some (V.ref p), some (.ref dc), some (.int ((((cs.take i).map (gB cs b r)).sum + (L3 cs x y (d + 1) (r - y).toNat).length : Nat) : Int)), some (.int x), some (.int y), some (.int ((wd' : Nat) : Int)), some (.int ((d + 1 : Nat) : Int)), x7, none] ∧ Ex H2 H'' ∧ Wd cs x y (d + 1) wd' := by
            intro H'' e5 hno
            have hW' := hW.step hj hall hno
            refine ⟨some (.int (j : Int)), j, ?_, e5, hW'⟩
            have e1 : (if (j : Int) < (wd : Int) then (j : Int) else (wd : Int)) = (j : Int) := by split <;> omega
            have e2 := hW'.count g.nodup (n := (r - y).toNat) (by omega) hcol
            have e3 : ((((cs.take i).map (gB cs b r)).sum + (L3 cs x y d (r - y).toNat).length : Nat) + (j : Int) : Int) = ((((cs.take i).map (gB cs b r)).sum + (L3 cs x y (d + 1) (r - y).toNat).length : Nat) : Int) := by
              rw [L3_succ, List.length_append, e2]
              omega
            rw [e1, e3]
            rfl
          refine ⟨_, rfl, _, rfl, _, _, rfl, rfl, _, rfl, ?_⟩
          by_cases hlt : (j : Int) < (wd : Int)
          · rw [decide_eq_true hlt]
            refine iteT ⟨_, rfl, _, rfl, _, _, rfl, rfl, _, rfl, _, rfl, _, _, rfl, rfl, (by show 2 ≤ sizeLine; decide), fun pb hpb => ?_⟩
            have eb := Evl.Ex.new (o := HO.tup [.int (x + (d : Int)), .int (y + (j : Int))]) hpb
            obtain ⟨ob, hob, hsb⟩ := (hcd.ex (e4.trans eb)).get (b := pb) (r := x + (d : Int)) (c := y + (j : Int)) upd_same
            refine ⟨_, rfl, dc, ob, rfl, hob, _, rfl, ?_⟩
            cases hm2 : ob.isSome with
            | true =>
              have hm3 : (x + (d : Int), y + (j : Int)) ∈ cs := of_decide_eq_true (hsb.symm.trans hm2)
              refine iteT ⟨fun σ' H'' => σ' = [some (.ref p), some (.ref dc), some (.int ((((cs.take i).map (gB cs b r)).sum + (L3 cs x y d (r - y).toNat).length : Nat) : Int)), some (.int x), some (.int y), some (.int ((wd : Nat) : Int)), some (.int ((d : Nat) : Int)), some (.int ((j + 1 : Nat) : Int)), none] ∧ Ex H2 H'', ?_, ?_⟩
              · rintro σ' H'' ⟨rfl, e5⟩
                exact ⟨wd - (j + 1), by omega, j + 1, rfl, rfl, e5, by omega, fun k hk => by
                  rcases Nat.lt_or_ge k j with z | z
                  · exact hall k z
                  · obtain rfl : k = j := by omega
                    exact hm3⟩
              · exact ⟨_, rfl, _, _, rfl, rfl, rfl, e4.trans eb⟩
            | false =>
              have hm3 : (x + (d : Int), y + (j : Int)) ∉ cs := of_decide_eq_false (hsb.symm.trans hm2)
              exact iteF ⟨_, rfl, _, rfl, _, _, rfl, _, rfl, _, _, rfl, rfl, _, _, rfl, _, rfl, _, rfl, _, _, rfl, rfl, fin _ (e4.trans eb) fun z => hm3 z.2⟩
          · rw [decide_eq_false hlt]
            exact iteF ⟨_, rfl, _, rfl, _, _, rfl, _, rfl, _, _, rfl, rfl, _, _, rfl, _, rfl, _, rfl, _, _, rfl, rfl, fin _ e4 fun z => hlt (by omega)⟩
      | false =>
        have hmm : (x + (d : Int), y) ∉ cs := of_decide_eq_false (hs.symm.trans hm)
        refine iteF ⟨some (.int x), some (.int y), some (.int ((wd : Nat) : Int)), some (.int ((d : Nat) : Int)), x7, ?_, e3.trans ea⟩
        have e : (L3 cs x y (b - x).toNat (r - y).toNat).length = (L3 cs x y d (r - y).toNat).length := by
          have := L3_stop g.nodup (r - y).toNat hmm ((b - x).toNat - d)
          rw [← this]
          congr 2
          omega
        rw [sum_take hci]
        unfold gB
        rw [e]
    · rintro σ H' ⟨x3, x4, x5, x6, x7, rfl, e3⟩
      have e : ((cs.take vs.length).map (gB cs b r)).sum = n := by
        rw [hlen, List.take_length]
        rcases hx with ⟨rfl, hn⟩ | ⟨t', l', b', r', h, w, B, _⟩
        · exact hn.symm
        · obtain ⟨p', hp', _⟩ := B.tt
          exact (hb9 (List.ne_nil_of_mem hp')).2.symm
      rw [e]
      exact ⟨_, rfl, q _ (e12.trans e3)⟩
end
end Gk

/-! the draws -/
namespace Gk
open PySem PySem.Spec PyProof.Rows L2
open Evl (Ex given)
/-- all but the object at l stays -/
def Exl (l : Addr) (H H' : Hp) : Prop := ∀ b u, b ≠ l → H b = some u → H' b = some u
theorem Exl.refl (l : Addr) (H : Hp) : Exl l H H := fun _ _ _ h => h
theorem Exl.trans {l : Addr} {H H1 H2 : Hp} (a : Exl l H H1) (b : Exl l H1 H2) : Exl l H H2 := fun x o n h => b x o n (a x o n h)
theorem Exl.of {l : Addr} {H H' : Hp} (e : Ex H H') : Exl l H H' := fun x o _ h => e x o h
theorem Exl.up {l : Addr} {H : Hp} {o : HO} : Exl l H (upd H l o) := fun b u n h => by
  rw [upd_ne n]
  exact h
/-- what is not there at first may change -/
theorem Exl.mut {l p : Addr} {H H' : Hp} {o : HO} (e : Exl l H H') (h : H p = none) : Exl l H (upd H' p o) := fun b u n hb => by
  have nb : b ≠ p := fun z => by
    rw [z, h] at hb
    cases hb
  rw [upd_ne nb]
  exact e b u n hb
/-- the row of the draws -/
def RowAt (K : PySem.W.Frag) (H : Hp) (l : Addr) : Prop := ∃ (a : Addr) (ns : List Int) (i : Nat) (st rest : Int), H l = some (.lst [.ref a, .int (i : Int), .int st, .int rest]) ∧ ∀ H', Exl l H H' → SqL K H' a (ns.map V.int)
theorem RowAt.ex {K : PySem.W.Frag} {H H' : Hp} {l : Addr} (e : Ex H H') (h : RowAt K H l) : RowAt K H' l := let ⟨a, ns, i, st, rest, h1, h2⟩ := h; ⟨a, ns, i, st, rest, e _ _ h1, fun H2 e2 => h2 H2 ((Exl.of e).trans e2)⟩
theorem RowAt.lst {K : PySem.W.Frag} {H : Hp} {l : Addr} (h : RowAt K H l) : ∃ xs, H l = some (.lst xs) := let ⟨_, _, _, _, _, h1, _⟩ := h; ⟨_, h1⟩
theorem Exl.tx {K : PySem.W.Frag} {H H' : Hp} {l : Addr} (h : RowAt K H l) (e : Exl l H H') : Tx H H' := fun a xs ha => e a _ (fun z => by
  obtain ⟨ys, hy⟩ := h.lst
  rw [z, hy] at ha
  cases ha) ha
theorem RowAt.put {K : PySem.W.Frag} {H H' : Hp} {l p : Addr} {o : HO} (e : Exl l H H') (h : RowAt K H' l) (hp : H' p = none) : RowAt K (upd H' p o) l := h.ex (Evl.Ex.new hp)
def spTaken (K : PySem.W.Frag) : Sp := fun vs H Q _ => ∃ l many, vs = [.ref l, .int many] ∧ RowAt K H l ∧ 0 < many ∧ many < 1073741824 ∧ ∀ k H2, 0 ≤ k → k < many → Exl l H H2 → RowAt K H2 l → Q (.int k) H2
def spPick (K : PySem.W.Frag) : Sp := fun vs H Q _ => ∃ l t xs, vs = [.ref l, .ref t] ∧ RowAt K H l ∧ t ≠ l ∧ H t = some (.lst xs) ∧ 0 < xs.length ∧ xs.length < 1073741824 ∧ ∀ (k : Nat) x H2, xs[k]? = some x → Exl l H H2 → RowAt K H2 l → Q x H2
def spSigned (K : PySem.W.Frag) : Sp := fun vs H Q _ => ∃ l m, vs = [.ref l, .int m] ∧ RowAt K H l ∧ 0 ≤ m ∧ m < 1000000 ∧ ∀ k H2, -m ≤ k → k ≤ m → Exl l H H2 → RowAt K H2 l → Q (.int k) H2
section
variable {P : Program} {w : World} {K : PySem.W.Frag} {mg : Str → Option Value} {base : Heap}
theorem scTaken : FnScope ["_law_row", "_law_many", "_law_found", "_law_cell"] ["_law_row", "_law_many"] (defScope sTaken) := ⟨rfl, rfl, rfl, by decide +kernel, rfl, by decide +kernel, by decide +kernel⟩
theorem ok_taken {f : Addr} {fd : FuncData} (T0 : Txt mg) (D : Df K mg "_law_taken" sTaken ["_law_row", "_law_many"] f fd) : FnOk P w K mg base CX0 1 f fd ["_law_row", "_law_many"] (spTaken K) := by
  refine D.F.ok scTaken (fun vs H Q E h => ?_) (fun cdv A outer s H vs Q E hr h => ?_)
  · obtain ⟨l, many, rfl, _⟩ := h
    rfl
  · obtain ⟨l, many, rfl, ⟨a, ns, i, st, rest, hl, hs⟩, h0, h1, q⟩ := h
    have hu := hu_of hr
    refine ⟨_, pss_cons (ps_if (pt_cmpR op_gt (pe_ix ix_list (pv 0) pe_int (fun _ _ => rfl)) pe_int (nomark _))
        (pss_cons (ps_set (i := 2) scTaken.nd rfl (.inl rfl) (pe_op op_mod (pe_callTy call_int1 (by rfl) T0.int (by decide +kernel) (pa_cons (pe_ix ix_list (pv 0) pe_int (fun _ _ => rfl)) pa_nil)) (pv 1)))
        (pss_cons (ps_asg (pe_op op_fdiv (pe_ix ix_list (pv 0) pe_int (fun _ _ => rfl)) (pv 1)) (pg_sub (pv 0) pe_int set_list))
        (pss_one (ps_ret (pv 2))))) pss_nil)
      (pss_cons (ps_asg (pe_op op_add (pe_ix ix_list (pv 0) pe_int (fun _ _ => rfl)) pe_int) (pg_sub (pv 0) pe_int set_list))
      (pss_cons (ps_if (pt_cmpR op_gt (pe_ix ix_list (pv 0) pe_int (fun _ _ => rfl)) (pe_callB call_len_seq (by rfl) T0.len PySem.boot_len (pa_cons (pe_ix ix_list (pv 0) pe_int (fun _ _ => rfl)) pa_nil)) (nomark _))
        (pss_cons (ps_asg (pe_op op_mod (pe_callTy call_int1 (by rfl) T0.int (by decide +kernel) (pa_cons (pe_op op_add (pe_op op_mul (pe_ix ix_list (pv 0) pe_int (fun _ _ => rfl)) pe_int) pe_int) pa_nil)) pe_int) (pg_sub (pv 0) pe_int set_list))
        (pss_one (ps_ret (pe_op op_mod (pe_callTy call_int1 (by rfl) T0.int (by decide +kernel) (pa_cons (pe_op op_fdiv (pe_ix ix_list (pv 0) pe_int (fun _ _ => rfl)) pe_int) pa_nil)) (pv 1))))) pss_nil)
      (pss_cons (ps_set (i := 3) scTaken.nd rfl (.inl rfl) (pe_ix ix_list (pe_ix ix_list (pv 0) pe_int (fun _ _ => rfl)) (pe_op op_sub (pe_ix ix_list (pv 0) pe_int (fun _ _ => rfl)) pe_int) (fun _ _ => rfl)))
      (pss_cons (ps_asg (pe_op op_mod (pe_callTy call_int1 (by rfl) T0.int (by decide +kernel) (pa_cons (pe_op op_add (pe_op op_add (pe_op op_mul (pe_ix ix_list (pv 0) pe_int (fun _ _ => rfl)) pe_int) (pv 3)) pe_int) pa_nil)) pe_int) (pg_sub (pv 0) pe_int set_list))
      (pss_cons (ps_if (pt_cmpR op_ge (pv 3) (pe_op op_pow pe_int pe_int) (nomark _))
        (pss_one (ps_asg (pe_op op_fdiv (pv 3) (pv 1)) (pg_sub (pv 0) pe_int set_list))) pss_nil)
      (pss_one (ps_ret (pe_op op_mod (pe_callTy call_int1 (by rfl) T0.int (by decide +kernel) (pa_cons (pv 3) pa_nil)) (pv 1))))))))), ?_⟩
    have fin : ∀ (z : Int) (i' : Nat) (st' rest' : Int) (H' : Hp), Exl l H H' → H' l = some (.lst [.ref a, .int (i' : Int), .int st', .int rest']) → Q (.int (z % many)) H' := fun z i' st' rest' H' e hl' =>
      q _ _ (Int.emod_nonneg _ (by omega)) (Int.emod_lt_of_pos _ h0) e ⟨a, ns, i', st', rest', hl', fun H2 e2 => hs H2 (e.trans e2)⟩
    refine ⟨_, rfl, l, _, _, _, rfl, rfl, SqL.of hl, atI_nat (j := 3) rfl, _, _, rfl, rfl, _, rfl, ?_⟩
    by_cases hr0 : (0 : Int) < rest
    · rw [decide_eq_true hr0]
      refine iteT ⟨_, rfl, l, _, _, _, rfl, rfl, SqL.of hl, atI_nat (j := 3) rfl, .inl ⟨_, rfl, _, rfl, _, _, rfl, rfl, h0, ?_⟩⟩
      refine ⟨_, rfl, l, _, _, _, rfl, rfl, SqL.of hl, atI_nat (j := 3) rfl, _, rfl, _, _, rfl, rfl, ⟨h0, h1⟩, _, rfl, l, _, _, 3, rfl, rfl, hl, rfl, ?_⟩
      exact ⟨_, rfl, fin _ i st _ _ Exl.up upd_same⟩
    · rw [decide_eq_false hr0]
      refine iteF ⟨_, rfl, l, _, _, _, rfl, rfl, SqL.of hl, atI_nat (j := 1) rfl, _, _, rfl, rfl, _, rfl, l, _, _, 1, rfl, rfl, hl, rfl, ?_⟩
      have hl1 : upd H l (.lst [.ref a, .int ((i : Int) + 1), .int st, .int rest]) l = some (.lst [.ref a, .int ((i : Int) + 1), .int st, .int rest]) := upd_same
      have e1 : Exl l H (upd H l (.lst [.ref a, .int ((i : Int) + 1), .int st, .int rest])) := Exl.up
      have hs1 := hs _ e1
      refine ⟨_, rfl, l, _, _, _, rfl, rfl, SqL.of hl1, atI_nat (j := 1) rfl, _, rfl, l, _, _, _, rfl, rfl, SqL.of hl1, atI_nat (j := 0) rfl, a, _, rfl, .inl hs1, _, _, rfl, rfl, _, rfl, ?_⟩
      by_cases hlen : (((ns.map V.int).length : Nat) : Int) < (i : Int) + 1
      · rw [decide_eq_true hlen]
        refine iteT ⟨_, rfl, l, _, _, _, rfl, rfl, SqL.of hl1, atI_nat (j := 2) rfl, _, _, rfl, rfl, .inr (by decide), _, _, rfl, rfl, .inl ⟨_, rfl, _, _, rfl, rfl, (by show (0:Int) < 2147483647; decide), _, rfl, l, _, _, 2, rfl, rfl, hl1, rfl, ?_⟩⟩
        refine ⟨_, rfl, l, _, _, _, rfl, rfl, SqL.of upd_same, atI_nat (j := 2) rfl, _, _, rfl, rfl, (by show (0:Int) < 7 ∧ (7:Int) < 1073741824; decide), .inl ⟨_, rfl, _, rfl, _, _, rfl, rfl, h0, ?_⟩⟩
        exact fin _ (i + 1) _ _ _ (e1.trans Exl.up) upd_same
      · rw [decide_eq_false hlen]
        refine iteF ?_
        have hil : i < ns.length := by
          rw [List.length_map] at hlen
          omega
        have hget : (ns.map V.int)[i]? = some (.int ns[i]) := by
          rw [List.getElem?_map, List.getElem?_eq_getElem hil]
          rfl
        refine ⟨_, rfl, l, _, _, _, rfl, rfl, SqL.of hl1, atI_nat (j := 0) rfl, _, rfl, l, _, _, _, rfl, rfl, SqL.of hl1, atI_nat (j := 1) rfl, _, _, rfl, rfl, a, _, _, _, rfl, rfl, hs1, at_of (j := i) (by omega) hget, ?_⟩
        refine ⟨_, rfl, l, _, _, _, rfl, rfl, SqL.of hl1, atI_nat (j := 2) rfl, _, _, rfl, rfl, .inr (by decide), _, rfl, _, _, rfl, rfl, _, _, rfl, rfl, .inl ⟨_, rfl, _, _, rfl, rfl, (by show (0:Int) < 2147483647; decide), _, rfl, l, _, _, 2, rfl, rfl, hl1, rfl, ?_⟩⟩
        refine ⟨_, rfl, _, _, rfl, rfl, (by show (0:Int) ≤ 18 ∧ (18:Int) ≤ 1000000 ∧ (10:Int).natAbs < 2 ^ 64; decide), _, _, rfl, rfl, _, rfl, ?_⟩
        by_cases hbig : (10 : Int) ^ (18 : Int).toNat ≤ ns[i]
        · rw [decide_eq_true hbig]
          refine iteT ⟨_, rfl, _, rfl, _, _, rfl, rfl, ⟨h0, h1⟩, _, rfl, l, _, _, 3, rfl, rfl, upd_same, rfl, ?_⟩
          exact ⟨_, rfl, .inl ⟨_, rfl, _, rfl, _, _, rfl, rfl, h0, fin _ (i + 1) _ _ _ ((e1.trans Exl.up).trans Exl.up) upd_same⟩⟩
        · rw [decide_eq_false hbig]
          exact iteF ⟨_, rfl, .inl ⟨_, rfl, _, rfl, _, _, rfl, rfl, h0, fin _ (i + 1) _ _ _ (e1.trans Exl.up) upd_same⟩⟩
theorem scPick : FnScope ["_law_row", "_law_things"] ["_law_row", "_law_things"] (defScope sPick) := ⟨rfl, rfl, rfl, by decide +kernel, rfl, by decide +kernel, by decide +kernel⟩
theorem ok_pick {f f1 : Addr} {fd fd1 : FuncData} (T0 : Txt mg) (D : Df K mg "_law_pick" sPick ["_law_row", "_law_things"] f fd) (D1 : Df K mg "_law_taken" sTaken ["_law_row", "_law_many"] f1 fd1) : FnOk P w K mg base CX0 2 f fd ["_law_row", "_law_things"] (spPick K) := by
  refine D.F.ok scPick (fun vs H Q E h => ?_) (fun cdv A outer s H vs Q E hr h => ?_)
  · obtain ⟨l, t, xs, rfl, _⟩ := h
    rfl
  · obtain ⟨l, t, xs, rfl, hR, hne, ht, h0, h1, q⟩ := h
    refine ⟨_, pss_one (ps_ret (pe_ix ix_list (pv 1) (pe_call (ok_taken T0 D1) hr (by rfl) D1.g D1.F.kp D1.b .nil pass0 (pa_cons (pv 0) (pa_cons (pe_callB call_len_seq (by rfl) T0.len PySem.boot_len (pa_cons (pv 1) pa_nil)) pa_nil))) (fun _ _ => rfl))), ?_⟩
    refine ⟨_, rfl, _, rfl, _, rfl, t, xs, rfl, .inl (SqL.of ht), l, _, rfl, hR, by omega, by omega, fun k H2 k0 k1 e hR2 => ?_⟩
    have hk : k.toNat < xs.length := by omega
    exact ⟨t, xs, k, _, rfl, rfl, SqL.of (e _ _ hne ht), at_of (j := k.toNat) (by omega) (List.getElem?_eq_getElem hk), q k.toNat _ H2 (List.getElem?_eq_getElem hk) e hR2⟩
theorem scSigned : FnScope ["_law_row", "_law_most"] ["_law_row", "_law_most"] (defScope sSigned) := ⟨rfl, rfl, rfl, by decide +kernel, rfl, by decide +kernel, by decide +kernel⟩
theorem ok_signed {f f1 : Addr} {fd fd1 : FuncData} (T0 : Txt mg) (D : Df K mg "_law_signed" sSigned ["_law_row", "_law_most"] f fd) (D1 : Df K mg "_law_taken" sTaken ["_law_row", "_law_many"] f1 fd1) : FnOk P w K mg base CX0 2 f fd ["_law_row", "_law_most"] (spSigned K) := by
  refine D.F.ok scSigned (fun vs H Q E h => ?_) (fun cdv A outer s H vs Q E hr h => ?_)
  · obtain ⟨l, m, rfl, _⟩ := h
    rfl
  · obtain ⟨l, m, rfl, hR, h0, h1, q⟩ := h
    refine ⟨_, pss_one (ps_ret (pe_op op_sub (pe_call (ok_taken T0 D1) hr (by rfl) D1.g D1.F.kp D1.b .nil pass0 (pa_cons (pv 0) (pa_cons (pe_op op_add (pe_op op_mul pe_int (pv 1)) pe_int) pa_nil))) (pv 1))), ?_⟩
    refine ⟨_, rfl, _, rfl, _, _, rfl, rfl, .inl (by decide), _, _, rfl, rfl, l, _, rfl, hR, by omega, by omega, fun k H2 k0 k1 e hR2 => ?_⟩
    exact ⟨_, rfl, _, _, rfl, rfl, q _ H2 (by omega) (by omega) e hR2⟩
end
end Gk

/-! what _law_ink keeps: the keys of a dict of cells, lists of cells -/
namespace Gk
open PySem PySem.Spec PyProof.Rows L2
open Evl (Ex given)
def inF (p : C2) : Prop := (0 ≤ p.1 ∧ p.1 < 6) ∧ (0 ≤ p.2 ∧ p.2 < 6)
def Fk (kvs : List (List Key × V)) : Prop := ∃ ps : List C2, kvs.map (·.1) = ps.map (fun p => k2 p.1 p.2) ∧ ps.Nodup ∧ ∀ p ∈ ps, inF p
theorem Fk.nil : Fk [] := ⟨[], rfl, List.nodup_nil, fun _ h => by cases h⟩
theorem len_inF {ps : List C2} (hn : ps.Nodup) (h : ∀ p ∈ ps, inF p) : ps.length ≤ 36 := by
  have := len_sub ps (grid 0 0 6 6) hn fun p hp => by
    have z := h p hp
    unfold inF at z
    rw [mem_grid]
    omega
  rw [grid_len] at this
  exact this
theorem Fk.len {kvs : List (List Key × V)} (h : Fk kvs) : kvs.length ≤ 36 := by
  obtain ⟨ps, e, hn, hi⟩ := h
  have := len_inF hn hi
  have l := congrArg List.length e
  rw [List.length_map, List.length_map] at l
  omega
theorem Fk.put {kvs : List (List Key × V)} (h : Fk kvs) {r c : Int} (hf : inF (r, c)) (v : V) : Fk (putK kvs (k2 r c) v) := by
  obtain ⟨ps, e, hn, hi⟩ := h
  unfold putK
  by_cases a : (kvs.any fun kv => decide (kv.1 = k2 r c)) = true
  · rw [if_pos a]
    refine ⟨ps, ?_, hn, hi⟩
    rw [List.map_map, ← e]
    refine List.map_congr_left fun kv _ => ?_
    show (if kv.1 = k2 r c then (kv.1, v) else kv).1 = kv.1
    split <;> rfl
  · rw [if_neg a]
    refine ⟨ps ++ [(r, c)], ?_, ?_, ?_⟩
    · rw [List.map_append, List.map_append, e]
      rfl
    · refine List.nodup_append.mpr ⟨hn, List.pairwise_singleton _ _, fun p hp q hq e2 => a ?_⟩
      rw [List.mem_singleton.mp hq] at e2
      have hk : k2 r c ∈ kvs.map (·.1) := by
        rw [e]
        exact List.mem_map.mpr ⟨p, hp, by rw [e2]⟩
      obtain ⟨kv, hkv, ek⟩ := List.mem_map.mp hk
      exact List.any_eq_true.mpr ⟨kv, hkv, decide_eq_true ek⟩
    · intro p hp
      rcases List.mem_append.mp hp with z | z
      · exact hi p z
      · rw [List.mem_singleton.mp z]
        exact hf
theorem Cells.snoc {H : Hp} {vs : List V} {cs : List C2} {v : V} {c : C2} (h : Cells H vs cs) (hp : Pair2 H v c) : Cells H (vs ++ [v]) (cs ++ [c]) := Paired.snoc h hp
theorem Cells.app {H : Hp} : ∀ {vs : List V} {cs : List C2} {vs' : List V} {cs' : List C2}, Cells H vs cs → Cells H vs' cs' → Cells H (vs ++ vs') (cs ++ cs')
  | _, _, _, _, .nil, h => h
  | _, _, _, _, .cons a t, h => .cons a (Cells.app t h)
/-- what a comprehension that makes cells has made -/
def Cw2 (H0 : Hp) (D : Addr) (cs : List C2) (H' : Hp) : Prop := H0 D = none ∧ Ex H0 H' ∧ ∃ acc, H' D = some (.lst acc) ∧ Cells H' acc cs
theorem Cw2.start {H0 : Hp} {D : Addr} (hD : H0 D = none) : Cw2 H0 D [] (upd H0 D (.lst [])) := ⟨hD, Evl.Ex.new hD, [], upd_same, .nil⟩
theorem Cw2.step {H0 H' : Hp} {D p : Addr} {cs : List C2} {c : C2} (h : Cw2 H0 D cs H') (hl : cs.length < 40000) (hp : H' p = none) :
    ∃ acc, upd H' p (.tup [.int c.1, .int c.2]) D = some (.lst acc) ∧ acc.length < sizeLine ∧ Cw2 H0 D (cs ++ [c]) (upd (upd H' p (.tup [.int c.1, .int c.2])) D (.lst (acc ++ [.ref p]))) := by
  obtain ⟨hD, e, acc, ha, hc⟩ := h
  have e1 := Evl.Ex.new (o := HO.tup [.int c.1, .int c.2]) hp
  have ha1 := e1 _ _ ha
  have hl2 := Cells.len hc
  have tx : Tx (upd H' p (.tup [.int c.1, .int c.2])) (upd (upd H' p (.tup [.int c.1, .int c.2])) D (.lst (acc ++ [.ref p]))) := Tx.up fun xs z => by rw [ha1] at z; cases z
  refine ⟨acc, ha1, Evl.sz_lt (by omega), hD, Evl.Ex.mut (e.trans e1) hD, _, upd_same, Cells.snoc (hc.tx ((Tx.of e1).trans tx)) ?_⟩
  exact ⟨p, rfl, tx _ _ upd_same⟩
/-- a pair's ints -/
def kOf (H : Hp) (v : V) : C2 := match v with
  | .ref t => match H t with
    | some (.tup [.int i, .int j]) => (i, j)
    | _ => (0, 0)
  | _ => (0, 0)
theorem kOf_eq {H : Hp} {v : V} {c : C2} (h : Pair2 H v c) : kOf H v = c := by
  obtain ⟨a, rfl, ha⟩ := h
  unfold kOf
  simp only [ha]
theorem Cells.mem {H : Hp} {vs : List V} {cs : List C2} (h : Cells H vs cs) : ∀ v ∈ vs, Pair2 H v (kOf H v) := by
  intro v hv
  obtain ⟨i, hi⟩ := List.getElem?_of_mem hv
  obtain ⟨c, _, hp⟩ := Cells.at h hi
  rw [kOf_eq hp]
  exact hp
theorem Cells.keys {H : Hp} : ∀ {vs : List V} {cs : List C2}, Cells H vs cs → vs.map (kOf H) = cs
  | _, _, .nil => rfl
  | _, _, .cons h t => by rw [List.map_cons, kOf_eq h, Cells.keys t]
theorem Cells.of {H : Hp} : ∀ {vs : List V}, (∀ v ∈ vs, Pair2 H v (kOf H v)) → Cells H vs (vs.map (kOf H))
  | [], _ => .nil
  | v :: vs, h => .cons (h v List.mem_cons_self) (Cells.of fun x hx => h x (List.mem_cons_of_mem _ hx))
/-- sorted cells are an ink -/
theorem good_sorted {H : Hp} {xs ys : List V} {cs : List C2} {dr dc : Int} (h : Cells H xs cs) (hn : cs.Nodup) (hd : (-9 ≤ dr ∧ dr ≤ 9) ∧ -9 ≤ dc ∧ dc ≤ 9) (hi : ∀ c ∈ cs, (dr ≤ c.1 ∧ c.1 < dr + 6) ∧ (dc ≤ c.2 ∧ c.2 < dc + 6))
    (hs : SrtO.Srtd (ltP (kOf H)) ys) (hb : SrtO.Stb (ltP (kOf H)) ys xs) : Cells H ys (ys.map (kOf H)) ∧ Good (ys.map (kOf H)) ∧ ∀ c ∈ ys.map (kOf H), (dr ≤ c.1 ∧ c.1 < dr + 6) ∧ (dc ≤ c.2 ∧ c.2 < dc + 6) := by
  have hk := Cells.keys h
  have hp := hb.perm.map (kOf H)
  rw [hk] at hp
  refine ⟨Cells.of fun v hv => h.mem v (hb.perm.mem_iff.mp hv), ⟨?_, fun c hc => ?_, ?_⟩, fun c hc => hi c (hp.mem_iff.mp hc)⟩
  · have n2 : (ys.map (kOf H)).Nodup := hp.nodup_iff.mpr hn
    have s2 : (ys.map (kOf H)).Pairwise fun x y => ¬ ltC y x := by
      refine List.pairwise_map.mpr (List.Pairwise.imp (fun {a b} hab => ?_) hs)
      have z := SrtO.lexB_no.mp hab
      unfold ltC
      omega
    refine List.Pairwise.imp₂ (fun a b h1 h2 => ?_) n2 s2
    rcases Int.lt_trichotomy a.1 b.1 with q | q | q
    · exact .inl q
    · rcases Int.lt_trichotomy a.2 b.2 with q2 | q2 | q2
      · exact .inr ⟨q, q2⟩
      · exact absurd (Prod.ext q q2) h1
      · exact absurd (.inr ⟨q.symm, q2⟩) h2
    · exact absurd (.inl q) h2
  · have := hi c (hp.mem_iff.mp hc)
    omega
  · rw [hp.length_eq]
    have := len_sub cs (grid dr dc 6 6) hn fun c hc => by
      have := hi c hc
      rw [mem_grid]
      omega
    rw [grid_len] at this
    omega
/-! ### tests whose outcome does not matter -/
def AnyT (t : TT) (σ : L2.St) (H : Hp) : Prop := ∀ Q : Bool → Hp → Prop, (∀ b, Q b H) → t σ H Q
def AnyV (t : TE) (σ : L2.St) (H : Hp) : Prop := ∀ Q : VK, (∀ b, Q (.bl b) H) → t σ H Q
def IsI (t : TE) (σ : L2.St) (H : Hp) (i : Int) : Prop := ∀ Q : VK, Q (.int i) H → t σ H Q
theorem AnyT.and {t u : TT} {σ : L2.St} {H : Hp} (a : AnyT t σ H) (b : AnyT u σ H) : AnyT (tAnd t u) σ H := fun Q q => a _ fun c => by
  cases c with
  | true => exact iteT (b _ q)
  | false => exact iteF (q false)
theorem AnyT.or {t u : TT} {σ : L2.St} {H : Hp} (a : AnyT t σ H) (b : AnyT u σ H) : AnyT (tOr t u) σ H := fun Q q => a _ fun c => by
  cases c with
  | true => exact iteT (q true)
  | false => exact iteF (b _ q)
theorem AnyT.not {t : TT} {σ : L2.St} {H : Hp} (a : AnyT t σ H) : AnyT (tNot t) σ H := fun Q q => a _ fun c => q (!c)
theorem AnyV.and {t u : TE} {σ : L2.St} {H : Hp} (a : AnyV t σ H) (b : AnyV u σ H) : AnyV (tAndV t u) σ H := fun Q q => a _ fun c => ⟨c, rfl, by
  cases c with
  | true => exact iteT (b _ q)
  | false => exact iteF (q false)⟩
theorem AnyV.test {t : TE} {σ : L2.St} {H : Hp} (a : AnyV t σ H) : AnyT (tTest t) σ H := fun Q q => a _ fun c => ⟨c, rfl, q c⟩
theorem t_chainI {r r' : Int → Int → Bool} {ta tb tc : TE} {σ : L2.St} {H : Hp} {a b c : Int} (ha : IsI ta σ H a) (hb : IsI tb σ H b) (hc : IsI tc σ H c) {Q : VK} (q : Q (.bl (r a b && r' b c)) H) :
    tChain (rI0 fun i j => .bl (r i j)) (rI0 fun i j => .bl (r' i j)) ta tb tc σ H Q := by
  refine ha _ (hb _ ⟨_, _, rfl, rfl, _, rfl, ?_⟩)
  cases e : r a b with
  | true =>
    rw [e] at q
    exact iteT (hc _ ⟨_, _, rfl, rfl, q⟩)
  | false =>
    rw [e] at q
    exact iteF q
theorem AnyV.chain {r r' : Int → Int → Bool} {ta tb tc : TE} {σ : L2.St} {H : Hp} {a b c : Int} (ha : IsI ta σ H a) (hb : IsI tb σ H b) (hc : IsI tc σ H c) : AnyV (tChain (rI0 fun i j => .bl (r i j)) (rI0 fun i j => .bl (r' i j)) ta tb tc) σ H := fun Q q => t_chainI ha hb hc (q _)
theorem IsI.var {σ : L2.St} {H : Hp} {j : Nat} {i : Int} (h : σ[j]? = some (some (.int i))) : IsI (tVar j) σ H i := fun Q q => ⟨_, h, q⟩
theorem IsI.lit {σ : L2.St} {H : Hp} {i : Int} : IsI (tC (.int i)) σ H i := fun Q q => q
theorem IsI.op {g : Int → Int → Int} {ta tb : TE} {σ : L2.St} {H : Hp} {a b : Int} (ha : IsI ta σ H a) (hb : IsI tb σ H b) : IsI (tOp (rI0 fun i j => .int (g i j)) ta tb) σ H (g a b) := fun Q q => ha _ (hb _ ⟨_, _, rfl, rfl, q⟩)
end Gk

/-! _law_ink -/
namespace Gk
open PySem PySem.Spec PyProof.Rows L2
open Evl (Ex given)
/-- what the loops keep: H the heap at the start -/
structure LI (K : PySem.W.Frag) (H : Hp) (l fo ev : Addr) (vs : List V) (ps : List C2) (H' : Hp) : Prop where
  fn : H fo = none
  fe : fo ≠ ev
  el : ev ≠ l
  e : Exl l H H'
  r : RowAt K H' l
  f : ∃ kvs, H' fo = some (.dT kvs) ∧ Fk kvs
  v : H' ev = some (.lst vs)
  c : Cells H' vs ps
section
variable {K : PySem.W.Frag} {H H' H'' : Hp} {l fo ev : Addr} {vs : List V} {ps : List C2}
theorem LI.fl (h : LI K H l fo ev vs ps H') : fo ≠ l := fun z => by
  obtain ⟨kvs, h1, _⟩ := h.f
  obtain ⟨xs, h2⟩ := h.r.lst
  rw [z, h2] at h1
  cases h1
theorem LI.exl (h : LI K H l fo ev vs ps H') (e : Exl l H' H'') (r : RowAt K H'' l) : LI K H l fo ev vs ps H'' :=
  ⟨h.fn, h.fe, h.el, h.e.trans e, r, let ⟨kvs, h1, h2⟩ := h.f; ⟨kvs, e _ _ h.fl h1, h2⟩, e _ _ h.el h.v, h.c.tx (e.tx h.r)⟩
theorem LI.ex (h : LI K H l fo ev vs ps H') (e : Ex H' H'') : LI K H l fo ev vs ps H'' := h.exl (Exl.of e) (h.r.ex e)
theorem RowAt.mut (h : RowAt K H l) {d : Addr} {kvs : List (List Key × V)} {o : HO} (hd : H d = some (.dT kvs)) : RowAt K (upd H d o) l := by
  obtain ⟨a, ns, i, st, rest, h1, h2⟩ := h
  have nl : l ≠ d := fun z => by
    rw [z, hd] at h1
    cases h1
  refine ⟨a, ns, i, st, rest, (upd_ne nl).trans h1, fun H3 e3 => ?_⟩
  rcases h2 (upd H l (.dK [])) Exl.up with z | z
  · have na : a ≠ l := fun q => by
      rw [q] at z
      rcases z with z | ⟨o, z⟩ <;> (rw [upd_same] at z; cases z)
    refine .inl ?_
    have nd : a ≠ d := fun q => by
      rcases z with z | ⟨o, z⟩ <;> (rw [upd_ne na, q, hd] at z; cases z)
    rcases z with z | ⟨o, z⟩
    · rw [upd_ne na] at z
      exact .inl (e3 _ _ na ((upd_ne nd).trans z))
    · rw [upd_ne na] at z
      exact .inr ⟨o, e3 _ _ na ((upd_ne nd).trans z)⟩
  · exact .inr z
theorem LI.put (h : LI K H l fo ev vs ps H') {kvs : List (List Key × V)} (hk : H' fo = some (.dT kvs)) (hf : Fk kvs) {r c : Int} (hi : inF (r, c)) (x : V) : LI K H l fo ev vs ps (upd H' fo (.dT (putK kvs (k2 r c) x))) :=
  ⟨h.fn, h.fe, h.el, h.e.mut h.fn, h.r.mut hk, ⟨_, upd_same, hf.put hi x⟩, (upd_ne h.fe.symm).trans h.v, h.c.tx (Tx.up fun xs z => by rw [hk] at z; cases z)⟩
theorem seqI {A B : TS} {D : Ends} {σ : L2.St} {H : Hp} (R : L2.St → Hp → Prop) (h1 : ∀ nx : L2.St → Hp → Prop, (∀ σ' H', R σ' H' → nx σ' H') → A { D with nx := nx } σ H) (h2 : ∀ σ' H', R σ' H' → B D σ' H') : tSeq A B D σ H := h1 _ h2
theorem iteAny {b : Bool} {A B : Prop} (h1 : A) (h2 : B) : (if b = true then A else B) := by
  cases b with
  | true => exact iteT h1
  | false => exact iteF h2
theorem keys_cells {H : Hp} : ∀ {kvs : List (List Key × V)} {bs : List Addr} {ps : List C2}, IsKeys H kvs bs → kvs.map (·.1) = ps.map (fun p => k2 p.1 p.2) → Cells H (bs.map V.ref) ps
  | [], _, [], .nil, _ => .nil
  | [], _, _ :: _, _, e => by cases e
  | _ :: _, _, [], _, e => by cases e
  | kv :: kvs, b :: bs, p :: ps, .cons h t, e => by
    have e1 : kv.1 = k2 p.1 p.2 := (List.cons.inj e).1
    have e2 := (List.cons.inj e).2
    refine .cons ⟨b, rfl, ?_⟩ (keys_cells t e2)
    rw [h, e1]
    rfl
theorem exl_none {H H' : Hp} {l a : Addr} (e : Exl l H H') (hl : ∃ xs, H' l = some (.lst xs)) (h : H' a = none) : H a = none := by
  cases q : H a with
  | none => rfl
  | some u =>
    have nl : a ≠ l := fun z => by
      obtain ⟨xs, hx⟩ := hl
      rw [z, hx] at h
      cases h
    have := e _ _ nl q
    rw [h] at this
    cases this
def spInk (K : PySem.W.Frag) : Sp := fun vs H Q _ => ∃ l, vs = [.ref l, .int 6, .int 6] ∧ RowAt K H l ∧ ∀ p cs H2, Exl l H H2 → RowAt K H2 l → InkAt H2 p cs → Good cs → (∃ dr dc : Int, ∀ c ∈ cs, (dr ≤ c.1 ∧ c.1 < dr + 6) ∧ (dc ≤ c.2 ∧ c.2 < dc + 6)) → Q (.ref p) H2
end
section
variable {P : Program} {w : World} {K : PySem.W.Frag} {mg : Str → Option Value} {base : Heap}
abbrev nInk : List Str := ["_law_row", "_law_high", "_law_wide", "_law_way", "_law_found", "_law_every", "_law_line", "_law_column", "_law_dense", "_law_cell", "_law_turn", "_law_top", "_law_left", "_law_bottom", "_law_right", "_law_inner", "_law_here", "_law_down"]
theorem scInk : FnScope nInk ["_law_row", "_law_high", "_law_wide"] (defScope sInk) := ⟨rfl, rfl, rfl, by decide +kernel, rfl, by decide +kernel, by decide +kernel⟩
theorem ok_ink {f f1 f2 f3 : Addr} {fd fd1 fd2 fd3 : FuncData} (T0 : Txt mg) (D : Df K mg "_law_ink" sInk ["_law_row", "_law_high", "_law_wide"] f fd) (D1 : Df K mg "_law_taken" sTaken ["_law_row", "_law_many"] f1 fd1)
    (D2 : Df K mg "_law_pick" sPick ["_law_row", "_law_things"] f2 fd2) (D3 : Df K mg "_law_signed" sSigned ["_law_row", "_law_most"] f3 fd3) : FnOk P w K mg base CX0 3 f fd ["_law_row", "_law_high", "_law_wide"] (spInk K) := by
  refine D.F.ok scInk (fun vs H Q E h => ?_) (fun cdv A outer s H vs Q E hr h => ?_)
  · obtain ⟨l, rfl, _⟩ := h
    rfl
  · obtain ⟨l, rfl, hR, q⟩ := h
    have hu := hu_of hr
    have hr1 : Room 1 _ := hr.mono (by decide)
    refine ⟨_, (pss_cons (ps_par (i := 3) (j := 4) (by rfl) scInk.nd rfl rfl (by decide) rfl rfl (pa_cons (pe_call (ok_taken T0 D1) (hr.mono (by decide)) (by rfl) D1.g D1.F.kp D1.b .nil pass0 (pa_cons (pv 0) (pa_cons pe_int pa_nil))) (pa_cons pe_dnewT pa_nil)) (by rfl)) (pss_cons (ps_set (i := 5) scInk.nd rfl (.inl rfl) (pe_lst pa_nil)) (pss_cons (ps_for PassesOwn.never rfl (pi_range1 (by rfl) T0.range (pa_cons (pv 1) pa_nil)) (pg_name (i := 6) scInk.nd rfl (.inr rfl)) (pss_one (ps_set (i := 5) scInk.nd rfl (.inl rfl) (pe_op op_cat (pv 5) (pe_lc (own := [("_law_column", 7)]) (g := gName 7) (tt := tYes) (by rfl) scInk.nd (pi_range1 (by rfl) T0.range (pa_cons (pv 2) pa_nil)) (blkOk_by (N := nInk) (sc := defScope sInk) (by decide +kernel)) (fun _ _ _ _ _ => (pg_name (i := 7) scInk.nd rfl (.inl rfl))) (fun _ _ _ _ _ => pts_nil) (fun _ _ _ _ _ => (pe_tup (pa_cons (pv 6) (pa_cons (pv 7) pa_nil))))))))) (pss_cons (ps_if (pt_cmpR op_lt (pv 3) pe_int (nomark _)) (pss_cons (ps_set (i := 8) scInk.nd rfl (.inl rfl) (pe_call (ok_pick T0 D2 D1) (hr.mono (by decide)) (by rfl) D2.g D2.F.kp D2.b .nil pass0 (pa_cons (pv 0) (pa_cons (pe_lst (pa_cons pe_int (pa_cons pe_int (pa_cons pe_int (pa_cons pe_int pa_nil))))) pa_nil)))) (pss_one (ps_for PassesOwn.never rfl (pi_list (pv 5)) (pg_name (i := 9) scInk.nd rfl (.inl rfl)) (pss_one (ps_if (pt_cmpR op_eq (pe_cmpR op_eq (pe_call (ok_taken T0 D1) (hr.mono (by decide)) (by rfl) D1.g D1.F.kp D1.b .nil pass0 (pa_cons (pv 0) (pa_cons (pv 8) pa_nil))) pe_int (nomark _)) (pe_cmpR op_eq (pv 3) pe_int (nomark _)) (nomark _)) (pss_one (ps_dput hu (pv 4) (pv 9) pe_bl rfl)) pss_nil))))) (pss_one (ps_if (pt_cmpR op_lt (pv 3) pe_int (nomark _)) (pss_one (ps_for PassesOwn.never rfl (pi_range1 (by rfl) T0.range (pa_cons (pe_op op_add pe_int (pe_call (ok_taken T0 D1) (hr.mono (by decide)) (by rfl) D1.g D1.F.kp D1.b .nil pass0 (pa_cons (pv 0) (pa_cons pe_int pa_nil)))) pa_nil)) (pg_name (i := 10) scInk.nd rfl (.inl rfl)) (pss_cons (ps_par (i := 11) (j := 12) (by rfl) scInk.nd rfl rfl (by decide) rfl rfl (pa_cons (pe_call (ok_taken T0 D1) (hr.mono (by decide)) (by rfl) D1.g D1.F.kp D1.b .nil pass0 (pa_cons (pv 0) (pa_cons (pv 1) pa_nil))) (pa_cons (pe_call (ok_taken T0 D1) (hr.mono (by decide)) (by rfl) D1.g D1.F.kp D1.b .nil pass0 (pa_cons (pv 0) (pa_cons (pv 2) pa_nil))) pa_nil)) (by rfl)) (pss_cons (ps_asg (pe_tup (pa_cons (pe_op op_add (pe_op op_add (pv 11) pe_int) (pe_call (ok_taken T0 D1) (hr.mono (by decide)) (by rfl) D1.g D1.F.kp D1.b .nil pass0 (pa_cons (pv 0) (pa_cons (pe_op op_sub (pv 1) (pv 11)) pa_nil)))) (pa_cons (pe_op op_add (pe_op op_add (pv 12) pe_int) (pe_call (ok_taken T0 D1) (hr.mono (by decide)) (by rfl) D1.g D1.F.kp D1.b .nil pass0 (pa_cons (pv 0) (pa_cons (pe_op op_sub (pv 2) (pv 12)) pa_nil)))) pa_nil))) (pg_tup rfl (pgs_cons (pg_name (i := 13) scInk.nd rfl (.inl rfl)) (pgs_cons (pg_name (i := 14) scInk.nd rfl (.inr rfl)) pgs_nil)))) (pss_one (ps_for PassesOwn.never rfl (pi_list (pv 5)) (pg_tup rfl (pgs_cons (pg_name (i := 6) scInk.nd rfl (.inr rfl)) (pgs_cons (pg_name (i := 7) scInk.nd rfl (.inl rfl)) pgs_nil))) (pss_cons (ps_set (i := 15) scInk.nd rfl (.inl rfl) (pe_and (pe_chain op_lt op_lt (pv 11) (pv 6) (pe_op op_sub (pv 13) pe_int)) (pe_one (pe_chain op_lt op_lt (pv 12) (pv 7) (pe_op op_sub (pv 14) pe_int))))) (pss_one (ps_if (PW.pt (pw_and (pt_chain op_le op_lt (pv 11) (pv 6) (pv 13)) (pw_and (pt_chain op_le op_lt (pv 12) (pv 7) (pv 14)) (pw_and1 (PW.pt (pw_or (pt_cmpR op_eq (pv 3) pe_int (nomark _)) (pw_or1 (pt_not (pt_val (pv 15)))))))))) (pss_one (ps_dput hu (pv 4) (pe_tup (pa_cons (pv 6) (pa_cons (pv 7) pa_nil))) pe_bl rfl)) pss_nil))))))))) (pss_cons (ps_set (i := 16) scInk.nd rfl (.inl rfl) (pe_tup (pa_cons (pe_call (ok_taken T0 D1) (hr.mono (by decide)) (by rfl) D1.g D1.F.kp D1.b .nil pass0 (pa_cons (pv 0) (pa_cons (pv 1) pa_nil))) (pa_cons (pe_call (ok_taken T0 D1) (hr.mono (by decide)) (by rfl) D1.g D1.F.kp D1.b .nil pass0 (pa_cons (pv 0) (pa_cons (pv 2) pa_nil))) pa_nil)))) (pss_one (ps_for PassesOwn.never rfl (pi_range1 (by rfl) T0.range (pa_cons (pe_op op_add pe_int (pe_call (ok_taken T0 D1) (hr.mono (by decide)) (by rfl) D1.g D1.F.kp D1.b .nil pass0 (pa_cons (pv 0) (pa_cons (pe_op op_mul (pv 1) (pv 2)) pa_nil)))) pa_nil)) (pg_name (i := 10) scInk.nd rfl (.inl rfl)) (pss_cons (ps_dput hu (pv 4) (pv 16) pe_bl rfl) (pss_cons (ps_asg (pe_call (ok_pick T0 D2 D1) (hr.mono (by decide)) (by rfl) D2.g D2.F.kp D2.b .nil pass0 (pa_cons (pv 0) (pa_cons (pe_op op_cat (pe_lst (pa_cons (pe_tup (pa_cons pe_int (pa_cons pe_int pa_nil))) (pa_cons (pe_tup (pa_cons pe_int (pa_cons (pe_un un_neg pe_int) pa_nil))) (pa_cons (pe_tup (pa_cons pe_int (pa_cons pe_int pa_nil))) (pa_cons (pe_tup (pa_cons (pe_un un_neg pe_int) (pa_cons pe_int pa_nil))) pa_nil))))) (pe_op op_rep (pe_lst (pa_cons (pe_tup (pa_cons pe_int (pa_cons pe_int pa_nil))) (pa_cons (pe_tup (pa_cons (pe_un un_neg pe_int) (pa_cons pe_int pa_nil))) pa_nil))) (pe_op op_sub (pv 3) pe_int))) pa_nil))) (pg_tup rfl (pgs_cons (pg_name (i := 17) scInk.nd rfl (.inr rfl)) (pgs_cons (pg_name (i := 14) scInk.nd rfl (.inr rfl)) pgs_nil)))) (pss_one (ps_if (PW.pt (pw_and (pt_chain op_le op_lt pe_int (pe_op op_add (pe_ix ix_tup (pv 16) pe_int (fun _ _ => rfl)) (pv 17)) (pv 1)) (pw_and1 (pt_chain op_le op_lt pe_int (pe_op op_add (pe_ix ix_tup (pv 16) pe_int (fun _ _ => rfl)) (pv 14)) (pv 2))))) (pss_one (ps_set (i := 16) scInk.nd rfl (.inl rfl) (pe_tup (pa_cons (pe_op op_add (pe_ix ix_tup (pv 16) pe_int (fun _ _ => rfl)) (pv 17)) (pa_cons (pe_op op_add (pe_ix ix_tup (pv 16) pe_int (fun _ _ => rfl)) (pv 14)) pa_nil))))) pss_nil)))))))))) (pss_cons (ps_asg (pe_ifExp (pt_cmpR op_eq (pe_call (ok_taken T0 D1) (hr.mono (by decide)) (by rfl) D1.g D1.F.kp D1.b .nil pass0 (pa_cons (pv 0) (pa_cons pe_int pa_nil))) pe_int (nomark _)) (pe_tup (pa_cons (pe_call (ok_signed T0 D3 D1) (hr.mono (by decide)) (by rfl) D3.g D3.F.kp D3.b .nil pass0 (pa_cons (pv 0) (pa_cons pe_int pa_nil))) (pa_cons (pe_call (ok_signed T0 D3 D1) (hr.mono (by decide)) (by rfl) D3.g D3.F.kp D3.b .nil pass0 (pa_cons (pv 0) (pa_cons pe_int pa_nil))) pa_nil))) (pe_tup (pa_cons pe_int (pa_cons pe_int pa_nil)))) (pg_tup rfl (pgs_cons (pg_name (i := 17) scInk.nd rfl (.inr rfl)) (pgs_cons (pg_name (i := 14) scInk.nd rfl (.inr rfl)) pgs_nil)))) (pss_one (ps_ret (pe_callTy call_tuple_of (by rfl) T0.tuple (by decide +kernel) (pa_cons (pe_callB cr_sortedPO (by rfl) T0.sorted (by decide +kernel) (pa_cons (pe_lc (own := [("_law_line", 6), ("_law_column", 7)]) (g := gTup K 2 (gCons (gName 6) (gCons (gName 7) gNil))) (tt := tYes) (by rfl) scInk.nd (pi_list (pe_callTy (call_list_dT rfl) (by rfl) T0.list (by decide +kernel) (pa_cons (pv 4) pa_nil))) (blkOk_by (N := nInk) (sc := defScope sInk) (by decide +kernel)) (fun _ _ _ _ _ => (pg_tup rfl (pgs_cons (pg_name (i := 6) scInk.nd rfl (.inl rfl)) (pgs_cons (pg_name (i := 7) scInk.nd rfl (.inl rfl)) pgs_nil)))) (fun _ _ _ _ _ => pts_nil) (fun _ _ _ _ _ => (pe_tup (pa_cons (pe_op op_add (pv 6) (pv 17)) (pa_cons (pe_op op_add (pv 7) (pv 14)) pa_nil))))) pa_nil)) pa_nil))))))))), ?_⟩
    have s2 : (2 : Nat) ≤ sizeLine := by decide
    refine ⟨_, rfl, l, _, rfl, hR, by decide, by decide, fun way H1 w0 w1 e1 hR1 => ?_⟩
    refine fun fo hfo => ⟨_, _, rfl, ?_⟩
    refine ⟨Nat.zero_le _, fun ev0 hev0 => ?_⟩
    have hfH : H fo = none := exl_none e1 hR1.lst hfo
    have ef : Ex H1 (upd (upd H1 fo (.dT [])) ev0 (.lst [])) := (Evl.Ex.new hfo).trans (Evl.Ex.new hev0)
    have nl : ∀ {H' : Hp} {a : Addr}, RowAt K H' l → H' a = none → a ≠ l := fun h ha z => by
      obtain ⟨xs, hx⟩ := h.lst
      rw [z, hx] at ha
      cases ha
    have L0 : LI K H l fo ev0 [] [] (upd (upd H1 fo (.dT [])) ev0 (.lst [])) := ⟨hfH, ne_of_none upd_same hev0, nl (hR1.ex (Evl.Ex.new hfo)) hev0, e1.trans (Exl.of ef), hR1.ex ef, ⟨[], (Evl.Ex.new (o := HO.lst []) hev0) _ _ upd_same, Fk.nil⟩, upd_same, .nil⟩
    -- the frame's cells
    refine ⟨_, rfl, 6, rfl, by decide, by decide, for_range (lo := 0) (n := (6 : Int).toNat)
      (fun i σ H' => ∃ ev vs ps x6, σ = [some (.ref l), some (.int 6), some (.int 6), some (.int way), some (.ref fo), some (.ref ev), x6, none, none, none, none, none, none, none, none, none, none, none] ∧ LI K H l fo ev vs ps H' ∧ vs.length = 6 * i ∧ ∀ p ∈ ps, inF p)
      ⟨ev0, [], [], none, rfl, L0, rfl, fun p hp => by cases hp⟩ ?_ ?_⟩
    · rintro i σ H' hi ⟨ev, vs, ps, x6, rfl, L, hlen, hF⟩
      have hi6 : i < 6 := hi
      refine ⟨_, rfl, _, rfl, 6, rfl, by decide, by decide, fun Dn hDn => lc_range (lo := 0) (n := (6 : Int).toNat) (fun k Hk => Cw2 H' Dn ((List.range k).map fun (j : Nat) => ((0 + (i : Int), 0 + (j : Int)) : C2)) Hk) (Cw2.start hDn) ?_ ?_⟩
      · intro k Hk hk c
        have hk6 : k < 6 := hk
        refine ⟨rfl, yes_of ⟨_, rfl, _, rfl, s2, fun p hp => ?_⟩⟩
        have z := c.step (c := (0 + (i : Int), 0 + (k : Int))) (by rw [List.length_map, List.length_range]; omega) hp
        rw [List.range_succ, List.map_append]
        exact z
      · rintro Hk ⟨_, ek, acc, hacc, hcc⟩
        have L2 := L.ex ek
        have hl2 := Cells.len hcc
        rw [List.length_map, List.length_range] at hl2
        refine ⟨ev, Dn, vs, acc, rfl, rfl, L2.v, hacc, Nat.le_of_lt (Evl.sz_lt (by omega)), fun p hp => ?_⟩
        have en := Evl.Ex.new (o := HO.lst (vs ++ acc)) hp
        obtain ⟨kvs, hkv, hfk⟩ := L2.f
        refine ⟨p, vs ++ acc, _, _, rfl, ⟨hfH, ne_of_none hkv hp, nl L2.r hp, L2.e.trans (Exl.of en), L2.r.ex en, ⟨kvs, en _ _ hkv, hfk⟩, upd_same, (Cells.app L2.c hcc).tx (Tx.of en)⟩, ?_, ?_⟩
        · rw [List.length_append, hlen]
          show 6 * i + acc.length = _
          have : acc.length = 6 := hl2
          omega
        · intro p hp
          rcases List.mem_append.mp hp with z | z
          · exact hF p z
          · obtain ⟨j, hj, rfl⟩ := List.mem_map.mp z
            have := List.mem_range.mp hj
            have j6 : j < 6 := this
            unfold inF
            simp only
            omega
    · rintro σ H2 ⟨ev, vs, ps, x6, rfl, L, hlen, hF⟩
      dsimp only
      refine seqI (fun σ' H' => ∃ x6 x7 x8 x9 x10 x11 x12 x13 x14 x15 x16 x17, σ' = [some (.ref l), some (.int 6), some (.int 6), some (.int way), some (.ref fo), some (.ref ev), x6, x7, x8, x9, x10, x11, x12, x13, x14, x15, x16, x17] ∧ LI K H l fo ev vs ps H') (fun nx hnx => ?_) ?_
      · refine ⟨_, rfl, _, _, rfl, rfl, _, rfl, ?_⟩
        by_cases hw2 : way < 2
        · rw [decide_eq_true hw2]
          refine iteT ⟨_, rfl, (by decide : (4 : Nat) ≤ sizeLine), fun t ht => ?_⟩
          have et := Evl.Ex.new (o := HO.lst [.int 2, .int 2, .int 3, .int 4]) ht
          have Lt := L.ex et
          refine ⟨l, t, _, rfl, Lt.r, nl L.r ht, upd_same, by decide, by decide, fun k x H3 hk e3 hR3 => ?_⟩
          have L3 := Lt.exl e3 hR3
          obtain ⟨dn, rfl, hd0, hd1⟩ : ∃ dn : Int, x = .int dn ∧ 0 < dn ∧ dn < 1073741824 := by
            match k, hk with
            | 0, hk => exact ⟨2, (Option.some.inj hk).symm, by decide, by decide⟩
            | 1, hk => exact ⟨2, (Option.some.inj hk).symm, by decide, by decide⟩
            | 2, hk => exact ⟨3, (Option.some.inj hk).symm, by decide, by decide⟩
            | 3, hk => exact ⟨4, (Option.some.inj hk).symm, by decide, by decide⟩
            | k + 4, hk => cases hk
          refine ⟨_, rfl, ev, rfl, ⟨vs, SqL.of L3.v⟩, for_list (xs := vs) (fun i σ H' => ∃ x9, σ = [some (.ref l), some (.int 6), some (.int 6), some (.int way), some (.ref fo), some (.ref ev), x6, none, some (.int dn), x9, none, none, none, none, none, none, none, none] ∧ LI K H l fo ev vs ps H')
            ⟨none, rfl, L3⟩ (fun i σ H' _ ⟨_, _, h⟩ => SqL.of h.v) ?_ ?_⟩
          · rintro i v σ H' hiv ⟨x9, rfl, L⟩
            obtain ⟨c, hci, a, rfl, ha⟩ := Cells.at L.c hiv
            refine ⟨_, rfl, _, rfl, l, _, rfl, L.r, hd0, hd1, fun z H4 z0 z1 e4 hR4 => ⟨rfl, _, rfl, rfl, rfl, _, rfl, ?_⟩⟩
            have L4 := L.exl e4 hR4
            refine iteAny ?_ ⟨_, rfl, L4⟩
            obtain ⟨kvs, hk, hfk⟩ := L4.f
            have hl := hfk.len
            refine ⟨_, rfl, _, rfl, fo, _, rfl, DPut.t (k := k2 c.1 c.2) hk ((e4.tx L.r) _ _ ha) (Evl.sz_lt (by omega)), ⟨_, rfl, L4.put hk hfk (hF c (List.mem_of_getElem? hci)) _⟩⟩
          · rintro σ H' ⟨x9, rfl, L⟩
            exact hnx _ _ ⟨_, _, _, _, _, _, _, _, _, _, _, _, rfl, L⟩
        · rw [decide_eq_false hw2]
          refine iteF ⟨_, rfl, _, _, rfl, rfl, _, rfl, ?_⟩
          by_cases hw4 : way < 4
          · rw [decide_eq_true hw4]
            refine iteT ⟨_, rfl, l, _, rfl, L.r, by decide, by decide, fun tn H3 t0 t1 e3 hR3 => ?_⟩
            have L3 := L.exl e3 hR3
            refine ⟨_, _, rfl, rfl, _, rfl, by omega, by omega, for_range (lo := 0) (n := (1 + tn).toNat) (fun i σ H' => ∃ x6 x7 x10 x11 x12 x13 x14 x15, σ = [some (.ref l), some (.int 6), some (.int 6), some (.int way), some (.ref fo), some (.ref ev), x6, x7, none, none, x10, x11, x12, x13, x14, x15, none, none] ∧ LI K H l fo ev vs ps H')
              ⟨x6, none, none, none, none, none, none, none, rfl, L3⟩ ?_ ?_⟩
            · rintro i σ H' hi ⟨x6, x7, x10, x11, x12, x13, x14, x15, rfl, L⟩
              refine ⟨_, rfl, _, rfl, l, _, rfl, L.r, by decide, by decide, fun tp H4 t0 t1 e4 hR4 => ?_⟩
              have L4 := L.exl e4 hR4
              refine ⟨_, rfl, _, rfl, l, _, rfl, L4.r, by decide, by decide, fun lf H5 l0 l1 e5 hR5 => ?_⟩
              have L5 := L4.exl e5 hR5
              refine ⟨_, _, rfl, ?_⟩
              refine ⟨_, rfl, _, _, rfl, rfl, _, rfl, _, rfl, _, rfl, _, _, rfl, rfl, l, _, rfl, L5.r, by omega, by omega, fun bt H6 b0 b1 e6 hR6 => ?_⟩
              have L6 := L5.exl e6 hR6
              refine ⟨_, _, rfl, rfl, _, rfl, _, _, rfl, rfl, _, rfl, _, rfl, _, rfl, _, _, rfl, rfl, l, _, rfl, L6.r, by omega, by omega, fun rt H7 r0 r1 e7 hR7 => ?_⟩
              have L7 := L6.exl e7 hR7
              refine ⟨_, _, rfl, rfl, s2, fun pt hpt => ?_⟩
              have L8 := L7.ex (Evl.Ex.new (o := HO.tup [.int (tp + 1 + bt), .int (lf + 1 + rt)]) hpt)
              refine ⟨pt, _, rfl, SqT.of upd_same, rfl, _, _, rfl, _, _, rfl, rfl, ?_⟩
              refine ⟨_, rfl, ev, rfl, ⟨vs, SqL.of L8.v⟩, for_list (xs := vs) (fun _ σ H' => ∃ x6 x7 x15, σ = [some (.ref l), some (.int 6), some (.int 6), some (.int way), some (.ref fo), some (.ref ev), x6, x7, none, none, some (.int (0 + (i : Nat))), some (.int tp), some (.int lf), some (.int (tp + 1 + bt)), some (.int (lf + 1 + rt)), x15, none, none] ∧ LI K H l fo ev vs ps H')
                ⟨x6, x7, x15, rfl, L8⟩ (fun i σ H' _ ⟨_, _, _, _, h⟩ => SqL.of h.v) ?_ ?_⟩
              · rintro j v σ H' hjv ⟨x6, x7, x15, rfl, L⟩
                obtain ⟨c, hcj, a, rfl, ha⟩ := Cells.at L.c hjv
                refine ⟨a, _, rfl, SqT.of ha, rfl, _, _, rfl, _, _, rfl, rfl, ?_⟩
                refine (AnyV.and (AnyV.chain (IsI.var rfl) (IsI.var rfl) (IsI.op (IsI.var rfl) IsI.lit)) (AnyV.chain (IsI.var rfl) (IsI.var rfl) (IsI.op (IsI.var rfl) IsI.lit))) _ fun b15 => ?_
                refine (AnyT.and (AnyV.test (AnyV.chain (IsI.var rfl) (IsI.var rfl) (IsI.var rfl))) (AnyT.and (AnyV.test (AnyV.chain (IsI.var rfl) (IsI.var rfl) (IsI.var rfl))) (AnyT.or (fun Q q => ⟨_, rfl, rfl, _, rfl, q _⟩) (AnyT.not fun Q q => ⟨_, rfl, b15, rfl, q b15⟩)))) _ fun b => ?_
                refine iteAny ?_ ⟨_, _, _, rfl, L⟩
                obtain ⟨kvs, hk, hfk⟩ := L.f
                have hl := hfk.len
                refine ⟨_, rfl, _, rfl, _, rfl, s2, fun pk hpk => ?_⟩
                have ek := Evl.Ex.new (o := HO.tup [.int c.1, .int c.2]) hpk
                exact ⟨fo, _, rfl, DPut.t (k := k2 c.1 c.2) (ek _ _ hk) upd_same (Evl.sz_lt (by omega)), ⟨_, _, _, rfl, (L.ex ek).put (ek _ _ hk) hfk (hF c (List.mem_of_getElem? hcj)) _⟩⟩
              · rintro σ H' ⟨x6, x7, x15, rfl, L⟩
                exact ⟨_, _, _, _, _, _, _, _, rfl, L⟩
            · rintro σ H' ⟨x6, x7, x10, x11, x12, x13, x14, x15, rfl, L⟩
              exact hnx _ _ ⟨_, _, _, _, _, _, _, _, _, _, _, _, rfl, L⟩
          · rw [decide_eq_false hw4]
            refine iteF ⟨_, rfl, _, rfl, l, _, rfl, L.r, by decide, by decide, fun r0 H3 r1 r2 e3 hR3 => ?_⟩
            have L3 := L.exl e3 hR3
            refine ⟨_, rfl, _, rfl, l, _, rfl, L3.r, by decide, by decide, fun c0 H4 c1 c2 e4 hR4 => ?_⟩
            have L4 := L3.exl e4 hR4
            refine ⟨s2, fun ph hph => ?_⟩
            have L5 := L4.ex (Evl.Ex.new (o := HO.tup [.int r0, .int c0]) hph)
            refine ⟨_, rfl, _, rfl, _, rfl, _, _, rfl, rfl, .inl (by decide), l, _, rfl, L5.r, by decide, by decide, fun tn H6 t0 t1 e6 hR6 => ?_⟩
            have L6 := L5.exl e6 hR6
            have t36 : tn < 36 := t1
            refine ⟨_, _, rfl, rfl, _, rfl, by omega, by omega, for_range (lo := 0) (n := (1 + tn).toNat) (fun i σ H' => ∃ x10 x14 x17 a c, σ = [some (.ref l), some (.int 6), some (.int 6), some (.int way), some (.ref fo), some (.ref ev), x6, none, none, none, x10, none, none, none, x14, none, some (.ref a), x17] ∧ LI K H l fo ev vs ps H' ∧ H' a = some (.tup [.int c.1, .int c.2]) ∧ inF c)
              ⟨none, none, none, ph, (r0, c0), rfl, L6, e6.tx L5.r _ _ upd_same, ⟨⟨r1, r2⟩, ⟨c1, c2⟩⟩⟩ ?_ ?_⟩
            · rintro i σ H' hi ⟨x10, x14, x17, a, c, rfl, L, ha, hc⟩
              obtain ⟨kvs, hk, hfk⟩ := L.f
              have hl := hfk.len
              refine ⟨_, rfl, _, rfl, fo, _, rfl, DPut.t (k := k2 c.1 c.2) hk ha (Evl.sz_lt (by omega)), ?_⟩
              have Lp := L.put hk hfk hc (.bl true)
              have tp : Tx H' (upd H' fo (.dT (putK kvs (k2 c.1 c.2) (.bl true)))) := Tx.up fun xs z => by rw [hk] at z; cases z
              have hap := tp _ _ ha
              refine ⟨_, rfl, s2, fun p1 h1 => ⟨_, rfl, s2, fun p2 h2 => ⟨s2, fun p3 h3 => ⟨_, rfl, s2, fun p4 h4 => ⟨(by decide : (4 : Nat) ≤ sizeLine), fun q1 g1 => ⟨s2, fun p5 h5 => ⟨_, rfl, s2, fun p6 h6 => ⟨s2, fun q2 g2 => ?_⟩⟩⟩⟩⟩⟩⟩⟩
              have a1 := Evl.Ex.new (o := HO.tup [.int 0, .int 1]) h1
              have a2 := Evl.Ex.new (o := HO.tup [.int 0, .int (-1)]) h2
              have a3 := Evl.Ex.new (o := HO.tup [.int 1, .int 0]) h3
              have a4 := Evl.Ex.new (o := HO.tup [.int (-1), .int 0]) h4
              have a5 := Evl.Ex.new (o := HO.lst [.ref p1, .ref p2, .ref p3, .ref p4]) g1
              have a6 := Evl.Ex.new (o := HO.tup [.int 1, .int 1]) h5
              have a7 := Evl.Ex.new (o := HO.tup [.int (-1), .int 1]) h6
              have a8 := Evl.Ex.new (o := HO.lst [.ref p5, .ref p6]) g2
              refine ⟨_, rfl, _, _, rfl, rfl, q2, _, _, rfl, rfl, upd_same, by omega, by omega, ?_, fun q3 g3 => ?_⟩
              · exact Nat.le_of_lt (Evl.sz_lt (by show 2 * (way - 4).toNat < 100000; omega))
              have a9 := Evl.Ex.new (o := HO.lst (List.replicate (way - 4).toNat [V.ref p5, V.ref p6]).flatten) g3
              have hfl : (List.replicate (way - 4).toNat [V.ref p5, V.ref p6]).flatten.length ≤ 10 := by
                rw [List.length_flatten, List.map_replicate, List.sum_replicate_nat]
                show (way - 4).toNat * 2 ≤ 10
                omega
              refine ⟨q1, q3, _, _, rfl, rfl, a9 _ _ (a8 _ _ (a7 _ _ (a6 _ _ upd_same))), upd_same, Nat.le_of_lt (Evl.sz_lt (by show 4 + _ < 100000; omega)), fun q4 g4 => ?_⟩
              have a10 := Evl.Ex.new (o := HO.lst ([.ref p1, .ref p2, .ref p3, .ref p4] ++ (List.replicate (way - 4).toNat [V.ref p5, V.ref p6]).flatten)) g4
              have aa := a1.trans (a2.trans (a3.trans (a4.trans (a5.trans (a6.trans (a7.trans (a8.trans (a9.trans a10))))))))
              have La := Lp.ex aa
              refine ⟨l, q4, _, rfl, La.r, nl (Lp.ex (a1.trans (a2.trans (a3.trans (a4.trans (a5.trans (a6.trans (a7.trans (a8.trans a9))))))))).r g4, upd_same, by rw [List.length_append]; show 0 < 4 + _; omega, by rw [List.length_append]; show 4 + _ < 1073741824; omega, fun k x H8 hk8 e8 hR8 => ?_⟩
              have L8 := La.exl e8 hR8
              have tx8 := e8.tx La.r
              obtain ⟨dr, dc, m, rfl, hm⟩ : ∃ dr dc m, x = .ref m ∧ H8 m = some (.tup [.int dr, .int dc]) := by
                rcases List.mem_append.mp (List.mem_of_getElem? hk8) with z | z
                · simp only [List.mem_cons, List.not_mem_nil, or_false] at z
                  rcases z with rfl | rfl | rfl | rfl
                  · exact ⟨_, _, _, rfl, tx8 _ _ (a10 _ _ (a9 _ _ (a8 _ _ (a7 _ _ (a6 _ _ (a5 _ _ (a4 _ _ (a3 _ _ (a2 _ _ upd_same)))))))))⟩
                  · exact ⟨_, _, _, rfl, tx8 _ _ (a10 _ _ (a9 _ _ (a8 _ _ (a7 _ _ (a6 _ _ (a5 _ _ (a4 _ _ (a3 _ _ upd_same))))))))⟩
                  · exact ⟨_, _, _, rfl, tx8 _ _ (a10 _ _ (a9 _ _ (a8 _ _ (a7 _ _ (a6 _ _ (a5 _ _ (a4 _ _ upd_same)))))))⟩
                  · exact ⟨_, _, _, rfl, tx8 _ _ (a10 _ _ (a9 _ _ (a8 _ _ (a7 _ _ (a6 _ _ (a5 _ _ upd_same))))))⟩
                · obtain ⟨ys, hy, hx⟩ := List.mem_flatten.mp z
                  rw [(List.mem_replicate.mp hy).2] at hx
                  simp only [List.mem_cons, List.not_mem_nil, or_false] at hx
                  rcases hx with rfl | rfl
                  · exact ⟨_, _, _, rfl, tx8 _ _ (a10 _ _ (a9 _ _ (a8 _ _ (a7 _ _ upd_same))))⟩
                  · exact ⟨_, _, _, rfl, tx8 _ _ (a10 _ _ (a9 _ _ (a8 _ _ upd_same)))⟩
              have ha8 := tx8 _ _ (aa _ _ hap)
              refine ⟨m, _, rfl, SqT.of hm, rfl, _, _, rfl, _, _, rfl, rfl, ?_⟩
              dsimp only [tSeq, tIfS, tAnd, tTest]
              refine t_chainI (a := 0) (b := c.1 + dr) (c := 6) IsI.lit (IsI.op (a := c.1) (b := dr) ?_ (IsI.var rfl)) (IsI.var rfl) ⟨_, rfl, ?_⟩
              · exact fun Q q => ⟨_, rfl, a, _, _, _, rfl, rfl, SqT.of ha8, atI_nat (j := 0) rfl, q⟩
              cases t1 : (decide ((0 : Int) ≤ c.1 + dr) && decide (c.1 + dr < 6)) with
              | false => exact iteF (iteF ⟨_, _, _, a, c, rfl, L8, ha8, hc⟩)
              | true =>
                refine iteT ?_
                refine t_chainI (a := 0) (b := c.2 + dc) (c := 6) IsI.lit (IsI.op (a := c.2) (b := dc) ?_ (IsI.var rfl)) (IsI.var rfl) ⟨_, rfl, ?_⟩
                · exact fun Q q => ⟨_, rfl, a, _, _, _, rfl, rfl, SqT.of ha8, atI_nat (j := 1) rfl, q⟩
                cases t2 : (decide ((0 : Int) ≤ c.2 + dc) && decide (c.2 + dc < 6)) with
                | false => exact iteF ⟨_, _, _, a, c, rfl, L8, ha8, hc⟩
                | true =>
                  rw [Bool.and_eq_true, decide_eq_true_eq, decide_eq_true_eq] at t1 t2
                  refine iteT ⟨_, rfl, a, _, _, _, rfl, rfl, SqT.of ha8, atI_nat (j := 0) rfl, _, rfl, _, _, rfl, rfl, _, rfl, a, _, _, _, rfl, rfl, SqT.of ha8, atI_nat (j := 1) rfl, _, rfl, _, _, rfl, rfl, s2, fun pn hpn => ?_⟩
                  exact ⟨_, _, _, pn, (c.1 + dr, c.2 + dc), rfl, L8.ex (Evl.Ex.new hpn), upd_same, ⟨t1, t2⟩⟩
            · rintro σ H' ⟨x10, x14, x17, a, c, rfl, L, _⟩
              exact hnx _ _ ⟨_, _, _, _, _, _, _, _, _, _, _, _, rfl, L⟩
      · rintro σ H3 ⟨x6, x7, x8, x9, x10, x11, x12, x13, x14, x15, x16, x17, rfl, L⟩
        refine seqI (fun σ' H' => ∃ x6 x7 x8 x9 x10 x11 x12 x13 x15 x16 dr dc, σ' = [some (.ref l), some (.int 6), some (.int 6), some (.int way), some (.ref fo), some (.ref ev), x6, x7, x8, x9, x10, x11, x12, x13, some (.int dc), x15, x16, some (.int dr)] ∧ LI K H l fo ev vs ps H' ∧ (-9 ≤ dr ∧ dr ≤ 9) ∧ -9 ≤ dc ∧ dc ≤ 9) (fun nx hnx => ?_) ?_
        · refine ⟨_, rfl, l, _, rfl, L.r, by decide, by decide, fun k H4 k0 k1 e4 hR4 => ⟨rfl, _, rfl, ?_⟩⟩
          have L4 := L.exl e4 hR4
          refine iteAny ?_ ?_
          · refine ⟨_, rfl, l, _, rfl, L4.r, by decide, by decide, fun dr H5 r0 r1 e5 hR5 => ?_⟩
            have L5 := L4.exl e5 hR5
            refine ⟨_, rfl, l, _, rfl, L5.r, by decide, by decide, fun dc H6 c0 c1 e6 hR6 => ?_⟩
            have L6 := L5.exl e6 hR6
            refine ⟨s2, fun pt hpt => ?_⟩
            exact ⟨pt, _, rfl, SqT.of upd_same, rfl, _, _, rfl, _, _, rfl, rfl, hnx _ _ ⟨_, _, _, _, _, _, _, _, _, _, dr, dc, rfl, L6.ex (Evl.Ex.new hpt), ⟨r0, r1⟩, c0, c1⟩⟩
          · refine ⟨s2, fun pt hpt => ?_⟩
            exact ⟨pt, _, rfl, SqT.of upd_same, rfl, _, _, rfl, _, _, rfl, rfl, hnx _ _ ⟨_, _, _, _, _, _, _, _, _, _, 0, 0, rfl, L4.ex (Evl.Ex.new hpt), ⟨by decide, by decide⟩, by decide, by decide⟩⟩
        · rintro σ H4 ⟨x6, x7, x8, x9, x10, x11, x12, x13, x15, x16, dr, dc, rfl, L, hd⟩
          obtain ⟨kvs, hk, hfk⟩ := L.f
          obtain ⟨qs, hq, hqn, hqi⟩ := hfk
          refine ⟨_, rfl, fo, kvs, rfl, Rd.of hk, fun L1 bs hL hbs => ?_⟩
          have eL := Evl.Ex.new (o := HO.lst (bs.map V.ref)) hL
          have hcb := (keys_cells hbs hq).tx (Tx.of eL)
          have hlb := Cells.len hcb
          have hl36 := len_inF hqn hqi
          refine ⟨L1, rfl, ⟨_, SqL.of upd_same⟩, fun Dn hDn => lc_list (xs := bs.map V.ref) (fun k Hk => Cw2 (upd H4 L1 (.lst (bs.map V.ref))) Dn ((qs.take k).map fun p => ((p.1 + dr, p.2 + dc) : C2)) Hk) (Cw2.start hDn) (fun k Hk _ c => SqL.of (c.2.1 _ _ upd_same)) ?_ ?_⟩
          · intro k x Hk hkx c
            obtain ⟨p, hp, a, rfl, ha⟩ := Cells.at hcb hkx
            refine ⟨a, _, rfl, SqT.of (c.2.1 _ _ ha), rfl, _, _, rfl, _, _, rfl, rfl, rfl, yes_of ⟨_, rfl, _, rfl, _, _, rfl, rfl, _, rfl, _, rfl, _, _, rfl, rfl, s2, fun pn hpn => ?_⟩⟩
            have z := c.step (c := (p.1 + dr, p.2 + dc)) (by rw [List.length_map, List.length_take]; omega) hpn
            rw [List.take_add_one, hp, List.map_append]
            exact z
          · rintro Hk ⟨_, ek, acc, hacc, hcc⟩
            rw [hlb, List.take_length] at hcc
            refine ⟨Dn, acc, kOf Hk, rfl, SqL.of hacc, fun x hx => Cells.mem hcc x hx, fun ys pl hs hb hpl => ?_⟩
            have g := good_sorted hcc ?_ hd ?_ hs hb
            · have es := Evl.Ex.new (o := HO.lst ys) hpl
              refine ⟨pl, ys, rfl, .inl ⟨SqL.of upd_same, fun pt hpt => ?_⟩⟩
              have et := Evl.Ex.new (o := HO.tup ys) hpt
              have ea := eL.trans (ek.trans (es.trans et))
              exact q pt _ _ (L.e.trans (Exl.of ea)) (L.r.ex ea) ⟨ys, upd_same, g.1.tx (Tx.of (es.trans et))⟩ g.2.1 ⟨dr, dc, g.2.2⟩
            · refine List.pairwise_map.mpr (List.Pairwise.imp (fun {a b} hab e => hab ?_) hqn)
              have e1 := congrArg Prod.fst e
              have e2 := congrArg Prod.snd e
              simp only at e1 e2
              exact Prod.ext (by omega) (by omega)
            · intro c hc
              obtain ⟨p, hp, rfl⟩ := List.mem_map.mp hc
              have := hqi p hp
              unfold inF at this
              simp only
              omega
end
end Gk

/-! _law_alike, of ints and of tuples of ints -/
namespace Gk
open PySem PySem.Spec PyProof.Rows L2
open Evl (Ex given)
theorem kitT {K : PySem.W.Frag} {H : Hp} {x : V} {T : String} (h : Kd K H x T) : PySem.W.kitAny K (.type T) [.type "tuple", .type "list"] = some (decide (T = "tuple" ∨ T = "list")) := by
  rcases h.2 with rfl | rfl | rfl | rfl | rfl
  · exact kitAny_cons (b := false) (kit_ty (by decide +kernel)) (fun _ => kitAny_cons (b := false) (kit_ty (by decide +kernel)) (fun _ => rfl) (fun z => by cases z)) (fun z => by cases z)
  · exact kitAny_cons (b := false) (kit_ty (by decide +kernel)) (fun _ => kitAny_cons (b := false) (kit_ty (by decide +kernel)) (fun _ => rfl) (fun z => by cases z)) (fun z => by cases z)
  · exact kitAny_cons (b := false) (kit_ty (by decide +kernel)) (fun _ => kitAny_cons (b := false) (kit_ty (by decide +kernel)) (fun _ => rfl) (fun z => by cases z)) (fun z => by cases z)
  · exact kitAny_cons (b := true) (kit_ty (by decide +kernel)) (fun z => by cases z) (fun _ => rfl)
  · exact kitAny_cons (b := false) (kit_ty (by decide +kernel)) (fun _ => kitAny_cons (b := true) (kit_ty (by decide +kernel)) (fun z => by cases z) (fun _ => rfl)) (fun z => by cases z)
theorem kit_list {K : PySem.W.Frag} {H : Hp} {x : V} {T : String} (h : Kd K H x T) : PySem.W.kitOne K (.type T) (.type "list") = some (decide (T = "list")) := by
  rcases h.2 with rfl | rfl | rfl | rfl | rfl <;> exact kit_ty (by decide +kernel)
theorem kit_str {K : PySem.W.Frag} {H : Hp} {x : V} {T : String} (h : Kd K H x T) : PySem.W.kitOne K (.type T) (.type "str") = some false := by
  rcases h.2 with rfl | rfl | rfl | rfl | rfl <;> exact kit_ty (by decide +kernel)
abbrev nAlike : List Str := ["_law_found", "_law_due", "_law_k"]
def spAlike1 : Sp := fun vs H Q _ => ∃ i : Int, vs = [.int i, .int i] ∧ ∀ H2, Ex H H2 → Q (.bl true) H2
def spAlike2 : Sp := fun vs H Q _ => ∃ (a b : Addr) (xs : List Int), vs = [.ref a, .ref b] ∧ H a = some (.tup (xs.map V.int)) ∧ H b = some (.tup (xs.map V.int)) ∧ xs.length ≤ 100 ∧ ∀ H2, Ex H H2 → Q (.bl true) H2
section
variable {P : Program} {w : World} {K : PySem.W.Frag} {mg : Str → Option Value} {base : Heap}
theorem scAlike : FnScope nAlike ["_law_found", "_law_due"] (defScope sAlike) := ⟨rfl, rfl, rfl, by decide +kernel, rfl, by decide +kernel, by decide +kernel⟩
theorem ok_alike1 {f : Addr} {fd : FuncData} (T0 : Txt mg) (D : Df K mg "_law_alike" sAlike ["_law_found", "_law_due"] f fd) : FnOk P w K mg base CX0 1 f fd ["_law_found", "_law_due"] spAlike1 := by
  refine D.F.ok scAlike (fun vs H Q E h => ?_) (fun cdv A outer s H vs Q E hr h => ?_)
  · obtain ⟨i, rfl, _⟩ := h
    rfl
  · obtain ⟨i, rfl, q⟩ := h
    refine ⟨_, (pss_cons (ps_if (pt_val (pe_callB call_isiT (by rfl) T0.isi (by decide +kernel) (pa_cons (pv 1) (pa_cons (pe_tup (pa_cons (pe_bltn (v := .ty "tuple") (by rfl) T0.tuple (by decide +kernel) rfl) (pa_cons (pe_bltn (v := .ty "list") (by rfl) T0.list (by decide +kernel) rfl) pa_nil))) pa_nil)))) (pss_cons ps_never (pss_cons ps_never (pss_one ps_never))) pss_nil) (pss_cons (ps_if (PW.pt (pw_or (pt_cmp (pc_isN (pv 1))) (pw_or1 (pt_val (pe_callB call_isi (by rfl) T0.isi (by decide +kernel) (pa_cons (pv 1) (pa_cons (pe_bltn (v := .ty "str") (by rfl) T0.str (by decide +kernel) rfl) pa_nil))))))) (pss_one ps_never) pss_nil) (pss_one (ps_ret (pe_and (pe_callB call_isi (by rfl) T0.isi (by decide +kernel) (pa_cons (pv 0) (pa_cons (pe_bltn (v := .ty "int") (by rfl) T0.int (by decide +kernel) rfl) pa_nil))) (pe_and (pe_cmpR op_eq (pe_callB call_isi (by rfl) T0.isi (by decide +kernel) (pa_cons (pv 0) (pa_cons (pe_bltn (v := .ty "bool") (by rfl) T0.bool (by decide +kernel) rfl) pa_nil))) (pe_callB call_isi (by rfl) T0.isi (by decide +kernel) (pa_cons (pv 1) (pa_cons (pe_bltn (v := .ty "bool") (by rfl) T0.bool (by decide +kernel) rfl) pa_nil))) (nomark _)) (pe_one (pe_cmpR op_eq (pv 0) (pv 1) (nomark _))))))))), ?_⟩
    have s2 : (2 : Nat) ≤ sizeLine := by decide
    refine ⟨_, rfl, s2, fun t ht => ?_⟩
    have e1 := Evl.Ex.new (o := HO.tup [.ty "tuple", .ty "list"]) ht
    refine ⟨_, t, _, _, _, _, rfl, upd_same, .cons (.ty _) (.cons (.ty _) .nil), (kd_int i).1, kitT (kd_int (K := K) (H := upd H t (.tup [.ty "tuple", .ty "list"])) i), _, rfl, iteF ?_⟩
    refine ⟨_, rfl, _, rfl, iteF ⟨_, rfl, _, _, _, _, _, rfl, .ty _, (kd_int i).1, kit_str (kd_int (K := K) (H := H) i), _, rfl, iteF ?_⟩⟩
    refine ⟨_, rfl, _, _, _, _, _, rfl, .ty _, (kd_int i).1, kit_int (kd_int (K := K) (H := H) i), _, rfl, iteT ?_⟩
    refine ⟨_, rfl, _, _, _, _, _, rfl, .ty _, (kd_int i).1, kit_bool (kd_int (K := K) (H := H) i), _, rfl, _, _, _, _, _, rfl, .ty _, (kd_int i).1, kit_bool (kd_int (K := K) (H := H) i), rfl, _, rfl, iteT ?_⟩
    refine ⟨_, rfl, _, rfl, rfl, ?_⟩
    rw [decide_eq_true (rfl : V.int i = V.int i)]
    exact q _ e1
theorem ok_alike2 {f : Addr} {fd : FuncData} (T0 : Txt mg) (D : Df K mg "_law_alike" sAlike ["_law_found", "_law_due"] f fd) : FnOk P w K mg base CX0 2 f fd ["_law_found", "_law_due"] spAlike2 := by
  refine D.F.ok scAlike (fun vs H Q E h => ?_) (fun cdv A outer s H vs Q E hr h => ?_)
  · obtain ⟨a, b, xs, rfl, _⟩ := h
    rfl
  · obtain ⟨a, b, xs, rfl, ha, hb, hl, q⟩ := h
    refine ⟨_, (pss_cons (ps_if (pt_val (pe_callB call_isiT (by rfl) T0.isi (by decide +kernel) (pa_cons (pv 1) (pa_cons (pe_tup (pa_cons (pe_bltn (v := .ty "tuple") (by rfl) T0.tuple (by decide +kernel) rfl) (pa_cons (pe_bltn (v := .ty "list") (by rfl) T0.list (by decide +kernel) rfl) pa_nil))) pa_nil)))) (pss_cons (ps_if (PW.pt (pw_or (pt_not (pt_val (pe_callB call_isiT (by rfl) T0.isi (by decide +kernel) (pa_cons (pv 0) (pa_cons (pe_tup (pa_cons (pe_bltn (v := .ty "tuple") (by rfl) T0.tuple (by decide +kernel) rfl) (pa_cons (pe_bltn (v := .ty "list") (by rfl) T0.list (by decide +kernel) rfl) pa_nil))) pa_nil))))) (pw_or1 (pt_cmpR op_ne (pe_callB call_isi (by rfl) T0.isi (by decide +kernel) (pa_cons (pv 0) (pa_cons (pe_bltn (v := .ty "list") (by rfl) T0.list (by decide +kernel) rfl) pa_nil))) (pe_callB call_isi (by rfl) T0.isi (by decide +kernel) (pa_cons (pv 1) (pa_cons (pe_bltn (v := .ty "list") (by rfl) T0.list (by decide +kernel) rfl) pa_nil))) (nomark _))))) (pss_one ps_never) pss_nil) (pss_cons (ps_if (pt_cmpR op_ne (pe_callB call_len_seq (by rfl) T0.len (by decide +kernel) (pa_cons (pv 0) pa_nil)) (pe_callB call_len_seq (by rfl) T0.len (by decide +kernel) (pa_cons (pv 1) pa_nil)) (nomark _)) (pss_one ps_never) pss_nil) (pss_one (ps_ret (pe_cmpR (op_eqD hr.units) (pe_lc (own := [("_law_k", 2)]) (g := gName 2) (by rfl) scAlike.nd (pi_range1 (by rfl) T0.range (pa_cons (pe_callB call_len_seq (by rfl) T0.len (by decide +kernel) (pa_cons (pv 1) pa_nil)) pa_nil)) (blkOk_by (N := nAlike) (sc := defScope sAlike) (by decide +kernel)) (fun _ _ _ _ _ => (pg_name (i := 2) scAlike.nd rfl (.inl rfl))) (fun _ _ _ _ _ => (pts_one (pt_not (pt_val (pe_call (ok_alike1 T0 D) (hr.mono (by decide)) (by rfl) D.g D.F.kp D.b .nil pass0 (pa_cons (pe_ix (show IxR _ (rIxT K) from ix_tup) (pv 0) (pv 2) (fun _ _ => rfl)) (pa_cons (pe_ix (show IxR _ (rIxT K) from ix_tup) (pv 1) (pv 2) (fun _ _ => rfl)) pa_nil))))))) (fun _ _ _ _ _ => (pv 2))) (pe_lst pa_nil) (nomark _)))))) pss_nil) (pss_cons ps_never (pss_one ps_never))), ?_⟩
    have s2 : (2 : Nat) ≤ sizeLine := by decide
    refine ⟨_, rfl, s2, fun t ht => ?_⟩
    have e1 := Evl.Ex.new (o := HO.tup [.ty "tuple", .ty "list"]) ht
    refine ⟨_, t, _, _, _, _, rfl, upd_same, .cons (.ty _) (.cons (.ty _) .nil), (kd_tup (K := K) (e1 _ _ hb)).1, kitT (kd_tup (K := K) (e1 _ _ hb)), _, rfl, iteT ?_⟩
    refine ⟨_, rfl, s2, fun t2 ht2 => ?_⟩
    have e2 := e1.trans (Evl.Ex.new (o := HO.tup [.ty "tuple", .ty "list"]) ht2)
    have ha2 := e2 _ _ ha
    have hb2 := e2 _ _ hb
    refine ⟨_, t2, _, _, _, _, rfl, upd_same, .cons (.ty _) (.cons (.ty _) .nil), (kd_tup (K := K) ha2).1, kitT (kd_tup (K := K) ha2), _, rfl, iteF ?_⟩
    refine ⟨_, rfl, _, _, _, _, _, rfl, .ty _, (kd_tup (K := K) ha2).1, kit_list (kd_tup (K := K) ha2), _, rfl, _, _, _, _, _, rfl, .ty _, (kd_tup (K := K) hb2).1, kit_list (kd_tup (K := K) hb2), rfl, _, rfl, iteF ?_⟩
    refine ⟨_, rfl, a, _, rfl, .inr (SqT.of ha2), _, rfl, b, _, rfl, .inr (SqT.of hb2), rfl, _, rfl, ?_⟩
    rw [decide_eq_true (rfl : V.int ((xs.map V.int).length : Nat) = V.int ((xs.map V.int).length : Nat))]
    refine iteF ?_
    have hlm : (xs.map V.int).length = xs.length := List.length_map _
    refine ⟨_, rfl, b, _, rfl, .inr (SqT.of hb2), _, rfl, by omega, by omega, fun Dn hDn => lc_range (lo := 0) (n := ((xs.map V.int).length : Int).toNat) (fun _ Hk => Ex _ Hk ∧ Hk Dn = some (.lst [])) ⟨Evl.Ex.new hDn, upd_same⟩ ?_ ?_⟩
    · rintro k Hk hk ⟨ek, hkD⟩
      have hkx : k < xs.length := by
        have z : k < ((xs.map V.int).length : Int).toNat := hk
        omega
      have hx : (xs.map V.int)[k]? = some (.int xs[k]) := by
        rw [List.getElem?_map, List.getElem?_eq_getElem hkx]
        rfl
      refine ⟨rfl, _, rfl, _, rfl, a, _, _, _, rfl, rfl, SqT.of (ek _ _ ha2), at_of (j := k) (by omega) hx, _, rfl, _, rfl, b, _, _, _, rfl, rfl, SqT.of (ek _ _ hb2), at_of (j := k) (by omega) hx, xs[k], rfl, fun H3 e3 => ⟨_, rfl, iteF ⟨ek.trans e3, e3 _ _ hkD⟩⟩⟩
    · rintro Hk ⟨ek, hkD⟩
      refine ⟨Nat.zero_le _, fun Dm hDm => ?_⟩
      have e5 := Evl.Ex.new (o := HO.lst []) hDm
      exact ⟨_, _, .lst (SqL.of (e5 _ _ hkD)) .nil, .lst (SqL.of upd_same) .nil, rfl, rfl, q _ (e2.trans (ek.trans e5))⟩
end
end Gk

/-! _law_refused and the lambdas it gets -/
namespace Gk
open PySem PySem.Spec PyProof.Rows L2
open Evl (Ex given)
/-- the own errors -/
structure ErrT (K : PySem.W.Frag) (mg : Str → Option Value) (CI CB CE : Addr) : Prop where
  gI : mg "InkError" = some (.ref CI)
  B : Exn K mg "BadNumber" CB
  E : Exn K mg "EmptyInk" CE
  cB : ExcC K CB
  cE : ExcC K CE
  iB : PySem.W.exmOne K (.ref CB) (.ref CI) = some true
  iE : PySem.W.exmOne K (.ref CE) (.ref CI) = some true
  bb : PySem.W.kitOne K (.ref CB) (.ref CB) = some true
  eb : PySem.W.kitOne K (.ref CE) (.ref CB) = some false
  ee : PySem.W.kitOne K (.ref CE) (.ref CE) = some true
abbrev nRef : List Str := ["_law_work", "e"]
theorem scRef : FnScope nRef ["_law_work"] (defScope sRefused) := ⟨rfl, rfl, rfl, by decide +kernel, rfl, by decide +kernel, by decide +kernel⟩
def tSuite (K : PySem.W.Frag) (CB CE Dc a : Addr) : TS :=
  tRet (tIf (tB (tCB (rIsE K Dc a) (tCons (tVar 1) (tCons (tC (.ref CB)) tNil)))) (tC (.str "number")) (tIf (tB (tCB (rIsE K Dc a) (tCons (tVar 1) (tCons (tC (.ref CE)) tNil)))) (tC (.str "empty")) (tC (.str "other"))))
def TTref (CB CE : Addr) : (XK → Hp → VK → Prop) → Hp → VK → Prop := fun tl H Q =>
  tl (fun cls d H' => (cls = .ref CB ∧ d = none ∧ Q (.str "number") H') ∨ (cls = .ref CE ∧ d = none ∧ Q (.str "empty") H')) H (fun _ H' => Q (.str "") H')
theorem ref_gives {X : Cx} {CI CB CE g : Addr} {cdg : Value} {q : Str} (Er : ErrT X.K X.mg CI CB CE) (T0 : Txt X.mg) : LamX.GivesTo X nRef "_law_refused" (defScope sRefused) g cdg (defBody sRefused) "_law_work" q (TTref CB CE) := by
  intro f c' s H Q tl act hc h
  refine ⟨_, pss_cons (ps_try_as (X := (cxOf C8.CX0 X.prog X.w X.K X.mg X.base nRef "_law_refused" (defScope sRefused) g cdg X.A X.stack s H C8.E0).nox) (c := .ref CI) (i := 1)
      (tb := fun W D σ H => ∃ Ech : XK, (∀ cls d σ' H', Ech cls d H' → W cls d σ' H') ∧ σ[0]? = some (some (.ref f)) ∧ H c' = some (LamX.CodeO c' q) ∧ tl Ech H fun _ H' => D.nx σ H')
      (ts := fun a cls d D σ H => ∃ Dc, cls = .ref Dc ∧ d = none ∧ ExcC X.K Dc ∧ (σ.length = 2 → tSuite X.K CB CE Dc a D σ H))
      rfl rfl scRef.nd rfl rfl ⟨by rfl, by decide, .inl Er.gI⟩ LamX.takes0 (fun W pn xe tk _ => ?_) (fun a oe cls d pn hz hf => ?_)) (pss_one (ps_ret pe_str)), ?_⟩
  · refine ⟨fun pins s' σ H' D I h' => ?_⟩
    obtain ⟨Ech, hW, h1, h2, h3⟩ := h'
    exact (pss_one (ps_expr (act W pn xe Ech _ _ tk hW))).run pins s' σ H' D I ⟨h1, h2, h3⟩
  · refine ⟨fun pins s' σ H' D I h' => ?_⟩
    obtain ⟨Dc, rfl, rfl, C, h'⟩ := h'
    exact (pss_one (ps_ret (pe_ifExp (pt_val (pe_callB (call_isE (X := (cxOf C8.CX0 X.prog X.w X.K X.mg X.base nRef "_law_refused" (defScope sRefused) g cdg X.A X.stack s H C8.E0).nox) C hz hf) (by rfl) T0.isi (by decide +kernel) (pa_cons (pv 1) (pa_cons (pe_glob (v := .ref CB) (by rfl) Er.B.g rfl) pa_nil)))) pe_str
      (pe_ifExp (pt_val (pe_callB (call_isE (X := (cxOf C8.CX0 X.prog X.w X.K X.mg X.base nRef "_law_refused" (defScope sRefused) g cdg X.A X.stack s H C8.E0).nox) C hz hf) (by rfl) T0.isi (by decide +kernel) (pa_cons (pv 1) (pa_cons (pe_glob (v := .ref CE) (by rfl) Er.E.g rfl) pa_nil)))) pe_str pe_str)))).run pins s' σ H' D I (h' I.len)
  · refine ⟨fun cls d H' => (cls = .ref CB ∧ d = none ∧ Q (.str "number") H') ∨ (cls = .ref CE ∧ d = none ∧ Q (.str "empty") H'), fun cls d σ' H' hE => ?_, rfl, hc, h⟩
    have at1 : ∀ a : Addr, (σ'.set 1 (some (V.ref a))).length = 2 → (σ'.set 1 (some (V.ref a)))[1]? = some (some (V.ref a)) := fun a hl => by
      rw [List.length_set] at hl
      rw [List.getElem?_set_self (by omega)]
    rcases hE with ⟨rfl, rfl, hQ⟩ | ⟨rfl, rfl, hQ⟩
    · exact ⟨true, Er.iB, fun _ a _ => ⟨CB, rfl, rfl, Er.cB, fun hl => ⟨_, at1 a hl, _, _, _, rfl, (fun u r => r), Er.bb, _, rfl, iteT hQ⟩⟩, fun z => by cases z⟩
    · exact ⟨true, Er.iE, fun _ a _ => ⟨CE, rfl, rfl, Er.cE, fun hl => ⟨_, at1 a hl, _, _, _, rfl, (fun u r => r), Er.eb, _, rfl, iteF ⟨_, at1 a hl, _, _, _, rfl, (fun u r => r), Er.ee, _, rfl, iteT hQ⟩⟩⟩, fun z => by cases z⟩
end Gk

/-! what law's reading needs -/
namespace Gk
open PySem PySem.Spec PyProof.Rows L2
open Evl (Ex given)
abbrev KeysAt (H : Hp) : List V → List K5 → Prop := Paired (KeyAt H)
theorem KeysAt.tx {H H' : Hp} (e : Tx H H') : ∀ {vs : List V} {ms : List K5}, KeysAt H vs ms → KeysAt H' vs ms
  | _, _, .nil => .nil
  | _, _, .cons h t => .cons (h.tx e) (KeysAt.tx e t)
theorem KeysAt.dp {K : PySem.W.Frag} {H : Hp} : ∀ {vs : List V} {ms : List K5}, KeysAt H vs ms → DpAll K H vs (ms.map toP)
  | _, _, .nil => .nil
  | _, _, .cons h t => .cons h.dp (KeysAt.dp t)
theorem KeysAt.len {H : Hp} {vs : List V} {ms : List K5} (h : KeysAt H vs ms) : vs.length = ms.length := Paired.length h
theorem KeysAt.at {H : Hp} : ∀ {vs : List V} {ms : List K5} {i : Nat} {v : V} {m : K5}, KeysAt H vs ms → vs[i]? = some v → ms[i]? = some m → KeyAt H v m
  | _, _, _, _, _, .nil, e, _ => by simp at e
  | _, _, 0, _, _, .cons h _, e, e2 => by
    simp at e e2
    subst e
    subst e2
    exact h
  | _, _, i + 1, _, _, .cons _ t, e, e2 => KeysAt.at t (by simpa using e) (by simpa using e2)
theorem filter_at (cs : List C2) (p : C2 → Bool) : ((List.range cs.length).filter fun i => p (cs.getD i (0, 0))).length = (cs.filter p).length := by
  have e : cs = (List.range cs.length).map fun i => cs.getD i (0, 0) := by
    apply List.ext_getElem
    · simp
    · intro i h1 h2
      simp [List.getD_eq_getElem?_getD, List.getElem?_eq_getElem h1]
  conv => rhs; rw [e, List.filter_map, List.length_map]
  rfl
section
variable {K : PySem.W.Frag}
/-- [cell for cell in ink if a <= cell[0] < b and c <= cell[1] < d] -/
theorem t_cntIn {σ : L2.St} {H : Hp} {Q : VK} {p : Addr} {cs : List C2} {j i1 : Nat} {t1 t2 t3 t4 : TE} {a b c d : Int} (hj : σ[j]? = some (some (.ref p))) (hp : InkAt H p cs) (hl : cs.length ≤ 200)
    (hw : ∀ x, wipe ((wipe σ [i1]).set i1 (some x)) [i1] = wipe σ [i1]) (hi : ∀ x, ((wipe σ [i1]).set i1 (some x))[i1]? = some (some x))
    (h1 : ∀ x H', Ex H H' → IsI t1 ((wipe σ [i1]).set i1 (some x)) H' a) (h2 : ∀ x H', Ex H H' → IsI t2 ((wipe σ [i1]).set i1 (some x)) H' b)
    (h3 : ∀ x H', Ex H H' → IsI t3 ((wipe σ [i1]).set i1 (some x)) H' c) (h4 : ∀ x H', Ex H H' → IsI t4 ((wipe σ [i1]).set i1 (some x)) H' d)
    (k : ∀ D H' ys, H D = none → Ex H H' → H' D = some (.lst ys) → ys.length = cnt cs a c b d → Q (.ref D) H') :
    tLc (iTup K (tVar j)) (gName i1) (tAnd (tTest (tChain (rI0 fun i j => .bl (decide (i ≤ j))) (rI0 fun i j => .bl (decide (i < j))) t1 (tOp (rIxT K) (tVar i1) (tC (.int 0))) t2))
      (tTest (tChain (rI0 fun i j => .bl (decide (i ≤ j))) (rI0 fun i j => .bl (decide (i < j))) t3 (tOp (rIxT K) (tVar i1) (tC (.int 1))) t4))) (tVar i1) [i1] σ H Q := by
  obtain ⟨vs, hv, hc⟩ := hp
  have hlen := Cells.len hc
  refine lc_overT (f := fun i => inB a c b d (cs.getD i (0, 0))) (v := fun i => vs.getD i .non) (fun R h => ⟨_, hj, h⟩) hv (by omega) (fun i x H' hx e A B hA hB => ?_) fun D H' hD e h => k D H' _ hD e h ?_
  · obtain ⟨q, hq, a', rfl, ha⟩ := Cells.at hc hx
    have ed : cs.getD i (0, 0) = q := by rw [List.getD_eq_getElem?_getD, hq]; rfl
    have ev : vs.getD i .non = .ref a' := by rw [List.getD_eq_getElem?_getD, hx]; rfl
    simp only [ed, ev] at hA hB
    have ha' := e _ _ ha
    refine ⟨hw _, ?_⟩
    dsimp only [tAnd, tTest]
    refine t_chainI (h1 _ _ e) (b := q.1) (fun Q q => ⟨_, hi _, a', _, _, _, rfl, rfl, SqT.of ha', atI_nat (j := 0) rfl, q⟩) (h2 _ _ e) ⟨_, rfl, ?_⟩
    unfold inB at hA hB
    cases e1 : (decide (a ≤ q.1) && decide (q.1 < b)) with
    | false =>
      rw [e1] at hB
      exact iteF (iteF (hB rfl H' (Ex.refl H')))
    | true =>
      refine iteT ?_
      refine t_chainI (h3 _ _ e) (b := q.2) (fun Q q => ⟨_, hi _, a', _, _, _, rfl, rfl, SqT.of ha', atI_nat (j := 1) rfl, q⟩) (h4 _ _ e) ⟨_, rfl, ?_⟩
      rw [e1] at hA hB
      cases e2 : (decide (c ≤ q.2) && decide (q.2 < d)) with
      | false =>
        rw [e2] at hB
        exact iteF (hB rfl H' (Ex.refl H'))
      | true =>
        rw [e2] at hA
        exact iteT ⟨_, hi _, hA rfl H' (Ex.refl H')⟩
  · unfold given cnt
    rw [List.length_map, hlen]
    exact filter_at cs (inB a c b d)
end
theorem nv_empty {K : PySem.W.Frag} {H : Hp} {p q : Addr} {cs : List C2} {Q : VK} (hp : InkAt H p cs) (hq : H q = some (.tup [])) (h : Q (.bl (!cs.isEmpty)) H) : rNeD K (.ref p) (.ref q) H Q := by
  obtain ⟨vs, e1, e2⟩ := hp
  refine ⟨.tuple (cs.map pairD), .tuple [], .tup (SqT.of e1) (dp_cells e2), .tup (SqT.of hq) .nil, shaped_ink cs, by decide +kernel, ?_⟩
  rw [eqv_ink]
  exact h
theorem Exl.tx2 {H H' : Hp} {l : Addr} (h : ∃ xs, H l = some (.lst xs)) (e : Exl l H H') : Tx H H' := fun a xs ha => e a _ (fun z => by
  obtain ⟨ys, hy⟩ := h
  rw [z, hy] at ha
  cases ha) ha
theorem extN_tx {H H' : Hp} (e : LamX.ExtN H H') : Tx H H' := fun a xs h => e a _ h fun ps z => by cases z
end Gk

/-! law -/
namespace Gk
open PySem PySem.Spec PyProof.Rows L2
open Evl (Ex given)
theorem passX0 {X : Cx} : Passes (L2.CX X.prog X.w) X E0 := fun _ _ _ _ _ _ _ h => by
  obtain ⟨_, _, _, _, _, _, _, _, _, _, _, _, z⟩ := h
  exact z.elim
def qLam : Str := (envOfC "law" (defScope sLaw) 0 0 .none).qual ++ "<lambda>"
abbrev nLaw : List Str := ["_law_script", "_law_row", "_law_some", "_law_top", "_law_left", "_law_bottom", "_law_right", "_law_line", "_law_column", "_law_end", "_law_last", "_law_many", "_law_turn", "_law_box_here", "_law_found", "_law_bad", "_law_ink_here", "_law_cell"]
def spLaw (K : PySem.W.Frag) (PL : Addr) : Sp := fun vs H Q _ => ∃ (a : Addr) (ns : List Int), vs = [.ref a] ∧ SqL K H a (ns.map V.int) ∧ H PL = some (.tbl #[]) ∧ ∀ H', Q (.bl true) H'
section
variable {P : Program} {w : World} {K : PySem.W.Frag} {mg : Str → Option Value} {base : Heap}
theorem scLaw : FnScope nLaw ["_law_script"] (defScope sLaw) := ⟨rfl, rfl, rfl, by decide +kernel, rfl, by decide +kernel, by decide +kernel⟩
theorem ok_law {f cL PL CI CB CE fA fB fC fE fG fI fJ fK fL fN fQ fR fS fW fX f1 f2 f3 : Addr} {fdA fdB fdC fdE fdG fdI fdJ fdK fdL fdN fdQ fdR fdS fdW fdX fd1 fd2 fd3 : FuncData}
    {oc : Value} {od an : Option Addr} {kV doc pm ct : Value} {osl : Array (Option Value)} (lk : K.lookup f = some ⟨oc, od, .func (PySem.W.fnOf "law" "law" (defArgs sLaw) (defBody sLaw) (defScope sLaw) .none kV doc pm an (.ref cL) ct), osl⟩) (hcd : PySem.W.codeIn K (.ref cL) "law" = true)
    (TB : LamX.TabB base mg cL PL) (T0 : Txt mg) (Er : ErrT K mg CI CB CE)
    (DI : Df K mg "is_integer" sIsInteger ["value"] fI fdI) (DN : Df K mg "is_in" sIsIn ["value", "least", "most"] fN fdN) (DL : Df K mg "is_list" sIsList ["value", "least", "most"] fL fdL) (DC : Df K mg "is_cell" sIsCell ["value"] fC fdC)
    (DE : Df K mg "need_ink" sNeedInk ["value"] fE fdE) (DX : Df K mg "box_in" sBoxIn ["ink"] fX fdX) (DS : Df K mg "sum_table" sSumTable ["ink"] fS fdS) (DQ : Df K mg "is_box" sIsBox ["value"] fQ fdQ) (DK : Df K mg "count_in" sCountIn ["ink", "box"] fK fdK)
    (DG : Df K mg "greatest_box" sGreatest ["ink"] fG fdG) (DB : Df K mg "count_boxes" sCountBoxes ["ink"] fB fdB) (D1 : Df K mg "_law_taken" sTaken ["_law_row", "_law_many"] f1 fd1) (D2 : Df K mg "_law_pick" sPick ["_law_row", "_law_things"] f2 fd2)
    (D3 : Df K mg "_law_signed" sSigned ["_law_row", "_law_most"] f3 fd3) (DA : Df K mg "_law_alike" sAlike ["_law_found", "_law_due"] fA fdA) (DJ : Df K mg "_law_ink" sInk ["_law_row", "_law_high", "_law_wide"] fJ fdJ)
    (DW : Df K mg "_law_box" sLawBox ["_law_ink_here"] fW fdW) (DR : Df K mg "_law_refused" sRefused ["_law_work"] fR fdR) :
    FnOk P w K mg base CX0 8 f (PySem.W.fnOf "law" "law" (defArgs sLaw) (defBody sLaw) (defScope sLaw) .none kV doc pm an (.ref cL) ct) ["_law_script"] (spLaw K PL) := by
  obtain ⟨ocR, odR, kVR, docR, pmR, anR, cdR, ctR, oslR, rfl, lkR, hcR⟩ := DR.F.ex
  refine fn_of lk hcd scLaw (fun vs H Q E h => ?_) fun A outer s H vs Q E hr h => ?_
  · obtain ⟨a, ns, rfl, _⟩ := h
    rfl
  · obtain ⟨a, ns, rfl, hS, hP, q⟩ := h
    suffices z : ∃ t, PSs (cxOf CX0 P w K mg base nLaw "law" (defScope sLaw) f (.ref cL) A outer s H E).nox (defBody sLaw) t ∧ t { nx := fun _ H' => Q .non H', rt := Q } (start nLaw [.ref a]) H by
      obtain ⟨t, h1, h2⟩ := z
      exact ⟨t, h1.nox, h2⟩
    refine ⟨_, (pss_cons (ps_set (i := 1) scLaw.nd rfl (.inl rfl) (pe_lst (pa_cons (pv 0) (pa_cons pe_int (pa_cons pe_int (pa_cons pe_int pa_nil)))))) (pss_cons (ps_asg (pe_tup (pa_cons (pe_call (ok_ink T0 DJ D1 D2 D3) (hr.mono (by decide)) (by rfl) DJ.g DJ.F.kp DJ.b .nil pass0 (pa_cons (pv 1) (pa_cons pe_int (pa_cons pe_int pa_nil)))) (pa_cons (pe_lst pa_nil) pa_nil))) (pg_tup rfl (pgs_cons (pg_name (i := 16) scLaw.nd rfl (.inr rfl)) (pgs_cons (pg_name (i := 2) scLaw.nd rfl (.inl rfl)) pgs_nil)))) (pss_cons (ps_if (pt_cmpR (op_neD hr.units) (pv 16) (pe_tup pa_nil) (nomark _)) (pss_cons (ps_asg (pe_call (ok_lawBox T0 DW) (hr.mono (by decide)) (by rfl) DW.g DW.F.kp DW.b .nil pass0 (pa_cons (pv 16) pa_nil)) (pg_tup rfl (pgs_cons (pg_name (i := 3) scLaw.nd rfl (.inl rfl)) (pgs_cons (pg_name (i := 4) scLaw.nd rfl (.inl rfl)) (pgs_cons (pg_name (i := 5) scLaw.nd rfl (.inl rfl)) (pgs_cons (pg_name (i := 6) scLaw.nd rfl (.inl rfl)) pgs_nil)))))) (pss_cons (ps_for PassesOwn.never rfl (pi_range2 (by rfl) T0.range (pa_cons (pv 3) (pa_cons (pv 5) pa_nil))) (pg_name (i := 7) scLaw.nd rfl (.inr rfl)) (pss_one (ps_for PassesOwn.never rfl (pi_range2 (by rfl) T0.range (pa_cons (pv 4) (pa_cons (pv 6) pa_nil))) (pg_name (i := 8) scLaw.nd rfl (.inr rfl)) (pss_one (ps_for PassesOwn.never rfl (pi_range2 (by rfl) T0.range (pa_cons (pe_op op_add (pv 7) pe_int) (pa_cons (pe_op op_add (pv 5) pe_int) pa_nil))) (pg_name (i := 9) scLaw.nd rfl (.inr rfl)) (pss_one (ps_for PassesOwn.never rfl (pi_range2 (by rfl) T0.range (pa_cons (pe_op op_add (pv 8) pe_int) (pa_cons (pe_op op_add (pv 6) pe_int) pa_nil))) (pg_name (i := 10) scLaw.nd rfl (.inr rfl)) (pss_cons (ps_set (i := 11) scLaw.nd rfl (.inl rfl) (pe_callB call_len_seq (by rfl) T0.len (by decide +kernel) (pa_cons (pe_lc (own := [("_law_cell", 17)]) (g := gName 17) (by rfl) scLaw.nd (pi_tup (pv 16)) (blkOk_by (N := nLaw) (sc := defScope sLaw) (by decide +kernel)) (fun _ _ _ _ _ => (pg_name (i := 17) scLaw.nd rfl (.inl rfl))) (fun _ _ _ _ _ => (pts_one (PW.pt (pw_and (pt_chain op_le op_lt (pv 7) (pe_ix (show IxR _ (rIxT K) from ix_tup) (pv 17) pe_int (fun _ _ => rfl)) (pv 9)) (pw_and1 (pt_chain op_le op_lt (pv 8) (pe_ix (show IxR _ (rIxT K) from ix_tup) (pv 17) pe_int (fun _ _ => rfl)) (pv 10))))))) (fun _ _ _ _ _ => (pv 17))) pa_nil))) (pss_one (ps_if (pt_cmpR op_eq (pv 11) (pe_op op_mul (pe_op op_sub (pv 9) (pv 7)) (pe_op op_sub (pv 10) (pv 8))) (nomark _)) (pss_one (ps_expr (pe_bm PySem.F.plainAttrs_list PySem.F.slot_list_append PySem.F.type_list_append mt_append (pv 2) (pa_cons (pe_tup (pa_cons (pe_op op_sub pe_int (pv 11)) (pa_cons (pe_tup (pa_cons (pv 7) (pa_cons (pv 8) (pa_cons (pv 9) (pa_cons (pv 10) pa_nil))))) pa_nil))) pa_nil)))) pss_nil)))))))))) (pss_one (ps_if (pt_not (pt_val (pe_call (ok_alike2 T0 DA) (hr.mono (by decide)) (by rfl) DA.g DA.F.kp DA.b .nil pass0 (pa_cons (pe_call (ok_great T0 DG DI DN DL DC DE DX Er.E) (hr.mono (by decide)) (by rfl) DG.g DG.F.kp DG.b .nil passX0 (pa_cons (pv 16) pa_nil)) (pa_cons (pe_ix ix_tup (pe_callB (cr_minKeys rfl hr.units) (by rfl) T0.min (by decide +kernel) (pa_cons (pv 2) pa_nil)) pe_int (fun _ _ => rfl)) pa_nil))))) (pss_one (ps_ret pe_bl)) pss_nil)))) pss_nil) (pss_cons (ps_if (pt_not (pt_val (pe_call (ok_alike1 T0 DA) (hr.mono (by decide)) (by rfl) DA.g DA.F.kp DA.b .nil pass0 (pa_cons (pe_call (ok_boxes T0 DB DI DN DL DC DE) (hr.mono (by decide)) (by rfl) DB.g DB.F.kp DB.b .nil pass0 (pa_cons (pv 16) pa_nil)) (pa_cons (pe_callB call_len_seq (by rfl) T0.len (by decide +kernel) (pa_cons (pv 2) pa_nil)) pa_nil))))) (pss_one (ps_ret pe_bl)) pss_nil) (pss_cons (ps_for PassesOwn.never rfl (pi_range1 (by rfl) T0.range (pa_cons pe_int pa_nil)) (pg_name (i := 12) scLaw.nd rfl (.inl rfl)) (pss_cons (ps_asg (pe_tup (pa_cons (pe_call (ok_signed T0 D3 D1) (hr.mono (by decide)) (by rfl) D3.g D3.F.kp D3.b .nil pass0 (pa_cons (pv 1) (pa_cons pe_int pa_nil))) (pa_cons (pe_call (ok_signed T0 D3 D1) (hr.mono (by decide)) (by rfl) D3.g D3.F.kp D3.b .nil pass0 (pa_cons (pv 1) (pa_cons pe_int pa_nil))) pa_nil))) (pg_tup rfl (pgs_cons (pg_name (i := 7) scLaw.nd rfl (.inr rfl)) (pgs_cons (pg_name (i := 8) scLaw.nd rfl (.inr rfl)) pgs_nil)))) (pss_cons (ps_set (i := 13) scLaw.nd rfl (.inr rfl) (pe_tup (pa_cons (pv 7) (pa_cons (pv 8) (pa_cons (pe_op op_add (pe_op op_add (pv 7) pe_int) (pe_call (ok_taken T0 D1) (hr.mono (by decide)) (by rfl) D1.g D1.F.kp D1.b .nil pass0 (pa_cons (pv 1) (pa_cons pe_int pa_nil)))) (pa_cons (pe_op op_add (pe_op op_add (pv 8) pe_int) (pe_call (ok_taken T0 D1) (hr.mono (by decide)) (by rfl) D1.g D1.F.kp D1.b .nil pass0 (pa_cons (pv 1) (pa_cons pe_int pa_nil)))) pa_nil)))))) (pss_one (ps_if (pt_not (pt_val (pe_call (ok_alike1 T0 DA) (hr.mono (by decide)) (by rfl) DA.g DA.F.kp DA.b .nil pass0 (pa_cons (pe_call (ok_countIn (P := P) (w := w) (K := K) (mg := mg) (base := base) T0 DK DI DN DL DC DE DQ DX DS Er.B) (hr.mono (by decide)) (by rfl) DK.g DK.F.kp DK.b .nil passX0 (pa_cons (pv 16) (pa_cons (pv 13) pa_nil))) (pa_cons (pe_callB call_len_seq (by rfl) T0.len (by decide +kernel) (pa_cons (pe_lc (own := [("_law_cell", 17)]) (g := gName 17) (by rfl) scLaw.nd (pi_tup (pv 16)) (blkOk_by (N := nLaw) (sc := defScope sLaw) (by decide +kernel)) (fun _ _ _ _ _ => (pg_name (i := 17) scLaw.nd rfl (.inl rfl))) (fun _ _ _ _ _ => (pts_one (PW.pt (pw_and (pt_chain op_le op_lt (pe_ix (show IxR _ (rIxT K) from ix_tup) (pv 13) pe_int (fun _ _ => rfl)) (pe_ix (show IxR _ (rIxT K) from ix_tup) (pv 17) pe_int (fun _ _ => rfl)) (pe_ix (show IxR _ (rIxT K) from ix_tup) (pv 13) pe_int (fun _ _ => rfl))) (pw_and1 (pt_chain op_le op_lt (pe_ix (show IxR _ (rIxT K) from ix_tup) (pv 13) pe_int (fun _ _ => rfl)) (pe_ix (show IxR _ (rIxT K) from ix_tup) (pv 17) pe_int (fun _ _ => rfl)) (pe_ix (show IxR _ (rIxT K) from ix_tup) (pv 13) pe_int (fun _ _ => rfl)))))))) (fun _ _ _ _ _ => (pv 17))) pa_nil)) pa_nil))))) (pss_one (ps_ret pe_bl)) pss_nil))))) (pss_cons (ps_set (i := 15) scLaw.nd rfl (.inr rfl) (pe_call (ok_pick T0 D2 D1) (hr.mono (by decide)) (by rfl) D2.g D2.F.kp D2.b .nil pass0 (pa_cons (pv 1) (pa_cons (pe_lst (pa_cons pe_non (pa_cons (pe_tup (pa_cons pe_int (pa_cons pe_int (pa_cons pe_int (pa_cons pe_int pa_nil))))) (pa_cons (pe_tup (pa_cons pe_int (pa_cons pe_int (pa_cons pe_int pa_nil)))) (pa_cons (pe_lst (pa_cons pe_int (pa_cons pe_int (pa_cons pe_int (pa_cons pe_int pa_nil))))) (pa_cons (pe_tup (pa_cons pe_int (pa_cons pe_int (pa_cons pe_int (pa_cons pe_int pa_nil))))) (pa_cons (pe_tup (pa_cons pe_int (pa_cons pe_int (pa_cons pe_int (pa_cons pe_int pa_nil))))) (pa_cons (pe_tup (pa_cons pe_int (pa_cons pe_int (pa_cons pe_bl (pa_cons pe_int pa_nil))))) (pa_cons pe_int pa_nil))))))))) pa_nil)))) (pss_cons (ps_set (i := 14) scLaw.nd rfl (.inl rfl) (pe_lst (pa_cons (LamX.pe_lamcall (T := [(PL, qLam)]) (TT := TTref CB CE) (Ng := nRef) (k := 5) (by rfl) DR.g DR.F.kp lkR hcR DR.b scRef rfl (.inl rfl) (by exact ref_gives Er T0) TB rfl (List.mem_singleton.mpr rfl) (fun p hp _ => by rw [List.mem_singleton.mp hp]; rfl) hr (LamX.lamS_by (sc := defScope sLaw) (by decide +kernel)) rfl (fun _ _ _ _ _ => rfl) (fun A outer s H E f c' hr2 => (pe_call (ok_countIn (P := P) (w := w) (K := K) (mg := mg) (base := base) T0 DK DI DN DL DC DE DQ DX DS Er.B) hr2 (by rfl) DK.g DK.F.kp DK.b .nil (passes_call (takes_of rfl rfl rfl rfl) fun _ _ _ _ h => h) (pa_cons (pv 16) (pa_cons (pv 15) pa_nil))))) pa_nil))) (pss_cons (ps_set (i := 14) scLaw.nd rfl (.inl rfl) (pe_op op_cat (pv 14) (pe_lst (pa_cons (LamX.pe_lamcall (T := [(PL, qLam)]) (TT := TTref CB CE) (Ng := nRef) (k := 5) (by rfl) DR.g DR.F.kp lkR hcR DR.b scRef rfl (.inl rfl) (by exact ref_gives Er T0) TB rfl (List.mem_singleton.mpr rfl) (fun p hp _ => by rw [List.mem_singleton.mp hp]; rfl) hr (LamX.lamS_by (sc := defScope sLaw) (by decide +kernel)) rfl (fun _ _ _ _ _ => rfl) (fun A outer s H E f c' hr2 => (pe_call (ok_great (P := P) (w := w) (K := K) (mg := mg) (base := base) T0 DG DI DN DL DC DE DX Er.E) hr2 (by rfl) DG.g DG.F.kp DG.b .nil (passes_call (takes_of rfl rfl rfl rfl) fun _ _ _ _ h => h) (pa_cons (pe_tup pa_nil) pa_nil)))) pa_nil)))) (pss_one (ps_ret (pe_cmpR (op_eqD hr.units) (pv 14) (pe_lst (pa_cons pe_str (pa_cons pe_str pa_nil))) (nomark _)))))))))))), ?_⟩
    have s2 : (2 : Nat) ≤ sizeLine := by decide
    have s4 : (4 : Nat) ≤ sizeLine := by decide
    have lstV : ∀ {n : Nat}, n ≤ 90000 → n < sizeLine := fun h => Evl.sz_lt (by omega)
    -- the row
    refine ⟨_, rfl, s4, fun l hln => ?_⟩
    have eR := Evl.Ex.new (o := HO.lst [.ref a, .int 0, .int 3795, .int 0]) hln
    have nPl : PL ≠ l := ne_of_none hP hln
    have R0 : RowAt K (upd H l (.lst [.ref a, .int 0, .int 3795, .int 0])) l := ⟨a, ns, 0, 3795, 0, upd_same, fun H' e' => by
      rcases hS with z | z
      · have na : a ≠ l := fun y => by
          rcases z with z | ⟨o, z⟩ <;> (rw [y, hln] at z; cases z)
        rcases z with z | ⟨o, z⟩
        · exact .inl (.inl (e' _ _ na (eR _ _ z)))
        · exact .inl (.inr ⟨o, e' _ _ na (eR _ _ z)⟩)
      · exact .inr z⟩
    have hP0 := eR _ _ hP
    -- the ink
    refine ⟨_, rfl, l, rfl, R0, fun p cs H2 e2 hR2 hp2 g ⟨wr, wc, hwin⟩ => ⟨Nat.zero_le _, fun sm hsm => ⟨s2, fun pt hpt => ?_⟩⟩⟩
    have hP2 := e2 _ _ nPl hP0
    have esm := Evl.Ex.new (o := HO.lst []) hsm
    have ept := Evl.Ex.new (o := HO.tup [.ref p, .ref sm]) hpt
    have e3 := esm.trans ept
    have h3 : upd (upd H2 sm (.lst [])) pt (.tup [.ref p, .ref sm]) sm = some (.lst []) := ept _ _ upd_same
    refine ⟨pt, _, rfl, SqT.of upd_same, rfl, _, _, rfl, _, _, rfl, rfl, ?_⟩
    dsimp only
    refine seqI (fun σ' H' => ∃ x3 x4 x5 x6 x7 x8 x9 x10 x11 vs, σ' = [some (.ref a), some (.ref l), some (.ref sm), x3, x4, x5, x6, x7, x8, x9, x10, x11, none, none, none, none, some (.ref p), none] ∧ Ex H2 H' ∧ H' sm = some (.lst vs) ∧ vs.length ≤ 90000 ∧
        ((cs = [] ∧ vs.length = 0) ∨ ∃ t lf b r h w, IsBox cs t lf b r ∧ b = t + ((h : Nat) : Int) ∧ r = lf + ((w : Nat) : Int) ∧ vs.length = (L1 cs t lf b r h w).length)) (fun nx hnx => ?_) ?_
    · refine ⟨_, rfl, Nat.zero_le _, fun em hem => ?_⟩
      have e4 := e3.trans (Evl.Ex.new (o := HO.tup []) hem)
      have hs4 := (Evl.Ex.new (o := HO.tup []) hem) _ _ h3
      have hp4 := hp2.tx (Tx.of e4)
      -- ink != ()
      refine nv_empty hp4 upd_same ⟨_, rfl, ?_⟩
      by_cases hne : cs = []
      · rw [hne] at hp2 g ⊢
        exact iteF (hnx _ _ ⟨_, _, _, _, _, _, _, _, _, [], rfl, e4, hs4, by decide, .inl ⟨hne, rfl⟩⟩)
      · have hce : cs.isEmpty = false := by
          cases cs with
          | nil => exact absurd rfl hne
          | cons _ _ => rfl
        rw [hce]
        refine iteT ?_
        refine ⟨_, rfl, p, cs, rfl, hp4, g, hne, fun bq t lf b r H5 e5 hbq B => ?_⟩
        have e35 := e4.trans e5
        have hs5 := e5 _ _ hs4
        have hp5 := hp4.tx (Tx.of e5)
        have bd := B.bounds g
        have bw : b - t ≤ 6 ∧ r - lf ≤ 6 := by
          obtain ⟨p1, q1, z1⟩ := B.tt
          obtain ⟨p2, q2, z2⟩ := B.ll
          obtain ⟨p3, q3, z3⟩ := B.bb
          obtain ⟨p4, q4, z4⟩ := B.rr
          have a1 := hwin p1 q1
          have a2 := hwin p2 q2
          have a3 := hwin p3 q3
          have a4 := hwin p4 q4
          omega
        refine ⟨bq, _, rfl, SqT.of hbq, rfl, _, _, rfl, _, _, rfl, _, _, rfl, _, _, rfl, rfl, ?_⟩
        have tsm : ∀ {H' : Hp} {vs : List V}, H' sm = some (.lst vs) → ∀ o, Tx H' (upd H' sm o) := fun h o => Tx.up fun xs z => by rw [h] at z; cases z
        refine ⟨_, rfl, _, rfl, t, b, rfl, ⟨by omega, by omega, by omega, by omega⟩, for_range (lo := t) (n := (b - t).toNat)
          (fun i σ H' => ∃ x7 x8 x9 x10 x11 vs, σ = [some (.ref a), some (.ref l), some (.ref sm), some (.int t), some (.int lf), some (.int b), some (.int r), x7, x8, x9, x10, x11, none, none, none, none, some (.ref p), none] ∧ Ex H2 H' ∧ H' sm = some (.lst vs) ∧
            KeysAt H' vs (L1 cs t lf b r i (r - lf).toNat))
          ⟨none, none, none, none, none, [], rfl, e35, hs5, .nil⟩ ?_ ?_⟩
        · rintro i σ H' hi ⟨x7, x8, x9, x10, x11, vs, rfl, e6, hs6, hk6⟩
          have hL1 : (L1 cs t lf b r i (r - lf).toNat).length ≤ 6 * (6 * 36) := Nat.le_trans (L1_len cs t lf b r i (r - lf).toNat 6 (by omega) (by omega)) (Nat.mul_le_mul (by omega) (Nat.mul_le_mul (by omega) (by omega)))
          refine ⟨_, rfl, _, rfl, lf, r, rfl, ⟨by omega, by omega, by omega, by omega⟩, for_range (lo := lf) (n := (r - lf).toNat)
            (fun j σ H' => ∃ x8 x9 x10 x11 vs, σ = [some (.ref a), some (.ref l), some (.ref sm), some (.int t), some (.int lf), some (.int b), some (.int r), some (.int (t + (i : Int))), x8, x9, x10, x11, none, none, none, none, some (.ref p), none] ∧ Ex H2 H' ∧ H' sm = some (.lst vs) ∧
              KeysAt H' vs (L1 cs t lf b r i (r - lf).toNat ++ L2 cs (t + (i : Int)) lf b r j))
            ⟨x8, x9, x10, x11, vs, rfl, e6, hs6, by rw [show L2 cs (t + (i : Int)) lf b r 0 = [] from rfl, List.append_nil]; exact hk6⟩ ?_ ?_⟩
          · rintro j σ H' hj ⟨x8, x9, x10, x11, vs, rfl, e7, hs7, hk7⟩
            have hL2 : (L2 cs (t + (i : Int)) lf b r j).length ≤ 6 * 36 := Nat.le_trans (L2_len cs (t + (i : Int)) lf b r j 6 (by omega) (by omega)) (Nat.mul_le_mul (by omega) (by omega))
            refine ⟨_, rfl, _, _, rfl, rfl, _, rfl, _, _, rfl, rfl, t + (i : Int) + 1, b + 1, rfl, ⟨by omega, by omega, by omega, by omega⟩, for_range (lo := t + (i : Int) + 1) (n := (b + 1 - (t + (i : Int) + 1)).toNat)
              (fun k σ H' => ∃ x9 x10 x11 vs, σ = [some (.ref a), some (.ref l), some (.ref sm), some (.int t), some (.int lf), some (.int b), some (.int r), some (.int (t + (i : Int))), some (.int (lf + (j : Int))), x9, x10, x11, none, none, none, none, some (.ref p), none] ∧ Ex H2 H' ∧ H' sm = some (.lst vs) ∧
                KeysAt H' vs (L1 cs t lf b r i (r - lf).toNat ++ L2 cs (t + (i : Int)) lf b r j ++ L3 cs (t + (i : Int)) (lf + (j : Int)) k (r - (lf + (j : Int))).toNat))
              ⟨x9, x10, x11, vs, rfl, e7, hs7, by rw [show L3 cs (t + (i : Int)) (lf + (j : Int)) 0 (r - (lf + (j : Int))).toNat = [] from rfl, List.append_nil]; exact hk7⟩ ?_ ?_⟩
            · rintro k σ H' hkr ⟨x9, x10, x11, vs, rfl, e8, hs8, hk8⟩
              have hL3 : (L3 cs (t + (i : Int)) (lf + (j : Int)) k (r - (lf + (j : Int))).toNat).length ≤ 6 * 6 := Nat.le_trans (L3_len cs (t + (i : Int)) (lf + (j : Int)) k (r - (lf + (j : Int))).toNat) (Nat.mul_le_mul (by omega) (by omega))
              refine ⟨_, rfl, _, _, rfl, rfl, _, rfl, _, _, rfl, rfl, lf + (j : Int) + 1, r + 1, rfl, ⟨by omega, by omega, by omega, by omega⟩, for_range (lo := lf + (j : Int) + 1) (n := (r + 1 - (lf + (j : Int) + 1)).toNat)
                (fun m σ H' => ∃ x10 x11 vs, σ = [some (.ref a), some (.ref l), some (.ref sm), some (.int t), some (.int lf), some (.int b), some (.int r), some (.int (t + (i : Int))), some (.int (lf + (j : Int))), some (.int (t + (i : Int) + 1 + (k : Int))), x10, x11, none, none, none, none, some (.ref p), none] ∧ Ex H2 H' ∧ H' sm = some (.lst vs) ∧
                  KeysAt H' vs (L1 cs t lf b r i (r - lf).toNat ++ L2 cs (t + (i : Int)) lf b r j ++ L3 cs (t + (i : Int)) (lf + (j : Int)) k (r - (lf + (j : Int))).toNat ++ L4 cs (t + (i : Int)) (lf + (j : Int)) (t + (i : Int) + 1 + (k : Int)) m))
                ⟨x10, x11, vs, rfl, e8, hs8, by rw [show L4 cs (t + (i : Int)) (lf + (j : Int)) (t + (i : Int) + 1 + (k : Int)) 0 = [] from rfl, List.append_nil]; exact hk8⟩ ?_ ?_⟩
              · rintro m σ H' hm ⟨x10, x11, vs, rfl, e9, hs9, hk9⟩
                have hL4 := L4_len cs (t + (i : Int)) (lf + (j : Int)) (t + (i : Int) + 1 + (k : Int)) m
                have hvl : vs.length ≤ 90000 := by
                  have z := hk9.len
                  rw [List.length_append, List.length_append, List.length_append] at z
                  omega
                dsimp only [gName, tSeq, tAsg, tCB, tCons]
                refine t_cntIn (a := t + (i : Int)) (b := t + (i : Int) + 1 + (k : Int)) (c := lf + (j : Int)) (d := lf + (j : Int) + 1 + (m : Int)) rfl (hp2.tx (Tx.of e9)) g.len ?_ ?_ ?_ ?_ ?_ ?_ fun Dn Ha ys hDn ea hys hyl => ?_
                · exact fun _ => rfl
                · exact fun _ => rfl
                · exact fun _ _ _ => IsI.var rfl
                · exact fun _ _ _ => IsI.var rfl
                · exact fun _ _ _ => IsI.var rfl
                · exact fun _ _ _ => IsI.var rfl
                refine ⟨Dn, ys, rfl, .inl (SqL.of hys), ?_⟩
                rw [hyl]
                have ea2 := e9.trans ea
                have hsa := ea _ _ hs9
                refine ⟨_, rfl, _, rfl, _, rfl, _, _, rfl, rfl, _, rfl, _, rfl, _, _, rfl, rfl, _, _, rfl, rfl, .inl ⟨by omega, by omega⟩, rfl, _, rfl, ?_⟩
                have ed : decide (V.int ((cnt cs (t + (i : Int)) (lf + (j : Int)) (t + (i : Int) + 1 + (k : Int)) (lf + (j : Int) + 1 + (m : Int)) : Nat) : Int) = V.int ((t + (i : Int) + 1 + (k : Int) - (t + (i : Int))) * (lf + (j : Int) + 1 + (m : Int) - (lf + (j : Int)))))
                    = fullB cs (t + (i : Int)) (lf + (j : Int)) (t + (i : Int) + 1 + (k : Int)) (lf + (j : Int) + 1 + (m : Int)) := by
                  unfold fullB
                  exact decide_eq_decide.mpr ⟨V.int.inj, congrArg _⟩
                rw [ed]
                cases hf : fullB cs (t + (i : Int)) (lf + (j : Int)) (t + (i : Int) + 1 + (k : Int)) (lf + (j : Int) + 1 + (m : Int)) with
                | false =>
                  refine iteF ⟨_, _, vs, rfl, ea2, hsa, ?_⟩
                  rw [L4_succ, hf, if_neg Bool.false_ne_true, List.append_nil]
                  exact hk9.tx (Tx.of ea)
                | true =>
                  refine iteT ⟨_, rfl, .inl ⟨rfl, _, SqL.of hsa⟩, _, rfl, _, _, rfl, rfl, _, rfl, _, rfl, _, rfl, _, rfl, s4, fun pb hpb => ⟨s2, fun pa hpa => ?_⟩⟩
                  have eb := (Evl.Ex.new (o := HO.tup [.int (t + (i : Int)), .int (lf + (j : Int)), .int (t + (i : Int) + 1 + (k : Int)), .int (lf + (j : Int) + 1 + (m : Int))]) hpb).trans (Evl.Ex.new (o := HO.tup [.int (0 - ((cnt cs (t + (i : Int)) (lf + (j : Int)) (t + (i : Int) + 1 + (k : Int)) (lf + (j : Int) + 1 + (m : Int)) : Nat) : Int)), .ref pb]) hpa)
                  have hsb := eb _ _ hsa
                  have nab : pb ≠ pa := ne_of_none upd_same hpa
                  have kt : KeyAt (upd (upd Ha pb (.tup [.int (t + (i : Int)), .int (lf + (j : Int)), .int (t + (i : Int) + 1 + (k : Int)), .int (lf + (j : Int) + 1 + (m : Int))])) pa (.tup [.int (0 - ((cnt cs (t + (i : Int)) (lf + (j : Int)) (t + (i : Int) + 1 + (k : Int)) (lf + (j : Int) + 1 + (m : Int)) : Nat) : Int)), .ref pb])) (.ref pa) (key cs (t + (i : Int)) (lf + (j : Int)) (t + (i : Int) + 1 + (k : Int)) (lf + (j : Int) + 1 + (m : Int))) :=
                    ⟨pa, pb, rfl, upd_same, (upd_ne nab).trans upd_same⟩
                  refine ⟨sm, vs, .ref pa, rfl, rfl, hsb, lstV hvl, ?_⟩
                  refine ⟨_, _, vs ++ [.ref pa], rfl, Evl.Ex.mut (ea2.trans eb) hsm, upd_same, ?_⟩
                  rw [L4_succ, hf, if_pos rfl, ← List.append_assoc]
                  exact KeysAt.tx (tsm hsb _) (Paired.snoc (hk9.tx (Tx.of (ea.trans eb))) kt)
              · rintro σ H' ⟨x10, x11, vs, rfl, e9, hs9, hk9⟩
                have en : (r + 1 - (lf + (j : Int) + 1)).toNat = (r - (lf + (j : Int))).toNat := by omega
                rw [en] at hk9
                refine ⟨_, _, _, vs, rfl, e9, hs9, ?_⟩
                rw [L3_succ, ← List.append_assoc]
                exact hk9
            · rintro σ H' ⟨x9, x10, x11, vs, rfl, e8, hs8, hk8⟩
              have en : (b + 1 - (t + (i : Int) + 1)).toNat = (b - (t + (i : Int))).toNat := by omega
              rw [en] at hk8
              refine ⟨_, _, _, _, vs, rfl, e8, hs8, ?_⟩
              rw [L2_succ, ← List.append_assoc]
              exact hk8
          · rintro σ H' ⟨x8, x9, x10, x11, vs, rfl, e7, hs7, hk7⟩
            refine ⟨_, _, _, _, _, vs, rfl, e7, hs7, ?_⟩
            rw [L1_succ]
            exact hk7
        · rintro σ H' ⟨x7, x8, x9, x10, x11, vs, rfl, e6, hs6, hk6⟩
          have hh : b = t + ((b - t).toNat : Int) := by omega
          have hww : r = lf + ((r - lf).toNat : Int) := by omega
          have hvl : vs.length ≤ 90000 := by
            rw [hk6.len]
            exact Nat.le_trans (L1_len cs t lf b r _ _ 6 (by omega) (by omega)) (Nat.le_trans (Nat.mul_le_mul (show (b - t).toNat ≤ 6 by omega) (Nat.mul_le_mul (show (r - lf).toNat ≤ 6 by omega) (Nat.le_refl _))) (by decide))
          have hp6 := hp2.tx (Tx.of e6)
          obtain ⟨m0, ms, hms⟩ : ∃ m0 ms, L1 cs t lf b r (b - t).toNat (r - lf).toNat = m0 :: ms := by
            cases q : L1 cs t lf b r (b - t).toNat (r - lf).toNat with
            | nil => exact absurd q (L1_ne g.nodup B hh hww)
            | cons x xs => exact ⟨x, xs, rfl⟩
          have hlen6 := hk6.len
          rw [hms] at hk6
          refine ⟨_, rfl, p, cs, rfl, hp6, g, .inl ⟨hne, fun qg m H7 e7 hm hqg => ?_⟩⟩
          have hs7 := e7 _ _ hs6
          have hk7 := hk6.tx (Tx.of e7)
          refine ⟨_, rfl, sm, vs, m0, ms, rfl, SqL.of hs7, hk7.dp, fun i v hv hi => ?_⟩
          obtain ⟨a1, b1, rfl, ha1, hb1⟩ := hk7.at hv hi
          rw [(least_L1 g.nodup B hh hww hms).one hm] at hb1
          refine ⟨a1, _, _, _, rfl, rfl, SqT.of ha1, atI_nat (j := 1) rfl, ?_⟩
          refine ⟨qg, b1, [m.2.1, m.2.2.1, m.2.2.2.1, m.2.2.2.2], rfl, hqg, hb1, by show 4 ≤ 100; decide, fun H8 e8 => ⟨_, rfl, iteF ?_⟩⟩
          exact hnx _ _ ⟨_, _, _, _, _, _, _, _, _, vs, rfl, e6.trans (e7.trans e8), e8 _ _ hs7, hvl, .inr ⟨t, lf, b, r, _, _, B, hh, hww, hlen6⟩⟩
    · rintro σ H' ⟨x3, x4, x5, x6, x7, x8, x9, x10, x11, vs, rfl, e5, hvs, hvl, hcase⟩
      have hp5 := hp2.tx (Tx.of e5)
      have hR5 := hR2.ex e5
      have hP5 := e5 _ _ hP2
      -- count_boxes
      refine ⟨_, rfl, p, cs, vs.length, rfl, hp5, g, hcase, fun H6 e6 => ⟨_, rfl, sm, vs, rfl, .inl (SqL.of (e6 _ _ hvs)), (vs.length : Int), rfl, fun H7 e7 => ⟨_, rfl, iteF ?_⟩⟩⟩
      have e57 := e6.trans e7
      have nl : ∀ {H' : Hp} {a : Addr}, RowAt K H' l → H' a = none → a ≠ l := fun h ha z => by
        obtain ⟨xs, hx⟩ := h.lst
        rw [z, hx] at ha
        cases ha
      -- count_in
      refine ⟨4, rfl, by decide, by decide, for_range (lo := 0) (n := (4 : Int).toNat)
        (fun i σ H' => ∃ x7 x8 x12 x13, σ = [some (.ref a), some (.ref l), some (.ref sm), x3, x4, x5, x6, x7, x8, x9, x10, x11, x12, x13, none, none, some (.ref p), none] ∧ RowAt K H' l ∧ InkAt H' p cs ∧ H' PL = some (.tbl #[]))
        ⟨x7, x8, none, none, rfl, hR5.ex e57, hp5.tx (Tx.of e57), e57 _ _ hP5⟩ ?_ ?_⟩
      · rintro i σ H' hi ⟨x7, x8, x12, x13, rfl, hR, hp, hPi⟩
        refine ⟨_, rfl, l, _, rfl, hR, by decide, by decide, fun z7 H8 a1 a2 e8 hR8 => ?_⟩
        have hp8 := hp.tx (e8.tx hR)
        have hP8 := e8 _ _ nPl hPi
        refine ⟨_, rfl, l, _, rfl, hR8, by decide, by decide, fun z8 H9 a3 a4 e9 hR9 => ⟨s2, fun pq hpq => ?_⟩⟩
        have hp9 := hp8.tx (e9.tx hR8)
        have hP9 := e9 _ _ nPl hP8
        have eq := Evl.Ex.new (o := HO.tup [.int z7, .int z8]) hpq
        have hRq := hR9.ex eq
        refine ⟨pq, _, rfl, SqT.of upd_same, rfl, _, _, rfl, _, _, rfl, rfl, ?_⟩
        refine ⟨_, rfl, _, rfl, _, rfl, _, _, rfl, rfl, _, rfl, l, _, rfl, hRq, by decide, by decide, fun k9 H10 b1 b2 e10 hR10 => ?_⟩
        refine ⟨_, _, rfl, rfl, _, rfl, _, _, rfl, rfl, _, rfl, l, _, rfl, hR10, by decide, by decide, fun k10 H11 b3 b4 e11 hR11 => ?_⟩
        have hp11 := ((hp9.tx (Tx.of eq)).tx (e10.tx hRq)).tx (e11.tx hR10)
        have hP11 := e11 _ _ nPl (e10 _ _ nPl (eq _ _ hP9))
        refine ⟨_, _, rfl, rfl, s4, fun pb hpb => ?_⟩
        have eb := Evl.Ex.new (o := HO.tup [.int z7, .int z8, .int (z7 + 1 + k9), .int (z8 + 1 + k10)]) hpb
        refine ⟨_, rfl, _, rfl, p, cs, _, rfl, hp11.tx (Tx.of eb), g, .inl ⟨pb, z7, z8, z7 + 1 + k9, z8 + 1 + k10, rfl, upd_same, by omega, by omega, fun H12 e12 => ?_⟩⟩
        have hb12 := e12 _ _ (upd_same (H := H11) (a := pb) (o := HO.tup [.int z7, .int z8, .int (z7 + 1 + k9), .int (z8 + 1 + k10)]))
        have hp12 := (hp11.tx (Tx.of eb)).tx (Tx.of e12)
        dsimp only [gName, tSeq, tAsg, tCB, tCons]
        refine t_cntIn (a := z7) (b := z7 + 1 + k9) (c := z8) (d := z8 + 1 + k10) rfl hp12 g.len ?_ ?_ ?_ ?_ ?_ ?_ fun Dn Ha ys hDn ea hys hyl => ?_
        · exact fun _ => rfl
        · exact fun _ => rfl
        · exact fun _ _ e Q q => ⟨_, rfl, pb, _, _, _, rfl, rfl, SqT.of (e _ _ hb12), atI_nat (j := 0) rfl, q⟩
        · exact fun _ _ e Q q => ⟨_, rfl, pb, _, _, _, rfl, rfl, SqT.of (e _ _ hb12), atI_nat (j := 2) rfl, q⟩
        · exact fun _ _ e Q q => ⟨_, rfl, pb, _, _, _, rfl, rfl, SqT.of (e _ _ hb12), atI_nat (j := 1) rfl, q⟩
        · exact fun _ _ e Q q => ⟨_, rfl, pb, _, _, _, rfl, rfl, SqT.of (e _ _ hb12), atI_nat (j := 3) rfl, q⟩
        refine ⟨Dn, ys, rfl, .inl (SqL.of hys), ?_⟩
        rw [hyl]
        refine ⟨_, rfl, fun H13 e13 => ⟨_, rfl, iteF ?_⟩⟩
        have et := eb.trans (e12.trans (ea.trans e13))
        exact ⟨_, _, _, _, rfl, hR11.ex et, hp11.tx (Tx.of et), et _ _ hP11⟩
      · rintro σ H' ⟨x7, x8, x12, x13, rfl, hR, hp, hPi⟩
        -- what is no box
        refine ⟨_, rfl, s4, fun p1 h1 => ⟨(by decide : (3 : Nat) ≤ sizeLine), fun p2 h2 => ⟨s4, fun p3 h3 => ⟨s4, fun p4 h4 => ⟨s4, fun p5 h5 => ⟨s4, fun p6 h6 => ⟨(by decide : (8 : Nat) ≤ sizeLine), fun p7 h7 => ?_⟩⟩⟩⟩⟩⟩⟩
        have a1 := Evl.Ex.new (o := HO.tup [.int 0, .int 0, .int 0, .int 1]) h1
        have a2 := Evl.Ex.new (o := HO.tup [.int 0, .int 0, .int 1]) h2
        have a3 := Evl.Ex.new (o := HO.lst [.int 0, .int 0, .int 1, .int 1]) h3
        have a4 := Evl.Ex.new (o := HO.tup [.int 0, .int 0, .int 61, .int 1]) h4
        have a5 := Evl.Ex.new (o := HO.tup [.int 0, .int 1, .int 1, .int 1]) h5
        have a6 := Evl.Ex.new (o := HO.tup [.int 0, .int 0, .bl true, .int 1]) h6
        have a7 := Evl.Ex.new (o := HO.lst [.non, .ref p1, .ref p2, .ref p3, .ref p4, .ref p5, .ref p6, .int 5]) h7
        have aa := a1.trans (a2.trans (a3.trans (a4.trans (a5.trans (a6.trans a7)))))
        have hR2' := hR.ex (a1.trans a2)
        refine ⟨l, p7, _, rfl, hR.ex aa, nl (hR.ex (a1.trans (a2.trans (a3.trans (a4.trans (a5.trans a6)))))) h7, upd_same, by show 0 < 8; decide, by show 8 < 1073741824; decide, fun k x H8 hk e8 hR8 => ?_⟩
        have tx8 := e8.tx (hR.ex aa)
        have hp8 := (hp.tx (Tx.of aa)).tx tx8
        have hP8 := e8 _ _ nPl (aa _ _ hPi)
        have bad : ∀ H9, LamX.ExtN H8 H9 → BadBox K H9 x := by
          intro H9 e9
          have t9 := extN_tx e9
          match k, hk with
          | 0, hk => exact Option.some.inj hk ▸ .inr (.inr ⟨"NoneType", kd_non, by decide⟩)
          | 1, hk => exact Option.some.inj hk ▸ .inl ⟨p1, _, _, _, _, rfl, t9 _ _ (tx8 _ _ (a7 _ _ (a6 _ _ (a5 _ _ (a4 _ _ (a3 _ _ (a2 _ _ upd_same))))))), ⟨.inl ⟨_, rfl⟩, .inl ⟨_, rfl⟩, .inl ⟨_, rfl⟩, .inl ⟨_, rfl⟩⟩, by decide⟩
          | 2, hk => exact Option.some.inj hk ▸ .inr (.inl ⟨p2, _, rfl, t9 _ _ (tx8 _ _ (a7 _ _ (a6 _ _ (a5 _ _ (a4 _ _ (a3 _ _ upd_same)))))), by show (3 : Nat) ≠ 4; decide⟩)
          | 3, hk => exact Option.some.inj hk ▸ .inr (.inr ⟨"list", kd_lst (e9 _ _ (e8 _ _ (nl hR2' h3) (a7 _ _ (a6 _ _ (a5 _ _ (a4 _ _ upd_same))))) fun ps z => by cases z), by decide⟩)
          | 4, hk => exact Option.some.inj hk ▸ .inl ⟨p4, _, _, _, _, rfl, t9 _ _ (tx8 _ _ (a7 _ _ (a6 _ _ (a5 _ _ upd_same)))), ⟨.inl ⟨_, rfl⟩, .inl ⟨_, rfl⟩, .inl ⟨_, rfl⟩, .inl ⟨_, rfl⟩⟩, by decide⟩
          | 5, hk => exact Option.some.inj hk ▸ .inl ⟨p5, _, _, _, _, rfl, t9 _ _ (tx8 _ _ (a7 _ _ (a6 _ _ upd_same))), ⟨.inl ⟨_, rfl⟩, .inl ⟨_, rfl⟩, .inl ⟨_, rfl⟩, .inl ⟨_, rfl⟩⟩, by decide⟩
          | 6, hk => exact Option.some.inj hk ▸ .inl ⟨p6, _, _, _, _, rfl, t9 _ _ (tx8 _ _ (a7 _ _ upd_same)), ⟨.inl ⟨_, rfl⟩, .inl ⟨_, rfl⟩, .inr ⟨_, rfl⟩, .inl ⟨_, rfl⟩⟩, by decide⟩
          | 7, hk => exact Option.some.inj hk ▸ .inr (.inr ⟨"int", kd_int 5, by decide⟩)
          | k + 8, hk => cases hk
        -- the first lambda
        refine ⟨fun pr hpr => by rw [List.mem_singleton.mp hpr]; exact LamX.TabS.nil hP8, fun H9 e9 T9 => ?_⟩
        refine ⟨_, rfl, _, rfl, p, cs, x, rfl, hp8.tx (extN_tx e9), g, .inr ⟨bad H9 e9, fun H10 e10 => .inl ⟨rfl, rfl, ?_⟩⟩⟩
        refine ⟨(by decide : (1 : Nat) ≤ sizeLine), fun pf hpf => ?_⟩
        have ef := Evl.Ex.new (o := HO.lst [.str "number"]) hpf
        -- the second
        refine ⟨_, rfl, (T9.ext e10).ext ef, fun H11 e11 T11 => ?_⟩
        have hf11 := e11 _ _ (upd_same (H := H10) (a := pf) (o := HO.lst [.str "number"])) fun ps z => by cases z
        refine ⟨Nat.zero_le _, fun pe hpe => ?_⟩
        have ee := Evl.Ex.new (o := HO.tup []) hpe
        refine ⟨pe, [], rfl, ⟨[], upd_same, .nil⟩, ⟨List.Pairwise.nil, fun c hc => (by cases hc), Nat.zero_le _⟩, .inr ⟨rfl, fun H12 e12 => .inr ⟨rfl, rfl, ?_⟩⟩⟩
        refine ⟨(by decide : (1 : Nat) ≤ sizeLine), fun pg hpg => ?_⟩
        have eg := Evl.Ex.new (o := HO.lst [.str "empty"]) hpg
        refine ⟨pf, pg, _, _, rfl, rfl, eg _ _ (e12 _ _ (ee _ _ hf11)), upd_same, s2, fun ph hph => ?_⟩
        refine ⟨_, rfl, s2, fun pk hpk => ?_⟩
        have ek := Evl.Ex.new (o := HO.lst [.str "number", .str "empty"]) hpk
        refine ⟨.list [.str "number", .str "empty"], .list [.str "number", .str "empty"], .lst (SqL.of (ek _ _ upd_same)) (.cons (.str _) (.cons (.str _) .nil)), .lst (SqL.of upd_same) (.cons (.str _) (.cons (.str _) .nil)), by decide +kernel, by decide +kernel, ?_⟩
        have er : PyData.eqv (.list [.str "number", .str "empty"]) (.list [.str "number", .str "empty"]) = true := by decide +kernel
        rw [er]
        exact q _
end
end Gk

/-! what the top has written; the end -/
namespace Gk
open PySem PySem.Spec PyProof.Rows L2
theorem kit_self {K : PySem.W.Frag} (t : Value) : PySem.W.kitOne K t t = some true := by
  unfold PySem.W.kitOne
  exact if_pos (beq_self_eq_true t)
theorem kit_refs {K : PySem.W.Frag} {C Dc : Addr} {b : Bool} (ne : Dc ≠ C) (hdct : PySem.W.hasDictIn K C = true) (ht : PySem.W.typeIn K (.ref C) = some (.type "type")) (h : PySem.W.subIn K (.ref Dc) (.ref C) = some b) : PySem.W.kitOne K (.ref Dc) (.ref C) = some b := by
  obtain ⟨cd, hc, _⟩ := PySem.W.any_some hdct
  have e2 : ((PySem.W.clsIn K C).isSome && PySem.W.typeIn K (.ref C) == some (.type "type")) = true := by rw [hc, ht] <;> rfl
  unfold PySem.W.kitOne
  rw [if_neg (fun z => ne (Value.ref.inj (beq_iff_eq.mp z)))]
  show (if ((PySem.W.clsIn K C).isSome && PySem.W.typeIn K (.ref C) == some (.type "type")) = true then PySem.W.subIn K (.ref Dc) (.ref C) else none) = some b
  rw [if_pos e2]
  exact h
theorem all_mk {l : PySem.W.OpenLaw} {w : World} {K : PySem.W.Frag} {h : Heap} {mg : Str → Option Value} {fa PL : Addr} (X : K.In h) (G : h.Ns mainGlobals mg) (hfa : mg "law" = some (.ref fa)) (hP : h.get? PL = some { cls := .none, data := .fields #[] })
    {odI anI : Option Addr} {slI : Array (Option Value)} {ocI kVI dcI pmI ctI cdI : Value} {fI : Addr}
    {odN anN : Option Addr} {slN : Array (Option Value)} {ocN kVN dcN pmN ctN cdN : Value} {fN : Addr}
    {odL anL : Option Addr} {slL : Array (Option Value)} {ocL kVL dcL pmL ctL cdL : Value} {fL : Addr}
    {odC anC : Option Addr} {slC : Array (Option Value)} {ocC kVC dcC pmC ctC cdC : Value} {fC : Addr}
    {odE anE : Option Addr} {slE : Array (Option Value)} {ocE kVE dcE pmE ctE cdE : Value} {fE : Addr}
    {odX anX : Option Addr} {slX : Array (Option Value)} {ocX kVX dcX pmX ctX cdX : Value} {fX : Addr}
    {odS anS : Option Addr} {slS : Array (Option Value)} {ocS kVS dcS pmS ctS cdS : Value} {fS : Addr}
    {odQ anQ : Option Addr} {slQ : Array (Option Value)} {ocQ kVQ dcQ pmQ ctQ cdQ : Value} {fQ : Addr}
    {odK anK : Option Addr} {slK : Array (Option Value)} {ocK kVK dcK pmK ctK cdK : Value} {fK : Addr}
    {odG anG : Option Addr} {slG : Array (Option Value)} {ocG kVG dcG pmG ctG cdG : Value} {fG : Addr}
    {odB anB : Option Addr} {slB : Array (Option Value)} {ocB kVB dcB pmB ctB cdB : Value} {fB : Addr}
    {od1 an1 : Option Addr} {sl1 : Array (Option Value)} {oc1 kV1 dc1 pm1 ct1 cd1 : Value} {f1 : Addr}
    {od2 an2 : Option Addr} {sl2 : Array (Option Value)} {oc2 kV2 dc2 pm2 ct2 cd2 : Value} {f2 : Addr}
    {od3 an3 : Option Addr} {sl3 : Array (Option Value)} {oc3 kV3 dc3 pm3 ct3 cd3 : Value} {f3 : Addr}
    {odA anA : Option Addr} {slA : Array (Option Value)} {ocA kVA dcA pmA ctA cdA : Value} {fA : Addr}
    {odJ anJ : Option Addr} {slJ : Array (Option Value)} {ocJ kVJ dcJ pmJ ctJ cdJ : Value} {fJ : Addr}
    {odW anW : Option Addr} {slW : Array (Option Value)} {ocW kVW dcW pmW ctW cdW : Value} {fW : Addr}
    {odR anR : Option Addr} {slR : Array (Option Value)} {ocR kVR dcR pmR ctR cdR : Value} {fR : Addr}
    {odZ anZ : Option Addr} {slZ : Array (Option Value)} {ocZ kVZ dcZ pmZ ctZ : Value} {fZ : Addr}
    {gL : Addr}
    {tm tc : Tok}
    {CI CB CE : Addr}
    (aI : PySem.W.nsIn K mainGlobals "is_integer" = some (some (.ref fI)))
    (lI : K.lookup fI = some ⟨ocI, odI, .func (PySem.W.fnOf "is_integer" "is_integer" (defArgs sIsInteger) (defBody sIsInteger) (defScope sIsInteger) .none kVI dcI pmI anI cdI ctI), slI⟩)
    (cI : PySem.W.codeIn K cdI "is_integer" = true)
    (kI : PySem.W.keepIn K (.ref fI) = true)
    (aN : PySem.W.nsIn K mainGlobals "is_in" = some (some (.ref fN)))
    (lN : K.lookup fN = some ⟨ocN, odN, .func (PySem.W.fnOf "is_in" "is_in" (defArgs sIsIn) (defBody sIsIn) (defScope sIsIn) .none kVN dcN pmN anN cdN ctN), slN⟩)
    (cN : PySem.W.codeIn K cdN "is_in" = true)
    (kN : PySem.W.keepIn K (.ref fN) = true)
    (aL : PySem.W.nsIn K mainGlobals "is_list" = some (some (.ref fL)))
    (lL : K.lookup fL = some ⟨ocL, odL, .func (PySem.W.fnOf "is_list" "is_list" (defArgs sIsList) (defBody sIsList) (defScope sIsList) .none kVL dcL pmL anL cdL ctL), slL⟩)
    (cL : PySem.W.codeIn K cdL "is_list" = true)
    (kL : PySem.W.keepIn K (.ref fL) = true)
    (aC : PySem.W.nsIn K mainGlobals "is_cell" = some (some (.ref fC)))
    (lC : K.lookup fC = some ⟨ocC, odC, .func (PySem.W.fnOf "is_cell" "is_cell" (defArgs sIsCell) (defBody sIsCell) (defScope sIsCell) .none kVC dcC pmC anC cdC ctC), slC⟩)
    (cC : PySem.W.codeIn K cdC "is_cell" = true)
    (kC : PySem.W.keepIn K (.ref fC) = true)
    (aE : PySem.W.nsIn K mainGlobals "need_ink" = some (some (.ref fE)))
    (lE : K.lookup fE = some ⟨ocE, odE, .func (PySem.W.fnOf "need_ink" "need_ink" (defArgs sNeedInk) (defBody sNeedInk) (defScope sNeedInk) .none kVE dcE pmE anE cdE ctE), slE⟩)
    (cE : PySem.W.codeIn K cdE "need_ink" = true)
    (kE : PySem.W.keepIn K (.ref fE) = true)
    (aX : PySem.W.nsIn K mainGlobals "box_in" = some (some (.ref fX)))
    (lX : K.lookup fX = some ⟨ocX, odX, .func (PySem.W.fnOf "box_in" "box_in" (defArgs sBoxIn) (defBody sBoxIn) (defScope sBoxIn) .none kVX dcX pmX anX cdX ctX), slX⟩)
    (cX : PySem.W.codeIn K cdX "box_in" = true)
    (kX : PySem.W.keepIn K (.ref fX) = true)
    (aS : PySem.W.nsIn K mainGlobals "sum_table" = some (some (.ref fS)))
    (lS : K.lookup fS = some ⟨ocS, odS, .func (PySem.W.fnOf "sum_table" "sum_table" (defArgs sSumTable) (defBody sSumTable) (defScope sSumTable) .none kVS dcS pmS anS cdS ctS), slS⟩)
    (cS : PySem.W.codeIn K cdS "sum_table" = true)
    (kS : PySem.W.keepIn K (.ref fS) = true)
    (aQ : PySem.W.nsIn K mainGlobals "is_box" = some (some (.ref fQ)))
    (lQ : K.lookup fQ = some ⟨ocQ, odQ, .func (PySem.W.fnOf "is_box" "is_box" (defArgs sIsBox) (defBody sIsBox) (defScope sIsBox) .none kVQ dcQ pmQ anQ cdQ ctQ), slQ⟩)
    (cQ : PySem.W.codeIn K cdQ "is_box" = true)
    (kQ : PySem.W.keepIn K (.ref fQ) = true)
    (aK : PySem.W.nsIn K mainGlobals "count_in" = some (some (.ref fK)))
    (lK : K.lookup fK = some ⟨ocK, odK, .func (PySem.W.fnOf "count_in" "count_in" (defArgs sCountIn) (defBody sCountIn) (defScope sCountIn) .none kVK dcK pmK anK cdK ctK), slK⟩)
    (cK : PySem.W.codeIn K cdK "count_in" = true)
    (kK : PySem.W.keepIn K (.ref fK) = true)
    (aG : PySem.W.nsIn K mainGlobals "greatest_box" = some (some (.ref fG)))
    (lG : K.lookup fG = some ⟨ocG, odG, .func (PySem.W.fnOf "greatest_box" "greatest_box" (defArgs sGreatest) (defBody sGreatest) (defScope sGreatest) .none kVG dcG pmG anG cdG ctG), slG⟩)
    (cG : PySem.W.codeIn K cdG "greatest_box" = true)
    (kG : PySem.W.keepIn K (.ref fG) = true)
    (aB : PySem.W.nsIn K mainGlobals "count_boxes" = some (some (.ref fB)))
    (lB : K.lookup fB = some ⟨ocB, odB, .func (PySem.W.fnOf "count_boxes" "count_boxes" (defArgs sCountBoxes) (defBody sCountBoxes) (defScope sCountBoxes) .none kVB dcB pmB anB cdB ctB), slB⟩)
    (cB : PySem.W.codeIn K cdB "count_boxes" = true)
    (kB : PySem.W.keepIn K (.ref fB) = true)
    (a1 : PySem.W.nsIn K mainGlobals "_law_taken" = some (some (.ref f1)))
    (l1 : K.lookup f1 = some ⟨oc1, od1, .func (PySem.W.fnOf "_law_taken" "_law_taken" (defArgs sTaken) (defBody sTaken) (defScope sTaken) .none kV1 dc1 pm1 an1 cd1 ct1), sl1⟩)
    (c1 : PySem.W.codeIn K cd1 "_law_taken" = true)
    (k1 : PySem.W.keepIn K (.ref f1) = true)
    (a2 : PySem.W.nsIn K mainGlobals "_law_pick" = some (some (.ref f2)))
    (l2 : K.lookup f2 = some ⟨oc2, od2, .func (PySem.W.fnOf "_law_pick" "_law_pick" (defArgs sPick) (defBody sPick) (defScope sPick) .none kV2 dc2 pm2 an2 cd2 ct2), sl2⟩)
    (c2 : PySem.W.codeIn K cd2 "_law_pick" = true)
    (k2 : PySem.W.keepIn K (.ref f2) = true)
    (a3 : PySem.W.nsIn K mainGlobals "_law_signed" = some (some (.ref f3)))
    (l3 : K.lookup f3 = some ⟨oc3, od3, .func (PySem.W.fnOf "_law_signed" "_law_signed" (defArgs sSigned) (defBody sSigned) (defScope sSigned) .none kV3 dc3 pm3 an3 cd3 ct3), sl3⟩)
    (c3 : PySem.W.codeIn K cd3 "_law_signed" = true)
    (k3 : PySem.W.keepIn K (.ref f3) = true)
    (aA : PySem.W.nsIn K mainGlobals "_law_alike" = some (some (.ref fA)))
    (lA : K.lookup fA = some ⟨ocA, odA, .func (PySem.W.fnOf "_law_alike" "_law_alike" (defArgs sAlike) (defBody sAlike) (defScope sAlike) .none kVA dcA pmA anA cdA ctA), slA⟩)
    (cA : PySem.W.codeIn K cdA "_law_alike" = true)
    (kA : PySem.W.keepIn K (.ref fA) = true)
    (aJ : PySem.W.nsIn K mainGlobals "_law_ink" = some (some (.ref fJ)))
    (lJ : K.lookup fJ = some ⟨ocJ, odJ, .func (PySem.W.fnOf "_law_ink" "_law_ink" (defArgs sInk) (defBody sInk) (defScope sInk) .none kVJ dcJ pmJ anJ cdJ ctJ), slJ⟩)
    (cJ : PySem.W.codeIn K cdJ "_law_ink" = true)
    (kJ : PySem.W.keepIn K (.ref fJ) = true)
    (aW : PySem.W.nsIn K mainGlobals "_law_box" = some (some (.ref fW)))
    (lW : K.lookup fW = some ⟨ocW, odW, .func (PySem.W.fnOf "_law_box" "_law_box" (defArgs sLawBox) (defBody sLawBox) (defScope sLawBox) .none kVW dcW pmW anW cdW ctW), slW⟩)
    (cW : PySem.W.codeIn K cdW "_law_box" = true)
    (kW : PySem.W.keepIn K (.ref fW) = true)
    (aR : PySem.W.nsIn K mainGlobals "_law_refused" = some (some (.ref fR)))
    (lR : K.lookup fR = some ⟨ocR, odR, .func (PySem.W.fnOf "_law_refused" "_law_refused" (defArgs sRefused) (defBody sRefused) (defScope sRefused) .none kVR dcR pmR anR cdR ctR), slR⟩)
    (cR : PySem.W.codeIn K cdR "_law_refused" = true)
    (kR : PySem.W.keepIn K (.ref fR) = true)
    (aZ : PySem.W.nsIn K mainGlobals "law" = some (some (.ref fZ)))
    (lZ : K.lookup fZ = some ⟨ocZ, odZ, .func (PySem.W.fnOf "law" "law" (defArgs sLaw) (defBody sLaw) (defScope sLaw) .none kVZ dcZ pmZ anZ (.ref gL) ctZ), slZ⟩)
    (cZ : PySem.W.codeIn K (.ref gL) "law" = true)
    (kZ : PySem.W.keepIn K (.ref fZ) = true)
    (z_isi : PySem.W.nsIn K mainGlobals "isinstance" = some none)
    (z_int : PySem.W.nsIn K mainGlobals "int" = some none)
    (z_bool : PySem.W.nsIn K mainGlobals "bool" = some none)
    (z_tuple : PySem.W.nsIn K mainGlobals "tuple" = some none)
    (z_list : PySem.W.nsIn K mainGlobals "list" = some none)
    (z_str : PySem.W.nsIn K mainGlobals "str" = some none)
    (z_len : PySem.W.nsIn K mainGlobals "len" = some none)
    (z_enum : PySem.W.nsIn K mainGlobals "enumerate" = some none)
    (z_min : PySem.W.nsIn K mainGlobals "min" = some none)
    (z_max : PySem.W.nsIn K mainGlobals "max" = some none)
    (z_range : PySem.W.nsIn K mainGlobals "range" = some none)
    (z_sorted : PySem.W.nsIn K mainGlobals "sorted" = some none)
    (m1 : PySem.W.nsIn K mainGlobals "MOST" = some (some (.int 60 tm)))
    (m2 : PySem.W.nsIn K mainGlobals "MOST_CELLS" = some (some (.int 400 tc)))
    (gI : PySem.W.nsIn K mainGlobals "InkError" = some (some (.ref CI)))
    (gB : PySem.W.nsIn K mainGlobals "BadNumber" = some (some (.ref CB)))
    (gE : PySem.W.nsIn K mainGlobals "EmptyInk" = some (some (.ref CE)))
    (xB : PySem.W.excIn K CB [.type "ValueError", .type "Exception", .type "BaseException", .type "object"] "ValueError.__new__" = true)
    (kkB : PySem.W.keepIn K (.ref CB) = true)
    (hgB : PySem.W.findIn K (.ref CB) "__getattribute__" = some (some (.builtin "BaseException.__getattribute__")))
    (hkB : PySem.W.findIn K (.ref CB) "__getattr__" = some none)
    (haB : PySem.W.findIn K (.ref CB) "__class__" = some (some (.builtin "object.__class__")))
    (hmB : PySem.W.mroIn K CB (.type "object") = some true)
    (siB : PySem.W.subIn K (.ref CB) (.ref CI) = some true)
    (xE : PySem.W.excIn K CE [.type "ValueError", .type "Exception", .type "BaseException", .type "object"] "ValueError.__new__" = true)
    (kkE : PySem.W.keepIn K (.ref CE) = true)
    (hgE : PySem.W.findIn K (.ref CE) "__getattribute__" = some (some (.builtin "BaseException.__getattribute__")))
    (hkE : PySem.W.findIn K (.ref CE) "__getattr__" = some none)
    (haE : PySem.W.findIn K (.ref CE) "__class__" = some (some (.builtin "object.__class__")))
    (hmE : PySem.W.mroIn K CE (.type "object") = some true)
    (siE : PySem.W.subIn K (.ref CE) (.ref CI) = some true)
    (sI : PySem.W.subIn K (.ref CI) (.type "BaseException") = some true)
    (tI : PySem.W.typeIn K (.ref CI) = some (.type "type"))
    (hdI : PySem.W.hasDictIn K CI = true)
    (sB : PySem.W.subIn K (.ref CB) (.type "BaseException") = some true)
    (tB : PySem.W.typeIn K (.ref CB) = some (.type "type"))
    (hdB : PySem.W.hasDictIn K CB = true)
    (sE : PySem.W.subIn K (.ref CE) (.type "BaseException") = some true)
    (tE : PySem.W.typeIn K (.ref CE) = some (.type "type"))
    (hdE : PySem.W.hasDictIn K CE = true)
    (hn : PySem.W.specialIn K (.builtin "object.__class__") "__get__" = some (some (.builtin "getset_descriptor.__get__")))
    (ht : PySem.W.takesIn K (.builtin "object.__class__") = some true)
    (sEB : PySem.W.subIn K (.ref CE) (.ref CB) = some false)
    (ne : CE ≠ CB)
    (hh : PySem.W.codeHdIn K gL PL = true)
    (nP : K.lookup PL = none)
    : LamX.LawAtS l w K CX0 8 63 "_law_script" mg fa h := by
  have e := hfa.symm.trans (PySem.W.mg_of X G aZ)
  cases e
  have DI : Df K mg "is_integer" sIsInteger ["value"] fI _ := ⟨fun_mk (st := sIsInteger) lI cI kI, (fun_mk (st := sIsInteger) lI cI kI).binds (ps := ["value"]) (fun _ _ _ _ _ _ us hl => match us, hl with | [_], _ => rfl), PySem.W.mg_of X G aI⟩
  have DN : Df K mg "is_in" sIsIn ["value", "least", "most"] fN _ := ⟨fun_mk (st := sIsIn) lN cN kN, (fun_mk (st := sIsIn) lN cN kN).binds (ps := ["value", "least", "most"]) (fun _ _ _ _ _ _ us hl => match us, hl with | [_, _, _], _ => rfl), PySem.W.mg_of X G aN⟩
  have DL : Df K mg "is_list" sIsList ["value", "least", "most"] fL _ := ⟨fun_mk (st := sIsList) lL cL kL, (fun_mk (st := sIsList) lL cL kL).binds (ps := ["value", "least", "most"]) (fun _ _ _ _ _ _ us hl => match us, hl with | [_, _, _], _ => rfl), PySem.W.mg_of X G aL⟩
  have DC : Df K mg "is_cell" sIsCell ["value"] fC _ := ⟨fun_mk (st := sIsCell) lC cC kC, (fun_mk (st := sIsCell) lC cC kC).binds (ps := ["value"]) (fun _ _ _ _ _ _ us hl => match us, hl with | [_], _ => rfl), PySem.W.mg_of X G aC⟩
  have DE : Df K mg "need_ink" sNeedInk ["value"] fE _ := ⟨fun_mk (st := sNeedInk) lE cE kE, (fun_mk (st := sNeedInk) lE cE kE).binds (ps := ["value"]) (fun _ _ _ _ _ _ us hl => match us, hl with | [_], _ => rfl), PySem.W.mg_of X G aE⟩
  have DX : Df K mg "box_in" sBoxIn ["ink"] fX _ := ⟨fun_mk (st := sBoxIn) lX cX kX, (fun_mk (st := sBoxIn) lX cX kX).binds (ps := ["ink"]) (fun _ _ _ _ _ _ us hl => match us, hl with | [_], _ => rfl), PySem.W.mg_of X G aX⟩
  have DS : Df K mg "sum_table" sSumTable ["ink"] fS _ := ⟨fun_mk (st := sSumTable) lS cS kS, (fun_mk (st := sSumTable) lS cS kS).binds (ps := ["ink"]) (fun _ _ _ _ _ _ us hl => match us, hl with | [_], _ => rfl), PySem.W.mg_of X G aS⟩
  have DQ : Df K mg "is_box" sIsBox ["value"] fQ _ := ⟨fun_mk (st := sIsBox) lQ cQ kQ, (fun_mk (st := sIsBox) lQ cQ kQ).binds (ps := ["value"]) (fun _ _ _ _ _ _ us hl => match us, hl with | [_], _ => rfl), PySem.W.mg_of X G aQ⟩
  have DK : Df K mg "count_in" sCountIn ["ink", "box"] fK _ := ⟨fun_mk (st := sCountIn) lK cK kK, (fun_mk (st := sCountIn) lK cK kK).binds (ps := ["ink", "box"]) (fun _ _ _ _ _ _ us hl => match us, hl with | [_, _], _ => rfl), PySem.W.mg_of X G aK⟩
  have DG : Df K mg "greatest_box" sGreatest ["ink"] fG _ := ⟨fun_mk (st := sGreatest) lG cG kG, (fun_mk (st := sGreatest) lG cG kG).binds (ps := ["ink"]) (fun _ _ _ _ _ _ us hl => match us, hl with | [_], _ => rfl), PySem.W.mg_of X G aG⟩
  have DB : Df K mg "count_boxes" sCountBoxes ["ink"] fB _ := ⟨fun_mk (st := sCountBoxes) lB cB kB, (fun_mk (st := sCountBoxes) lB cB kB).binds (ps := ["ink"]) (fun _ _ _ _ _ _ us hl => match us, hl with | [_], _ => rfl), PySem.W.mg_of X G aB⟩
  have D1 : Df K mg "_law_taken" sTaken ["_law_row", "_law_many"] f1 _ := ⟨fun_mk (st := sTaken) l1 c1 k1, (fun_mk (st := sTaken) l1 c1 k1).binds (ps := ["_law_row", "_law_many"]) (fun _ _ _ _ _ _ us hl => match us, hl with | [_, _], _ => rfl), PySem.W.mg_of X G a1⟩
  have D2 : Df K mg "_law_pick" sPick ["_law_row", "_law_things"] f2 _ := ⟨fun_mk (st := sPick) l2 c2 k2, (fun_mk (st := sPick) l2 c2 k2).binds (ps := ["_law_row", "_law_things"]) (fun _ _ _ _ _ _ us hl => match us, hl with | [_, _], _ => rfl), PySem.W.mg_of X G a2⟩
  have D3 : Df K mg "_law_signed" sSigned ["_law_row", "_law_most"] f3 _ := ⟨fun_mk (st := sSigned) l3 c3 k3, (fun_mk (st := sSigned) l3 c3 k3).binds (ps := ["_law_row", "_law_most"]) (fun _ _ _ _ _ _ us hl => match us, hl with | [_, _], _ => rfl), PySem.W.mg_of X G a3⟩
  have DA : Df K mg "_law_alike" sAlike ["_law_found", "_law_due"] fA _ := ⟨fun_mk (st := sAlike) lA cA kA, (fun_mk (st := sAlike) lA cA kA).binds (ps := ["_law_found", "_law_due"]) (fun _ _ _ _ _ _ us hl => match us, hl with | [_, _], _ => rfl), PySem.W.mg_of X G aA⟩
  have DJ : Df K mg "_law_ink" sInk ["_law_row", "_law_high", "_law_wide"] fJ _ := ⟨fun_mk (st := sInk) lJ cJ kJ, (fun_mk (st := sInk) lJ cJ kJ).binds (ps := ["_law_row", "_law_high", "_law_wide"]) (fun _ _ _ _ _ _ us hl => match us, hl with | [_, _, _], _ => rfl), PySem.W.mg_of X G aJ⟩
  have DW : Df K mg "_law_box" sLawBox ["_law_ink_here"] fW _ := ⟨fun_mk (st := sLawBox) lW cW kW, (fun_mk (st := sLawBox) lW cW kW).binds (ps := ["_law_ink_here"]) (fun _ _ _ _ _ _ us hl => match us, hl with | [_], _ => rfl), PySem.W.mg_of X G aW⟩
  have DR : Df K mg "_law_refused" sRefused ["_law_work"] fR _ := ⟨fun_mk (st := sRefused) lR cR kR, (fun_mk (st := sRefused) lR cR kR).binds (ps := ["_law_work"]) (fun _ _ _ _ _ _ us hl => match us, hl with | [_], _ => rfl), PySem.W.mg_of X G aR⟩
  have T0 : Txt mg := ⟨PySem.W.mg_none_of X G z_isi, PySem.W.mg_none_of X G z_int, PySem.W.mg_none_of X G z_bool, PySem.W.mg_none_of X G z_tuple, PySem.W.mg_none_of X G z_list, PySem.W.mg_none_of X G z_str, PySem.W.mg_none_of X G z_len, PySem.W.mg_none_of X G z_enum, PySem.W.mg_none_of X G z_min, PySem.W.mg_none_of X G z_max, PySem.W.mg_none_of X G z_range, PySem.W.mg_none_of X G z_sorted, ⟨tm, PySem.W.mg_of X G m1⟩, ⟨tc, PySem.W.mg_of X G m2⟩⟩
  have Er : ErrT K mg CI CB CE := ⟨PySem.W.mg_of X G gI, ⟨PySem.W.mg_of X G gB, xB, kkB, sB, tB⟩, ⟨PySem.W.mg_of X G gE, xE, kkE, sE, tE⟩, ⟨hgB, hkB, sB, hdB, haB, hn, ht, hmB⟩, ⟨hgE, hkE, sE, hdE, haE, hn, ht, hmE⟩, PySem.W.exm_ref sI hdI tI siB, PySem.W.exm_ref sI hdI tI siE, kit_self _, kit_refs ne hdB tB sEB, kit_self _⟩
  refine ⟨PySem.W.fnOf "law" "law" (defArgs sLaw) (defBody sLaw) (defScope sLaw) .none kVZ dcZ pmZ anZ (.ref gL) ctZ, [(gL, PL)], spLaw K PL, fun p hp => by rw [List.mem_singleton.mp hp]; exact hP, fun p hp => by rw [List.mem_singleton.mp hp]; exact nP, fun p hp => by rw [List.mem_singleton.mp hp]; exact PySem.W.codeHd_of_K X hh,
    fun s v => .of_eq rfl, fun H a ns hl hb ht hS => ⟨a, ns, rfl, hS, ht (gL, PL) (List.mem_singleton.mpr rfl), fun _ => rfl⟩, fun base hb hns hTB => ?_⟩
  exact ok_law lZ cZ (hTB (gL, PL) (List.mem_singleton.mpr rfl)) T0 Er DI DN DL DC DE DX DS DQ DK DG DB D1 D2 D3 DA DJ DW DR
end Gk

open PySem PySem.W PyProof.Rows in
set_option maxRecDepth 100000 in
set_option maxHeartbeats 0 in
theorem PySem.Challenge.cw_gridink_k95_whole_boxes_within_holds : PySem.Challenge.rw_gridink_k95_whole_boxes_within.Holds := by
  w_on; o_law; k_head; (case hw => w_witness2)
  k_fill
  refine LamX.walk_ofTs (l := PySem.Challenge.rw_gridink_k95_whole_boxes_within) (n := 63) (k := 8) (x := "_law_script") (CX := fun _ => L2.CX0) rfl (by decide) rfl ⟨rfl, by decide, by decide⟩ (fun w h Y => PySem.W.km_in_of Y) ?F (fun _ _ _ _ _ z => z)
  case F =>
    intro w mg fa h Y KX G hmg
    refine' Gk.all_mk (PL := 184) KX G hmg (PySem.W.km_tabs_of Y 184 (by simp)) ?aI ?lI ?cI ?kI ?aN ?lN ?cN ?kN ?aL ?lL ?cL ?kL ?aC ?lC ?cC ?kC ?aE ?lE ?cE ?kE ?aX ?lX ?cX ?kX ?aS ?lS ?cS ?kS ?aQ ?lQ ?cQ ?kQ ?aK ?lK ?cK ?kK ?aG ?lG ?cG ?kG ?aB ?lB ?cB ?kB ?a1 ?l1 ?c1 ?k1 ?a2 ?l2 ?c2 ?k2 ?a3 ?l3 ?c3 ?k3 ?aA ?lA ?cA ?kA ?aJ ?lJ ?cJ ?kJ ?aW ?lW ?cW ?kW ?aR ?lR ?cR ?kR ?aZ ?lZ ?cZ ?kZ ?z_isi ?z_int ?z_bool ?z_tuple ?z_list ?z_str ?z_len ?z_enum ?z_min ?z_max ?z_range ?z_sorted ?m1 ?m2 ?gI ?gB ?gE ?xB ?kkB ?hgB ?hkB ?haB ?hmB ?siB ?xE ?kkE ?hgE ?hkE ?haE ?hmE ?siE ?sI ?tI ?hdI ?sB ?tB ?hdB ?sE ?tE ?hdE ?hn ?ht ?sEB ?ne ?hh ?nP
    (case aI => k_is)
    (case lI => k_is)
    (case cI => k_is)
    (case kI => k_is)
    (case aN => k_is)
    (case lN => k_is)
    (case cN => k_is)
    (case kN => k_is)
    (case aL => k_is)
    (case lL => k_is)
    (case cL => k_is)
    (case kL => k_is)
    (case aC => k_is)
    (case lC => k_is)
    (case cC => k_is)
    (case kC => k_is)
    (case aE => k_is)
    (case lE => k_is)
    (case cE => k_is)
    (case kE => k_is)
    (case aX => k_is)
    (case lX => k_is)
    (case cX => k_is)
    (case kX => k_is)
    (case aS => k_is)
    (case lS => k_is)
    (case cS => k_is)
    (case kS => k_is)
    (case aQ => k_is)
    (case lQ => k_is)
    (case cQ => k_is)
    (case kQ => k_is)
    (case aK => k_is)
    (case lK => k_is)
    (case cK => k_is)
    (case kK => k_is)
    (case aG => k_is)
    (case lG => k_is)
    (case cG => k_is)
    (case kG => k_is)
    (case aB => k_is)
    (case lB => k_is)
    (case cB => k_is)
    (case kB => k_is)
    (case a1 => k_is)
    (case l1 => k_is)
    (case c1 => k_is)
    (case k1 => k_is)
    (case a2 => k_is)
    (case l2 => k_is)
    (case c2 => k_is)
    (case k2 => k_is)
    (case a3 => k_is)
    (case l3 => k_is)
    (case c3 => k_is)
    (case k3 => k_is)
    (case aA => k_is)
    (case lA => k_is)
    (case cA => k_is)
    (case kA => k_is)
    (case aJ => k_is)
    (case lJ => k_is)
    (case cJ => k_is)
    (case kJ => k_is)
    (case aW => k_is)
    (case lW => k_is)
    (case cW => k_is)
    (case kW => k_is)
    (case aR => k_is)
    (case lR => k_is)
    (case cR => k_is)
    (case kR => k_is)
    (case aZ => k_is)
    (case lZ => k_is)
    (case cZ => k_is)
    (case kZ => k_is)
    (case z_isi => k_is)
    (case z_int => k_is)
    (case z_bool => k_is)
    (case z_tuple => k_is)
    (case z_list => k_is)
    (case z_str => k_is)
    (case z_len => k_is)
    (case z_enum => k_is)
    (case z_min => k_is)
    (case z_max => k_is)
    (case z_range => k_is)
    (case z_sorted => k_is)
    (case m1 => k_is)
    (case m2 => k_is)
    (case gI => k_is)
    (case gB => k_is)
    (case gE => k_is)
    (case xB => k_exc)
    (case kkB => k_is)
    (case hgB => k_is)
    (case hkB => k_is)
    (case haB => k_is)
    (case hmB => k_is)
    (case siB => k_is)
    (case xE => k_exc)
    (case kkE => k_is)
    (case hgE => k_is)
    (case hkE => k_is)
    (case haE => k_is)
    (case hmE => k_is)
    (case siE => k_is)
    (case sI => k_is)
    (case tI => k_is)
    (case hdI => k_is)
    (case sB => k_is)
    (case tB => k_is)
    (case hdB => k_is)
    (case sE => k_is)
    (case tE => k_is)
    (case hdE => k_is)
    (case hn => k_is)
    (case ht => k_is)
    (case sEB => k_is)
    (case ne => decide)
    (case hh => kernel_rfl)
    (case nP => kernel_rfl)
