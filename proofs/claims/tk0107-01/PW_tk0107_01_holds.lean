import PyProof.Rows.All
import Wide.All
import OpenK.AllK
import Wide.FinOn
import Lean
import PySem.Challenge.RW_tk0107_01
open PySem PySem.W PyProof.Rows
set_option Elab.async false
set_option maxRecDepth 100000
set_option maxHeartbeats 0
namespace Mine

/-! the plain law: texts as lists of signs -/
/-- a text by the list of its signs -/
def S (l : List Nat) : Str := ⟨l.toArray⟩
theorem S_len (l : List Nat) : (S l).length = l.length := by simp [S, Str.length]
theorem S_inj {a b : List Nat} (h : S a = S b) : a = b := by
  have := congrArg (fun x : Str => x.cps.toList) h
  simpa [S] using this
theorem S_beq (a b : List Nat) : (S a == S b) = (a == b) := by
  by_cases h : a = b
  · subst h; simp
  · have h2 : S a ≠ S b := fun e => h (S_inj e)
    rw [beq_eq_false_iff_ne.mpr h, beq_eq_false_iff_ne.mpr h2]
theorem S_app (a b : List Nat) : S a ++ S b = S (a ++ b) := by
  apply Str.ext'
  show (S a).cps ++ (S b).cps = _
  simp [S]
theorem S_of (x : Str) : x = S x.cps.toList := by
  apply Str.ext'
  simp [S]
theorem S_nil : Str.empty = S [] := rfl

def rep (n : Nat) (l : List Nat) : List Nat := (List.replicate n l).flatten
theorem rep_zero (l : List Nat) : rep 0 l = [] := rfl
theorem rep_succ (n : Nat) (l : List Nat) : rep (n + 1) l = l ++ rep n l := by
  simp [rep, List.replicate_succ]
theorem rep_len (n : Nat) (l : List Nat) : (rep n l).length = n * l.length := by
  simp [rep]

theorem foldl_app (l : List (Array Nat)) : ∀ a : Array Nat, (l.foldl (· ++ ·) a).toList = a.toList ++ (l.map Array.toList).flatten := by
  induction l with
  | nil => intro a; simp
  | cons x r ih => intro a; simp [ih]

theorem S_mul (l : List Nat) (k : Int) : Txt.mul (S l) k = S (rep k.toNat l) := by
  unfold Txt.mul
  by_cases h1 : k < 1
  · rw [if_pos h1]
    have : k.toNat = 0 := by omega
    rw [this]; rfl
  · rw [if_neg h1]
    by_cases h2 : (k == 1 || (S l).length == 0) = true
    · rw [if_pos h2]
      rcases Bool.or_eq_true_iff.mp h2 with h | h
      · have : k = 1 := by simpa using h
        subst this
        apply congrArg S
        simp [rep]
      · have : l = [] := by
          rw [S_len] at h
          exact List.length_eq_zero_iff.mp (by simpa using h)
        subst this
        apply congrArg S
        simp [rep]
    · rw [if_neg h2]
      apply Str.ext'
      apply Array.ext'
      show (List.foldl (· ++ ·) #[] (List.replicate k.toNat (S l).cps)).toList = (rep k.toNat l).toArray.toList
      rw [foldl_app]
      simp [rep, S]

theorem filterMap_pick (l : List Nat) (a b : Nat) : (((List.range b).map (a + ·)).filterMap (l.toArray[·]?)) = (l.drop a).take b := by
  have := pick_run l.toArray a b
  simpa using this

theorem idx_nat (p q : Nat) : (if (p : Int) < (q : Int) then ((q : Int) - p + 1 - 1) / 1 else 0).toNat = q - p := by
  split
  · rw [Int.ediv_one]; omega
  · omega
theorem clip_nat (a n : Nat) : max 0 (min (a : Int) (n : Int)) = ((min a n : Nat) : Int) := by
  rcases Nat.le_total a n with h | h
  · rw [Nat.min_eq_left h, Int.min_eq_left (Int.ofNat_le.mpr h), Int.max_eq_right (Int.natCast_nonneg _)]
  · rw [Nat.min_eq_right h, Int.min_eq_right (Int.ofNat_le.mpr h), Int.max_eq_right (Int.natCast_nonneg _)]
theorem step_nat (p k : Nat) : ((p : Int) + 1 * (k : Int)).toNat = p + k := by omega
theorem slice_idx (l : List Nat) (a b : Int) (ha : 0 ≤ a) (hb : 0 ≤ b) : Builtin.Str.strSliceIndices (some a) (some b) 1 l.length = (List.range (min b.toNat l.length - min a.toNat l.length)).map (min a.toNat l.length + ·) := by
  obtain ⟨a, rfl⟩ := Int.eq_ofNat_of_zero_le ha
  obtain ⟨b, rfl⟩ := Int.eq_ofNat_of_zero_le hb
  unfold Builtin.Str.strSliceIndices sliceRange
  simp only [show (1 : Int) > 0 by decide, if_true, if_neg (Int.not_lt.mpr ha), if_neg (Int.not_lt.mpr hb), clip_nat, idx_nat, Int.toNat_natCast]
  apply List.map_congr_left
  intro k hk
  exact step_nat _ _

theorem slice_core (x : Str) (I : List Nat) (r : List Nat) (hI : I.filterMap (x.cps[·]?) = r) (hfull : I.length = x.length → r = x.cps.toList) :
    (if ((1 : Int) == 1 && I.length == x.length) = true then x else ⟨(I.filterMap (x.cps[·]?)).toArray⟩) = S r := by
  split
  · rename_i h
    have h2 : I.length = x.length := by simpa using h
    rw [hfull h2]; exact S_of x
  · rw [hI]; rfl

theorem S_slice (l : List Nat) (a b : Int) (ha : 0 ≤ a) (hb : 0 ≤ b) : Txt.slice (S l) (some a) (some b) = S ((l.drop a.toNat).take (b.toNat - a.toNat)) := by
  unfold Txt.slice
  rw [S_len]
  have e := slice_idx l a b ha hb
  refine Eq.trans (b := S ((l.drop (min a.toNat l.length)).take (min b.toNat l.length - min a.toNat l.length))) ?_ ?_
  · rw [← S_len l] at e ⊢
    refine slice_core (S l) _ _ ?_ ?_
    · rw [S_len] at e ⊢; rw [e]; exact filterMap_pick l _ _
    · intro h
      rw [S_len] at e h
      rw [e] at h
      simp only [List.length_map, List.length_range] at h
      show _ = l
      simp only [S_len]
      rw [show min a.toNat l.length = 0 by omega, show min b.toNat l.length = l.length by omega]
      simp
  · apply congrArg S
    apply List.ext_getElem?
    intro i
    simp only [List.getElem?_take, List.getElem?_drop]
    split <;> split
    · congr 1; omega
    · omega
    · rename_i h1 h2
      symm
      apply List.getElem?_eq_none
      omega
    · rfl

theorem slice_none_lo (x : Str) (b : Option Int) : Txt.slice x none b = Txt.slice x (some 0) b := by
  unfold Txt.slice
  have : Builtin.Str.strSliceIndices none b 1 x.length = Builtin.Str.strSliceIndices (some 0) b 1 x.length := by
    unfold Builtin.Str.strSliceIndices
    have h : ¬ (0 : Int) < 0 := by omega
    have e : max (0 : Int) (min 0 (x.length : Int)) = 0 := by omega
    simp only [show (1 : Int) > 0 by decide, if_true, if_neg h, e]
  rw [this]
theorem slice_none_hi (x : Str) (a : Option Int) : Txt.slice x a none = Txt.slice x a (some (x.length : Int)) := by
  unfold Txt.slice
  have : Builtin.Str.strSliceIndices a none 1 x.length = Builtin.Str.strSliceIndices a (some (x.length : Int)) 1 x.length := by
    unfold Builtin.Str.strSliceIndices
    have h : ¬ (x.length : Int) < 0 := by omega
    have e : max (0 : Int) (min (x.length : Int) (x.length : Int)) = (x.length : Int) := by omega
    simp only [show (1 : Int) > 0 by decide, if_true, if_neg h, e]
  rw [this]
theorem S_take (l : List Nat) (b : Int) (hb : 0 ≤ b) : Txt.slice (S l) none (some b) = S (l.take b.toNat) := by
  rw [slice_none_lo, S_slice l 0 b (by decide) hb]
  simp
theorem S_drop (l : List Nat) (a : Int) (ha : 0 ≤ a) : Txt.slice (S l) (some a) none = S (l.drop a.toNat) := by
  rw [slice_none_hi, S_slice l a _ ha (by omega), S_len]
  apply congrArg S
  apply List.take_of_length_le
  simp only [List.length_drop]; omega

theorem S_rev (l : List Nat) (u : Tok) : Txt.sliceBy (S l) none none (-1, u) = S l.reverse := by
  unfold Txt.sliceBy slicePicked
  simp only [Option.map_none, Option.map_some, Option.getD_some]
  rw [if_neg (by simp)]
  have e : Builtin.Str.strSliceIndices none none (-1) (S l).length = (List.range l.length).map fun k => l.length - 1 - k := by
    rw [S_len]
    unfold Builtin.Str.strSliceIndices
    simp only [show ¬ ((-1 : Int) > 0) by decide, if_false]
    exact krv_sliceRange l.length
  rw [e, krv_range]
  show Str.mk _ = Str.mk _
  congr 1
  rw [List.filterMap_reverse]
  have h := krv_all l.toArray
  simp only [List.size_toArray] at h
  show ((List.filterMap (fun x => l.toArray[x]?) (List.range l.length)).reverse).toArray = _
  rw [h]
def okAt (l : List Nat) (d : Nat) : Bool := rep (l.length / d) (l.take d) == l
def root (l : List Nat) : List Nat := match (List.range l.length).find? (fun i => okAt l (i + 1)) with
  | some i => l.take (i + 1)
  | none => l

/-! roots, powers, words joined either way -/
/-- the sign at i of l, again and again -/
def cyc (l : List Nat) (i : Nat) : Option Nat := l[i % l.length]?
theorem rep_get (l : List Nat) (h0 : 1 ≤ l.length) : ∀ (n i : Nat), i < n * l.length → (rep n l)[i]? = cyc l i
  | 0, i, h => by omega
  | n + 1, i, h => by
    rw [rep_succ]
    by_cases hi : i < l.length
    · rw [List.getElem?_append_left hi]
      unfold cyc
      rw [Nat.mod_eq_of_lt hi]
    · rw [List.getElem?_append_right (by omega)]
      rw [Nat.succ_mul] at h
      rw [rep_get l h0 n (i - l.length) (by omega)]
      unfold cyc
      congr 1
      rw [← Nat.mod_eq_sub_mod (by omega)]
theorem rep_eq_of_cyc {l m : List Nat} {a b : Nat} (hl : 1 ≤ l.length) (hm : 1 ≤ m.length) (hab : a * l.length = b * m.length) (h : ∀ i, cyc l i = cyc m i) : rep a l = rep b m := by
  apply List.ext_getElem?
  intro i
  by_cases hi : i < a * l.length
  · rw [rep_get l hl a i hi, rep_get m hm b i (by omega), h]
  · rw [List.getElem?_eq_none (by rw [rep_len]; omega), List.getElem?_eq_none (by rw [rep_len]; omega)]
theorem cyc_of_rep_eq {l m : List Nat} {a b : Nat} (hl : 1 ≤ l.length) (hm : 1 ≤ m.length) (ha : 1 ≤ a) (hab : a * l.length = b * m.length) (h : rep a l = rep b m) : ∀ i, cyc l i = cyc m i := by
  intro i
  have hN : 0 < a * l.length := Nat.mul_pos ha hl
  have e1 : cyc l i = cyc l (i % (a * l.length)) := by
    unfold cyc; congr 1
    rw [Nat.mul_comm, Nat.mod_mul_right_mod]
  have e2 : cyc m i = cyc m (i % (a * l.length)) := by
    unfold cyc; congr 1
    rw [hab, Nat.mul_comm, Nat.mod_mul_right_mod]
  have hlt := Nat.mod_lt i hN
  rw [e1, e2, ← rep_get l hl a _ hlt, ← rep_get m hm b _ (by omega), h]
/-- the period d of a cycle -/
def per (f : Nat → Option Nat) (d : Nat) : Prop := ∀ i, f (i + d) = f i
theorem cyc_per (l : List Nat) : per (cyc l) l.length := by
  intro i
  unfold cyc
  rw [Nat.add_mod_right]
theorem per_mul {f : Nat → Option Nat} {d : Nat} (h : per f d) : ∀ k, per f (k * d)
  | 0 => fun i => by simp
  | k + 1 => fun i => by
    rw [Nat.succ_mul, ← Nat.add_assoc, h, per_mul h k i]
theorem per_gcd {f : Nat → Option Nat} : ∀ (a b : Nat), per f a → per f b → per f (Nat.gcd a b) := by
  intro a b
  induction a, b using Nat.gcd.induction with
  | H0 n => intro _ h; simpa using h
  | H1 m n hm ih =>
    intro h1 h2
    rw [Nat.gcd_rec]
    refine ih ?_ h1
    intro i
    have e : i + n % m + n / m * m = i + n := by
      have := Nat.mod_add_div' n m
      omega
    have h3 := per_mul h1 (n / m) (i + n % m)
    rw [e, h2] at h3
    exact h3.symm
/-- a prefix whose powers are the word: its length divides, and it is a period -/
theorem okAt_iff {l : List Nat} {d : Nat} (hl : 1 ≤ l.length) (hd : 1 ≤ d) (hdl : d ≤ l.length) : okAt l d = true ↔ d ∣ l.length ∧ per (cyc l) d := by
  have ht : (l.take d).length = d := by rw [List.length_take]; omega
  unfold okAt
  rw [beq_iff_eq]
  constructor
  · intro h
    have hlen := congrArg List.length h
    rw [rep_len, ht] at hlen
    have hdvd : d ∣ l.length := ⟨l.length / d, by rw [Nat.mul_comm]; exact hlen.symm⟩
    refine ⟨hdvd, ?_⟩
    have hr : rep 1 l = rep (l.length / d) (l.take d) := by
      rw [h]; simp [rep]
    have hc := cyc_of_rep_eq (l := l) (m := l.take d) hl (by omega) (Nat.le_refl 1) (by rw [ht]; omega) hr
    intro i
    rw [hc, hc]
    have := cyc_per (l.take d) i
    rw [ht] at this
    exact this
  · rintro ⟨hdvd, hp⟩
    have he : l.length / d * d = l.length := Nat.div_mul_cancel hdvd
    have hc : ∀ i, cyc (l.take d) i = cyc l i := by
      intro i
      have e : cyc l i = cyc l (i % d) := by
        have := per_mul hp (i / d) (i % d)
        rw [Nat.mod_add_div' i d] at this
        exact this
      rw [e]
      unfold cyc
      rw [ht, List.getElem?_take, if_pos (Nat.mod_lt i hd)]
      congr 1
      exact (Nat.mod_eq_of_lt (Nat.lt_of_lt_of_le (Nat.mod_lt i hd) hdl)).symm
    have := rep_eq_of_cyc (l := l.take d) (m := l) (a := l.length / d) (b := 1) (by omega) hl (by rw [ht]; omega) hc
    rw [this]; simp [rep]
theorem okAt_full {l : List Nat} (hl : 1 ≤ l.length) : okAt l l.length = true := (okAt_iff hl hl (Nat.le_refl _)).mpr ⟨Nat.dvd_refl _, cyc_per l⟩
/-- the root: its length is the least that does -/
theorem root_spec {l : List Nat} (hl : 1 ≤ l.length) : ∃ d, 1 ≤ d ∧ d ≤ l.length ∧ root l = l.take d ∧ okAt l d = true ∧ ∀ e, 1 ≤ e → e < d → okAt l e = false := by
  unfold root
  cases hf : (List.range l.length).find? (fun i => okAt l (i + 1)) with
  | none =>
    exfalso
    rw [List.find?_eq_none] at hf
    have := hf (l.length - 1) (by rw [List.mem_range]; omega)
    rw [show l.length - 1 + 1 = l.length by omega] at this
    exact this (okAt_full hl)
  | some i =>
    rw [List.find?_eq_some_iff_getElem] at hf
    obtain ⟨h1, j, hj, hji, hlt⟩ := hf
    simp only [List.length_range] at hj
    simp only [List.getElem_range] at hji
    subst hji
    refine ⟨j + 1, by omega, by omega, rfl, h1, ?_⟩
    intro e he1 hed
    have := hlt (e - 1) (by omega)
    simp only [List.getElem_range] at this
    rw [show e - 1 + 1 = e by omega] at this
    simpa using this
theorem root_len {l : List Nat} (hl : 1 ≤ l.length) : 1 ≤ (root l).length ∧ (root l).length ≤ l.length ∧ (root l).length ∣ l.length ∧ per (cyc l) (root l).length ∧ (∀ e, 1 ≤ e → e ∣ l.length → per (cyc l) e → (root l).length ≤ e) ∧ root l = l.take (root l).length := by
  obtain ⟨d, h1, h2, h3, h4, h5⟩ := root_spec hl
  have hlen : (root l).length = d := by rw [h3, List.length_take]; omega
  rw [hlen]
  obtain ⟨h6, h7⟩ := (okAt_iff hl h1 h2).mp h4
  refine ⟨h1, h2, h6, h7, ?_, h3⟩
  intro e he hdv hp
  refine Nat.le_of_not_lt fun hlt => ?_
  have := h5 e he hlt
  rw [(okAt_iff hl he (by omega)).mpr ⟨hdv, hp⟩] at this
  cases this
theorem root_of_cyc {l m : List Nat} (hl : 1 ≤ l.length) (hm : 1 ≤ m.length) (h : ∀ i, cyc l i = cyc m i) : root l = root m := by
  obtain ⟨a1, a2, a3, a4, a5, a6⟩ := root_len hl
  obtain ⟨b1, b2, b3, b4, b5, b6⟩ := root_len hm
  have hf : cyc l = cyc m := funext h
  have hg := per_gcd _ _ a4 (hf ▸ b4)
  have hg1 : 1 ≤ Nat.gcd (root l).length (root m).length := Nat.gcd_pos_of_pos_left _ a1
  have e1 := a5 _ hg1 (Nat.dvd_trans (Nat.gcd_dvd_left _ _) a3) hg
  have e2 := b5 _ hg1 (Nat.dvd_trans (Nat.gcd_dvd_right _ _) b3) (hf ▸ hg)
  have g1 := Nat.gcd_le_left (root m).length (show 0 < (root l).length from a1)
  have g2 := Nat.gcd_le_right (root l).length (show 0 < (root m).length from b1)
  have hlen : (root l).length = (root m).length := by omega
  rw [a6, b6, ← hlen]
  apply List.ext_getElem?
  intro i
  rw [List.getElem?_take, List.getElem?_take]
  split
  · have := h i
    unfold cyc at this
    rwa [Nat.mod_eq_of_lt (by omega), Nat.mod_eq_of_lt (by omega)] at this
  · rfl
theorem root_pow {l : List Nat} (hl : 1 ≤ l.length) : rep (l.length / (root l).length) (root l) = l := by
  obtain ⟨a1, a2, a3, a4, a5, a6⟩ := root_len hl
  have := (okAt_iff hl a1 a2).mpr ⟨a3, a4⟩
  unfold okAt at this
  rw [← a6, beq_iff_eq] at this
  exact this
theorem cyc_root {l : List Nat} (hl : 1 ≤ l.length) : ∀ i, cyc (root l) i = cyc l i := by
  obtain ⟨a1, a2, a3, a4, a5, a6⟩ := root_len hl
  have h := root_pow hl
  have hd : 1 ≤ l.length / (root l).length := Nat.div_pos a2 a1
  refine cyc_of_rep_eq (a := l.length / (root l).length) (b := 1) a1 hl hd ?_ ?_
  · rw [Nat.div_mul_cancel a3]; omega
  · rw [h]; simp [rep]
theorem cyc_of_root {l m : List Nat} (hl : 1 ≤ l.length) (hm : 1 ≤ m.length) (h : root l = root m) : ∀ i, cyc l i = cyc m i := by
  intro i
  rw [← cyc_root hl, ← cyc_root hm, h]
theorem pow_iff {l m : List Nat} {a b : Nat} (hl : 1 ≤ l.length) (hm : 1 ≤ m.length) (ha : 1 ≤ a) (hab : a * l.length = b * m.length) : (rep a l == rep b m) = (root l == root m) := by
  rw [Bool.eq_iff_iff, beq_iff_eq, beq_iff_eq]
  exact ⟨fun h => root_of_cyc hl hm (cyc_of_rep_eq hl hm ha hab h), fun h => rep_eq_of_cyc hl hm hab (cyc_of_root hl hm h)⟩
/-- two words joined either way are the same just when their cycles are -/
theorem app_get {l m : List Nat} (hl : 1 ≤ l.length) (hm : 1 ≤ m.length) (h : ∀ i, cyc l i = cyc m i) : ∀ i, i < l.length + m.length → (l ++ m)[i]? = cyc l i := by
  intro i hi
  by_cases h1 : i < l.length
  · rw [List.getElem?_append_left h1]
    unfold cyc
    rw [Nat.mod_eq_of_lt h1]
  · rw [List.getElem?_append_right (by omega)]
    have e := cyc_per l (i - l.length)
    rw [Nat.sub_add_cancel (by omega)] at e
    rw [e, h]
    unfold cyc
    rw [Nat.mod_eq_of_lt (by omega)]
theorem comm_of_cyc {l m : List Nat} (hl : 1 ≤ l.length) (hm : 1 ≤ m.length) (h : ∀ i, cyc l i = cyc m i) : l ++ m = m ++ l := by
  apply List.ext_getElem?
  intro i
  by_cases hi : i < l.length + m.length
  · rw [app_get hl hm h i hi, app_get hm hl (fun i => (h i).symm) i (by omega), h]
  · rw [List.getElem?_eq_none (by rw [List.length_append]; omega), List.getElem?_eq_none (by rw [List.length_append]; omega)]
theorem rep_comm {l m : List Nat} (h : l ++ m = m ++ l) : ∀ n, rep n l ++ m = m ++ rep n l
  | 0 => by simp [rep]
  | n + 1 => by rw [rep_succ, List.append_assoc, rep_comm h n, ← List.append_assoc, h, List.append_assoc]
theorem cyc_of_comm {l m : List Nat} (hl : 1 ≤ l.length) (hm : 1 ≤ m.length) (h : l ++ m = m ++ l) : ∀ i, cyc l i = cyc m i := by
  have hp : per (cyc l) m.length := by
    intro i
    have hN : i + m.length + 1 ≤ (i + m.length + 1) * l.length := Nat.le_mul_of_pos_right _ hl
    have h1 := rep_comm h (i + m.length + 1)
    have h2 := congrArg (fun z : List Nat => z[i + m.length]?) h1
    (try simp only at h2)
    rw [List.getElem?_append_left (by rw [rep_len]; omega), List.getElem?_append_right (by omega), rep_get l hl _ _ (by omega), rep_get l hl _ _ (by omega)] at h2
    rw [h2]
    congr 1
    omega
  have hpre : ∀ i, i < m.length → cyc l i = m[i]? := by
    intro i hi
    have hN : i + 1 ≤ (i + 1) * l.length := Nat.le_mul_of_pos_right _ hl
    have h1 := rep_comm h (i + 1)
    have h2 := congrArg (fun z : List Nat => z[i]?) h1
    (try simp only at h2)
    rw [List.getElem?_append_left (by rw [rep_len]; omega), List.getElem?_append_left hi, rep_get l hl _ _ (by omega)] at h2
    exact h2
  intro i
  have e : cyc l i = cyc l (i % m.length) := by
    have := per_mul hp (i / m.length) (i % m.length)
    rw [Nat.mod_add_div' i m.length] at this
    exact this
  rw [e, hpre _ (Nat.mod_lt i hm)]
  rfl
theorem comm_iff {l m : List Nat} (hl : 1 ≤ l.length) (hm : 1 ≤ m.length) : (l ++ m == m ++ l) = (root l == root m) := by
  rw [Bool.eq_iff_iff, beq_iff_eq, beq_iff_eq]
  exact ⟨fun h => root_of_cyc hl hm (cyc_of_comm hl hm h), fun h => comm_of_cyc hl hm (cyc_of_root hl hm h)⟩
theorem app_root {l m : List Nat} (hl : 1 ≤ l.length) (hm : 1 ≤ m.length) (h : root l = root m) : l ++ m = rep ((l.length + m.length) / (root l).length) (root l) := by
  obtain ⟨a1, a2, a3, a4, a5, a6⟩ := root_len hl
  obtain ⟨b1, b2, b3, b4, b5, b6⟩ := root_len hm
  rw [← h] at b3
  have hd : (root l).length ∣ l.length + m.length := Nat.dvd_add a3 b3
  apply List.ext_getElem?
  intro i
  by_cases hi : i < l.length + m.length
  · rw [app_get hl hm (cyc_of_root hl hm h) i hi, rep_get (root l) a1 _ _ (by rw [Nat.div_mul_cancel hd]; exact hi), cyc_root hl]
  · rw [List.getElem?_eq_none (by rw [List.length_append]; omega), List.getElem?_eq_none (by rw [rep_len, Nat.div_mul_cancel hd]; omega)]

/-! turns -/
def rot (l : List Nat) (t : Nat) : List Nat := l.drop t ++ l.take t
theorem rot_len {l : List Nat} {t : Nat} (ht : t ≤ l.length) : (rot l t).length = l.length := by
  unfold rot; rw [List.length_append, List.length_drop, List.length_take]; omega
theorem rot_zero (l : List Nat) : rot l 0 = l := by simp [rot]
theorem rot_full (l : List Nat) : rot l l.length = l := by simp [rot]
theorem rep_two (l : List Nat) : rep 2 l = l ++ l := by simp [rep, List.replicate]
theorem rot_step {l : List Nat} {i : Nat} (hi : i < l.length) : ((rep 2 (rot l i)).drop 1).take l.length = rot l (i + 1) := by
  have hd : l.drop i = l[i] :: l.drop (i + 1) := List.drop_eq_getElem_cons hi
  have ht : l.take (i + 1) = l.take i ++ [l[i]] := by rw [List.take_succ_eq_append_getElem hi]
  rw [rep_two]
  unfold rot
  rw [hd, ht]
  simp only [List.cons_append, List.drop_succ_cons, List.drop_zero, List.append_assoc]
  have e : l.length = (l.drop (i + 1) ++ (l.take i ++ [l[i]])).length := by
    simp only [List.length_append, List.length_drop, List.length_take, List.length_cons, List.length_nil]; omega
  rw [show l.drop (i + 1) ++ (l.take i ++ l[i] :: (l.drop (i + 1) ++ l.take i)) = (l.drop (i + 1) ++ (l.take i ++ [l[i]])) ++ (l.drop (i + 1) ++ l.take i) by simp only [List.append_assoc, List.cons_append, List.nil_append]]
  conv => lhs; arg 1; rw [e]
  rw [List.take_left']
  rfl
theorem rot_back {l : List Nat} {t : Nat} (ht : t ≤ l.length) : ((rep 2 l.reverse).drop (l.length - t)).take l.length = (rot l t).reverse := by
  rw [rep_two]
  unfold rot
  rw [List.reverse_append]
  have e : l.reverse = (l.drop t).reverse ++ (l.take t).reverse := by
    rw [← List.reverse_append, List.take_append_drop]
  rw [e]
  have h1 : (l.drop t).reverse.length = l.length - t := by rw [List.length_reverse, List.length_drop]
  rw [List.append_assoc, ← h1, List.drop_left' rfl]
  have e2 : l.length = ((l.take t).reverse ++ (l.drop t).reverse).length := by
    simp only [List.length_append, List.length_reverse, List.length_drop, List.length_take]; omega
  rw [← List.append_assoc]
  conv => lhs; arg 1; rw [e2]
  rw [List.take_left' rfl]
theorem rot_get {l : List Nat} {t i : Nat} (ht : t ≤ l.length) (hi : i < l.length) : (rot l t)[i]? = cyc l (i + t) := by
  unfold rot
  by_cases h : i < l.length - t
  · rw [List.getElem?_append_left (by rw [List.length_drop]; exact h), List.getElem?_drop]
    unfold cyc
    rw [Nat.mod_eq_of_lt (by omega), Nat.add_comm]
  · rw [List.getElem?_append_right (by rw [List.length_drop]; omega), List.length_drop, List.getElem?_take, if_pos (by omega)]
    unfold cyc
    congr 1
    have : (i + t) % l.length = i + t - l.length := by
      rw [Nat.mod_eq_sub_mod (by omega), Nat.mod_eq_of_lt (by omega)]
    omega
theorem rot_eq {l : List Nat} (hl : 1 ≤ l.length) {s t : Nat} (hs : s ≤ t) (ht : t ≤ l.length) : rot l s = rot l t ↔ (root l).length ∣ t - s := by
  obtain ⟨a1, a2, a3, a4, a5, a6⟩ := root_len hl
  constructor
  · intro h
    have h1 : ∀ i, cyc l (i + s) = cyc l (i + t) := by
      intro i
      have e : ∀ k, cyc l (i + k) = cyc l (i % l.length + k) := by
        intro k; unfold cyc; congr 1; rw [Nat.mod_add_mod]
      have hm := Nat.mod_lt i hl
      rw [e s, e t, ← rot_get (by omega) hm, ← rot_get ht hm, h]
    have hp : per (cyc l) (t - s) := by
      intro i
      have h2 := h1 (i + s * l.length - s)
      have hs2 : s ≤ s * l.length := Nat.le_mul_of_pos_right _ hl
      rw [show i + s * l.length - s + s = i + s * l.length by omega, show i + s * l.length - s + t = i + (t - s) + s * l.length by omega, per_mul (cyc_per l) s i, per_mul (cyc_per l) s] at h2
      exact h2.symm
    by_cases h0 : t - s = 0
    · rw [h0]; exact Nat.dvd_zero _
    · have hg := per_gcd _ _ a4 hp
      have hg1 : 1 ≤ Nat.gcd (root l).length (t - s) := Nat.gcd_pos_of_pos_left _ a1
      have e1 := a5 _ hg1 (Nat.dvd_trans (Nat.gcd_dvd_left _ _) a3) hg
      have g1 := Nat.gcd_le_left (t - s) (show 0 < (root l).length from a1)
      have : Nat.gcd (root l).length (t - s) = (root l).length := by omega
      rw [← this]
      exact Nat.gcd_dvd_right _ _
  · rintro ⟨k, hk⟩
    apply List.ext_getElem?
    intro i
    by_cases hi : i < l.length
    · rw [rot_get (by omega) hi, rot_get ht hi]
      have := per_mul a4 k (i + s)
      rw [show i + s + k * (root l).length = i + t by rw [Nat.mul_comm]; omega] at this
      exact this.symm
    · rw [List.getElem?_eq_none (by rw [rot_len (by omega)]; omega), List.getElem?_eq_none (by rw [rot_len ht]; omega)]
theorem rot_self {l : List Nat} (hl : 1 ≤ l.length) {t : Nat} (ht : t ≤ l.length) : (rot l t == l) = (t % (root l).length == 0) := by
  have h := rot_eq hl (Nat.zero_le t) ht
  rw [rot_zero, Nat.sub_zero] at h
  rw [Bool.eq_iff_iff, beq_iff_eq, beq_iff_eq, ← Nat.dvd_iff_mod_eq_zero]
  exact ⟨fun e => h.mp e.symm, fun e => (h.mpr e).symm⟩
/-- what was seen ahead of turn i -/
def seenAt (l : List Nat) (i : Nat) : List (List Nat) := (List.range (min i (root l).length)).map (rot l)
theorem seen_new {l : List Nat} (hl : 1 ≤ l.length) {i : Nat} (hi : i < l.length) (h : i < (root l).length) : rot l i ∉ seenAt l i ∧ seenAt l (i + 1) = seenAt l i ++ [rot l i] := by
  unfold seenAt
  rw [Nat.min_eq_left (by omega), Nat.min_eq_left (by omega)]
  constructor
  · intro hm
    obtain ⟨s, hs, e⟩ := List.mem_map.mp hm
    rw [List.mem_range] at hs
    have := (rot_eq hl (by omega : s ≤ i) (by omega)).mp e
    have := Nat.le_of_dvd (by omega) this
    omega
  · rw [List.range_succ, List.map_append]; rfl
theorem seen_old {l : List Nat} (hl : 1 ≤ l.length) {i : Nat} (hi : i < l.length) (h : ¬ i < (root l).length) : rot l i ∈ seenAt l i ∧ seenAt l (i + 1) = seenAt l i := by
  obtain ⟨a1, a2, a3, a4, a5, a6⟩ := root_len hl
  unfold seenAt
  rw [Nat.min_eq_right (by omega), Nat.min_eq_right (by omega)]
  refine ⟨List.mem_map.mpr ⟨i % (root l).length, ?_, ?_⟩, rfl⟩
  · rw [List.mem_range]; exact Nat.mod_lt i a1
  · refine (rot_eq hl (Nat.mod_le i _) (by omega)).mpr ?_
    exact Nat.dvd_sub_mod i
theorem seen_len {l : List Nat} (hl : 1 ≤ l.length) : (seenAt l l.length).length = (root l).length := by
  obtain ⟨a1, a2, a3, a4, a5, a6⟩ := root_len hl
  unfold seenAt
  rw [List.length_map, List.length_range, Nat.min_eq_right a2]
theorem seen_zero (l : List Nat) : seenAt l 0 = [] := by simp [seenAt]

/-! the head: the top, run by the kernel in pieces -/
open PySem.Calls
/-! the program's parts, named by their place -/
noncomputable abbrev pw : Program := PySem.Challenge.pw_tk0107_01
noncomputable def nth : List Stmt → Nat → Stmt
  | [], _ => .Pass default
  | a :: _, 0 => a
  | _ :: l, n + 1 => nth l n
noncomputable def dArgs : Stmt → Arguments
  | .FunctionDef _ a _ _ _ _ _ _ _ _ => a
  | _ => default
noncomputable def dBody : Stmt → List Stmt
  | .FunctionDef _ _ b _ _ _ _ _ _ _ => b
  | .ClassDef _ _ _ b _ _ _ _ _ _ _ => b
  | _ => []
noncomputable def dScope : Stmt → Scope
  | .FunctionDef _ _ _ _ _ _ s _ _ _ => s
  | _ => default
noncomputable def stOf (i : Nat) : Stmt := nth pw.main.body i
noncomputable def stIn (i j : Nat) : Stmt := nth (dBody (stOf i)) j
/-! the objects that the top makes -/
noncomputable def o_2 : Params → Obj := fun P => (Obj.mk Value.none none (Data.dict #[(DictEntry.mk (PyData.keyHash P (Str.ofString "type.__subclasses__.Exception.0")) (Value.str (Str.ofString "type.__subclasses__.Exception.0") 219) (Value.int (34 : Int) 0)), (DictEntry.mk (PyData.keyHash P (Str.ofString "type.__subclasses__.Exception.n")) (Value.str (Str.ofString "type.__subclasses__.Exception.n") 220) (Value.int (1 : Int) 0))] 2) #[])
noncomputable def o_3 : Params → Obj := fun P => (Obj.mk (Value.type "dict") none (Data.dict #[(DictEntry.mk (PyData.keyHash P (Str.ofString "__name__")) (Value.str (Str.ofString "__name__") 165) (Value.str (Str.ofString "law_tk0107_01") 712)), (DictEntry.mk (PyData.keyHash P (Str.ofString "__doc__")) (Value.str (Str.ofString "__doc__") 166) Value.none), (DictEntry.mk (PyData.keyHash P (Str.ofString "__package__")) (Value.str (Str.ofString "__package__") 167) Value.none), (DictEntry.mk (PyData.keyHash P (Str.ofString "__loader__")) (Value.str (Str.ofString "__loader__") 168) (Value.builtin "__main__.__loader__#opaque")), (DictEntry.mk (PyData.keyHash P (Str.ofString "__spec__")) (Value.str (Str.ofString "__spec__") 169) Value.none), (DictEntry.mk (PyData.keyHash P (Str.ofString "__annotations__")) (Value.str (Str.ofString "__annotations__") 170) (Value.ref 6)), (DictEntry.mk (PyData.keyHash P (Str.ofString "__builtins__")) (Value.str (Str.ofString "__builtins__") 171) (Value.ref 4)), (DictEntry.mk (PyData.keyHash P (Str.ofString "__file__")) (Value.str (Str.ofString "__file__") 173) (Value.str (Str.ofString "/claim/cut.py") 172)), (DictEntry.mk (PyData.keyHash P (Str.ofString "__cached__")) (Value.str (Str.ofString "__cached__") 174) Value.none), (DictEntry.mk (PyData.keyHash P (Str.ofString "SnobolError")) (Value.str (Str.ofString "SnobolError") 222) (Value.ref 34)), (DictEntry.mk (PyData.keyHash P (Str.ofString "Failure")) (Value.str (Str.ofString "Failure") 242) (Value.ref 47)), (DictEntry.mk (PyData.keyHash P (Str.ofString "Pattern")) (Value.str (Str.ofString "Pattern") 271) (Value.ref 68)), (DictEntry.mk (PyData.keyHash P (Str.ofString "Delayed")) (Value.str (Str.ofString "Delayed") 300) (Value.ref 89)), (DictEntry.mk (PyData.keyHash P (Str.ofString "Code")) (Value.str (Str.ofString "Code") 329) (Value.ref 110)), (DictEntry.mk (PyData.keyHash P (Str.ofString "NameRef")) (Value.str (Str.ofString "NameRef") 362) (Value.ref 131)), (DictEntry.mk (PyData.keyHash P (Str.ofString "Holder")) (Value.str (Str.ofString "Holder") 394) (Value.ref 152)), (DictEntry.mk (PyData.keyHash P (Str.ofString "is_fail")) (Value.str (Str.ofString "is_fail") 401) (Value.ref 163)), (DictEntry.mk (PyData.keyHash P (Str.ofString "kind_of")) (Value.str (Str.ofString "kind_of") 408) (Value.ref 170)), (DictEntry.mk (PyData.keyHash P (Str.ofString "is_null")) (Value.str (Str.ofString "is_null") 415) (Value.ref 177)), (DictEntry.mk (PyData.keyHash P (Str.ofString "is_plain")) (Value.str (Str.ofString "is_plain") 422) (Value.ref 184)), (DictEntry.mk (PyData.keyHash P (Str.ofString "fits")) (Value.str (Str.ofString "fits") 430) (Value.ref 191)), (DictEntry.mk (PyData.keyHash P (Str.ofString "whole_of_text")) (Value.str (Str.ofString "whole_of_text") 441) (Value.ref 198)), (DictEntry.mk (PyData.keyHash P (Str.ofString "text_of_whole")) (Value.str (Str.ofString "text_of_whole") 450) (Value.ref 205)), (DictEntry.mk (PyData.keyHash P (Str.ofString "to_whole")) (Value.str (Str.ofString "to_whole") 458) (Value.ref 212)), (DictEntry.mk (PyData.keyHash P (Str.ofString "to_text")) (Value.str (Str.ofString "to_text") 465) (Value.ref 219)), (DictEntry.mk (PyData.keyHash P (Str.ofString "need_whole")) (Value.str (Str.ofString "need_whole") 474) (Value.ref 226)), (DictEntry.mk (PyData.keyHash P (Str.ofString "need_text")) (Value.str (Str.ofString "need_text") 482) (Value.ref 233)), (DictEntry.mk (PyData.keyHash P (Str.ofString "same_ref")) (Value.str (Str.ofString "same_ref") 490) (Value.ref 240)), (DictEntry.mk (PyData.keyHash P (Str.ofString "same_value")) (Value.str (Str.ofString "same_value") 498) (Value.ref 247)), (DictEntry.mk (PyData.keyHash P (Str.ofString "part_of")) (Value.str (Str.ofString "part_of") 509) (Value.ref 254)), (DictEntry.mk (PyData.keyHash P (Str.ofString "answer")) (Value.str (Str.ofString "answer") 516) (Value.ref 261)), (DictEntry.mk (PyData.keyHash P (Str.ofString "told_or_fail")) (Value.str (Str.ofString "told_or_fail") 523) (Value.ref 268)), (DictEntry.mk (PyData.keyHash P (Str.ofString "text_size")) (Value.str (Str.ofString "text_size") 531) (Value.ref 275)), (DictEntry.mk (PyData.keyHash P (Str.ofString "text_dupl")) (Value.str (Str.ofString "text_dupl") 541) (Value.ref 282)), (DictEntry.mk (PyData.keyHash P (Str.ofString "text_reverse")) (Value.str (Str.ofString "text_reverse") 549) (Value.ref 289)), (DictEntry.mk (PyData.keyHash P (Str.ofString "text_substr")) (Value.str (Str.ofString "text_substr") 559) (Value.ref 296)), (DictEntry.mk (PyData.keyHash P (Str.ofString "value_ident")) (Value.str (Str.ofString "value_ident") 567) (Value.ref 303)), (DictEntry.mk (PyData.keyHash P (Str.ofString "NULL_NODE")) (Value.str (Str.ofString "NULL_NODE") 572) (Value.ref 304)), (DictEntry.mk (PyData.keyHash P (Str.ofString "MOST_PARTS")) (Value.str (Str.ofString "MOST_PARTS") 574) (Value.int (600 : Int) 573)), (DictEntry.mk (PyData.keyHash P (Str.ofString "MOST_DEPTH")) (Value.str (Str.ofString "MOST_DEPTH") 576) (Value.int (100 : Int) 575)), (DictEntry.mk (PyData.keyHash P (Str.ofString "MOST_SIGNS")) (Value.str (Str.ofString "MOST_SIGNS") 578) (Value.int (20000 : Int) 577)), (DictEntry.mk (PyData.keyHash P (Str.ofString "TOO_GREAT")) (Value.str (Str.ofString "TOO_GREAT") 580) (Value.int (23 : Int) 579)), (DictEntry.mk (PyData.keyHash P (Str.ofString "is_null_node")) (Value.str (Str.ofString "is_null_node") 587) (Value.ref 311)), (DictEntry.mk (PyData.keyHash P (Str.ofString "joined")) (Value.str (Str.ofString "joined") 595) (Value.ref 318)), (DictEntry.mk (PyData.keyHash P (Str.ofString "pattern_of")) (Value.str (Str.ofString "pattern_of") 603) (Value.ref 325)), (DictEntry.mk (PyData.keyHash P (Str.ofString "parts_of")) (Value.str (Str.ofString "parts_of") 610) (Value.ref 332)), (DictEntry.mk (PyData.keyHash P (Str.ofString "checked_node")) (Value.str (Str.ofString "checked_node") 622) (Value.ref 339)), (DictEntry.mk (PyData.keyHash P (Str.ofString "World")) (Value.str (Str.ofString "World") 685) (Value.ref 357)), (DictEntry.mk (PyData.keyHash P (Str.ofString "check_length")) (Value.str (Str.ofString "check_length") 693) (Value.ref 368)), (DictEntry.mk (PyData.keyHash P (Str.ofString "is_part")) (Value.str (Str.ofString "is_part") 702) (Value.ref 375)), (DictEntry.mk (PyData.keyHash P (Str.ofString "join_values")) (Value.str (Str.ofString "join_values") 711) (Value.ref 382)), (DictEntry.mk (PyData.keyHash P (Str.ofString "_law_root")) (Value.str (Str.ofString "_law_root") 721) (Value.ref 389)), (DictEntry.mk (PyData.keyHash P (Str.ofString "law")) (Value.str (Str.ofString "law") 727) (Value.ref 394))] 53) #[])
noncomputable def o_11 : Params → Obj := fun _ => (Obj.mk (Value.type "tuple") none (Data.seq #[] 0) #[])
noncomputable def o_12 : Params → Obj := fun _ => (Obj.mk Value.none none (Data.fields #[(Value.int (2 : Int) 0), (Value.int (0 : Int) 0), (Value.ref 21), (Value.int (8 : Int) 0), (Value.int (0 : Int) 0), (Value.ref 43), (Value.int (10 : Int) 0), (Value.int (0 : Int) 0), (Value.ref 57), (Value.int (14 : Int) 0), (Value.int (0 : Int) 0), (Value.ref 78), (Value.int (18 : Int) 0), (Value.int (0 : Int) 0), (Value.ref 99), (Value.int (22 : Int) 0), (Value.int (0 : Int) 0), (Value.ref 120), (Value.int (28 : Int) 0), (Value.int (0 : Int) 0), (Value.ref 141), (Value.int (34 : Int) 0), (Value.int (0 : Int) 0), (Value.ref 162), (Value.int (36 : Int) 0), (Value.int (0 : Int) 0), (Value.ref 169), (Value.int (50 : Int) 0), (Value.int (0 : Int) 0), (Value.ref 176), (Value.int (52 : Int) 0), (Value.int (0 : Int) 0), (Value.ref 183), (Value.int (54 : Int) 0), (Value.int (0 : Int) 0), (Value.ref 190), (Value.int (56 : Int) 0), (Value.int (0 : Int) 0), (Value.ref 197), (Value.int (69 : Int) 0), (Value.int (0 : Int) 0), (Value.ref 204), (Value.int (75 : Int) 0), (Value.int (0 : Int) 0), (Value.ref 211), (Value.int (79 : Int) 0), (Value.int (0 : Int) 0), (Value.ref 218), (Value.int (83 : Int) 0), (Value.int (0 : Int) 0), (Value.ref 225), (Value.int (88 : Int) 0), (Value.int (0 : Int) 0), (Value.ref 232), (Value.int (93 : Int) 0), (Value.int (0 : Int) 0), (Value.ref 239), (Value.int (99 : Int) 0), (Value.int (0 : Int) 0), (Value.ref 246), (Value.int (112 : Int) 0), (Value.int (0 : Int) 0), (Value.ref 253), (Value.int (118 : Int) 0), (Value.int (0 : Int) 0), (Value.ref 260), (Value.int (120 : Int) 0), (Value.int (0 : Int) 0), (Value.ref 267), (Value.int (122 : Int) 0), (Value.int (0 : Int) 0), (Value.ref 274), (Value.int (124 : Int) 0), (Value.int (0 : Int) 0), (Value.ref 281), (Value.int (131 : Int) 0), (Value.int (0 : Int) 0), (Value.ref 288), (Value.int (133 : Int) 0), (Value.int (0 : Int) 0), (Value.ref 295), (Value.int (136 : Int) 0), (Value.int (0 : Int) 0), (Value.ref 302), (Value.int (144 : Int) 0), (Value.int (0 : Int) 0), (Value.ref 310), (Value.int (146 : Int) 0), (Value.int (0 : Int) 0), (Value.ref 317), (Value.int (154 : Int) 0), (Value.int (0 : Int) 0), (Value.ref 324), (Value.int (163 : Int) 0), (Value.int (0 : Int) 0), (Value.ref 331), (Value.int (167 : Int) 0), (Value.int (0 : Int) 0), (Value.ref 338), (Value.int (178 : Int) 0), (Value.int (0 : Int) 0), (Value.ref 345), (Value.int (207 : Int) 0), (Value.int (0 : Int) 0), (Value.ref 367), (Value.int (212 : Int) 0), (Value.int (0 : Int) 0), (Value.ref 374), (Value.int (214 : Int) 0), (Value.int (0 : Int) 0), (Value.ref 381), (Value.int (225 : Int) 0), (Value.int (0 : Int) 0), (Value.ref 388), (Value.int (230 : Int) 0), (Value.int (0 : Int) 0), (Value.ref 393)]) #[])
noncomputable def o_13 : Params → Obj := fun _ => (Obj.mk (Value.type "code") none (Data.fields #[(Value.str (Str.ofString "<module>") 182), (Value.str (Str.ofString "<module>") 183), (Value.str (Str.ofString "/claim/cut.py") 184), (Value.int (1 : Int) 0), (Value.int (0 : Int) 0), (Value.int (0 : Int) 0), (Value.int (0 : Int) 0), (Value.int (0 : Int) 0), (Value.ref 11), (Value.bool Bool.false), (Value.int (181 : Int) 0), (Value.ref 12), Value.none, Value.none, Value.none, Value.none, (Value.int (185 : Int) 0), (Value.int (1 : Int) 0), (Value.str (Str.ofString "/claim/cut.py") 186)]) #[])
noncomputable def o_14 : Params → Obj := fun _ => (Obj.mk (Value.type "frame") none Data.plain #[(some (Value.ref 13)), (some (Value.ref 3)), (some (Value.ref 3)), none, (some (Value.str (Str.ofString "__main__") 164)), none, (some (Value.ref 0))])
noncomputable def o_15 : Params → Obj := fun _ => (Obj.mk (Value.type "tuple") none (Data.seq #[(Value.type "Exception")] 0) #[])
noncomputable def o_16 : Params → Obj := fun _ => (Obj.mk (Value.type "builtin_function_or_method") none (Data.fields #[(Value.builtin "type.__prepare__"), (Value.type "type")]) #[])
noncomputable def o_17 : Params → Obj := fun P => (Obj.mk (Value.type "dict") none (Data.dict #[(DictEntry.mk (PyData.keyHash P (Str.ofString "__module__")) (Value.str (Str.ofString "__module__") 196) (Value.str (Str.ofString "snobol.values") 187)), (DictEntry.mk (PyData.keyHash P (Str.ofString "__qualname__")) (Value.str (Str.ofString "__qualname__") 198) (Value.str (Str.ofString "SnobolError") 197)), (DictEntry.mk (PyData.keyHash P (Str.ofString "__firstlineno__")) (Value.str (Str.ofString "__firstlineno__") 200) (Value.int (2 : Int) 199)), (DictEntry.mk (PyData.keyHash P (Str.ofString "__init__")) (Value.str (Str.ofString "__init__") 211) (Value.ref 31)), (DictEntry.mk (PyData.keyHash P (Str.ofString "__static_attributes__")) (Value.str (Str.ofString "__static_attributes__") 214) (Value.ref 32)), (DictEntry.mk (PyData.keyHash P (Str.ofString "__classcell__")) (Value.str (Str.ofString "__classcell__") 215) (Value.ref 18))] 6) #[])
noncomputable def o_18 : Params → Obj := fun _ => (Obj.mk (Value.type "cell") none (Data.cell (some (Value.ref 34))) #[])
noncomputable def o_19 : Params → Obj := fun _ => (Obj.mk (Value.type "tuple") none (Data.seq #[] 0) #[])
noncomputable def o_20 : Params → Obj := fun _ => (Obj.mk Value.none none (Data.fields #[(Value.int (4 : Int) 0), (Value.int (4 : Int) 0), (Value.ref 30)]) #[])
noncomputable def o_21 : Params → Obj := fun _ => (Obj.mk (Value.type "code") none (Data.fields #[(Value.str (Str.ofString "SnobolError") 191), (Value.str (Str.ofString "SnobolError") 192), (Value.str (Str.ofString "/claim/cut.py") 193), (Value.int (2 : Int) 0), (Value.int (0 : Int) 0), (Value.int (0 : Int) 0), (Value.int (0 : Int) 0), (Value.int (0 : Int) 0), (Value.ref 19), (Value.bool Bool.false), (Value.int (181 : Int) 0), (Value.ref 20), Value.none, Value.none, Value.none, Value.none, (Value.int (194 : Int) 0), (Value.int (2 : Int) 0), (Value.str (Str.ofString "/claim/cut.py") 195)]) #[])
noncomputable def o_22 : Params → Obj := fun _ => (Obj.mk (Value.type "frame") none Data.plain #[(some (Value.ref 21)), (some (Value.ref 3)), (some (Value.ref 17)), none, (some (Value.str (Str.ofString "snobol.values") 187)), none, (some (Value.ref 0))])
noncomputable def o_23 : Params → Obj := fun _ => (Obj.mk (Value.type "tuple") none (Data.seq #[(Value.str (Str.ofString "") 201)] 0) #[])
noncomputable def o_24 : Params → Obj := fun _ => (Obj.mk (Value.type "tuple") none (Data.seq #[(Value.ref 18)] 0) #[])
noncomputable def o_25 : Params → Obj := fun _ => (Obj.mk (Value.type "tuple") none (Data.seq #[(Value.str (Str.ofString "__class__") 205)] 0) #[])
noncomputable def o_26 : Params → Obj := fun _ => (Obj.mk Value.none none (Data.fields #[]) #[])
noncomputable def o_27 : Params → Obj := fun _ => (Obj.mk (Value.type "tuple") none (Data.seq #[(Value.str (Str.ofString "self") 206), (Value.str (Str.ofString "number") 207), (Value.str (Str.ofString "told") 208)] 0) #[])
noncomputable def o_28 : Params → Obj := fun _ => (Obj.mk (Value.type "tuple") none (Data.seq #[] 0) #[])
noncomputable def o_29 : Params → Obj := fun _ => (Obj.mk Value.none none (Data.func (FuncData.mk (Str.ofString "__init__") (Str.ofString "SnobolError.__init__") (dArgs (stIn 1 0)) (FuncBody.stmts (dBody (stIn 1 0))) (dScope (stIn 1 0)) 0 [] Value.none Value.none Value.none Value.none none Value.none Value.none 0)) #[])
noncomputable def o_30 : Params → Obj := fun _ => (Obj.mk (Value.type "code") none (Data.fields #[(Value.str (Str.ofString "__init__") 202), (Value.str (Str.ofString "SnobolError.__init__") 203), (Value.str (Str.ofString "/claim/cut.py") 204), (Value.int (4 : Int) 0), (Value.int (3 : Int) 0), (Value.int (0 : Int) 0), (Value.int (0 : Int) 0), (Value.int (3 : Int) 0), (Value.ref 25), (Value.bool Bool.true), (Value.int (181 : Int) 0), (Value.ref 26), Value.none, (Value.ref 27), (Value.ref 28), (Value.ref 29), (Value.int (209 : Int) 0), (Value.int (4 : Int) 0), (Value.str (Str.ofString "/claim/cut.py") 210)]) #[])
noncomputable def o_31 : Params → Obj := fun _ => (Obj.mk (Value.type "function") none (Data.func (FuncData.mk (Str.ofString "__init__") (Str.ofString "SnobolError.__init__") ((by exact fun x _ => x : (x : Arguments) → x = (dArgs (stIn 1 0)) → Arguments) _ (by conv => rhs; whnf)) (FuncBody.stmts ((by exact fun x _ => x : (x : List Stmt) → x = (dBody (stIn 1 0)) → List Stmt) _ (by conv => rhs; whnf))) ((by exact fun x _ => x : (x : Scope) → x = (dScope (stIn 1 0)) → Scope) _ (by conv => rhs; whnf)) 3 [((Str.ofString "__class__"), 18)] (Value.ref 23) Value.none Value.none (Value.str (Str.ofString "snobol.values") 187) none (Value.ref 30) (Value.ref 24) 0)) #[])
noncomputable def o_32 : Params → Obj := fun _ => (Obj.mk (Value.type "tuple") none (Data.seq #[(Value.str (Str.ofString "number") 212), (Value.str (Str.ofString "told") 213)] 0) #[])
noncomputable def o_33 : Params → Obj := fun P => (Obj.mk (Value.type "dict") none (Data.dict #[(DictEntry.mk (PyData.keyHash P (Str.ofString "__module__")) (Value.str (Str.ofString "__module__") 196) (Value.str (Str.ofString "snobol.values") 187)), (DictEntry.mk (PyData.keyHash P (Str.ofString "__firstlineno__")) (Value.str (Str.ofString "__firstlineno__") 200) (Value.int (2 : Int) 199)), (DictEntry.mk (PyData.keyHash P (Str.ofString "__init__")) (Value.str (Str.ofString "__init__") 211) (Value.ref 31)), (DictEntry.mk (PyData.keyHash P (Str.ofString "__static_attributes__")) (Value.str (Str.ofString "__static_attributes__") 214) (Value.ref 32)), (DictEntry.mk (PyData.keyHash P (Str.ofString "__weakref__")) (Value.str (Str.ofString "__weakref__") 217) (Value.ref 35)), (DictEntry.mk (PyData.keyHash P (Str.ofString "__doc__")) (Value.str (Str.ofString "__doc__") 218) Value.none)] 4) #[])
noncomputable def o_34 : Params → Obj := fun _ => (Obj.mk (Value.type "type") none (Data.cls (ClassData.mk (Str.ofString "SnobolError") [(Value.type "Exception")] [(Value.ref 34), (Value.type "Exception"), (Value.type "BaseException"), (Value.type "object")] 33 (Str.ofString "SnobolError") Bool.true [] [] Bool.false none Bool.false)) #[(some (Value.ref 15)), none, (some (Value.str (Str.ofString "SnobolError") 189)), (some (Value.str (Str.ofString "SnobolError") 197)), (some (Value.builtin "Exception.__new__")), (some (Value.bool Bool.true))])
noncomputable def o_35 : Params → Obj := fun _ => (Obj.mk (Value.type "getset_descriptor") none (Data.fields #[(Value.str (Str.ofString "__weakref__") 216), (Value.ref 34), (Value.builtin "ExceptionGroup.__weakref__"), Value.none]) #[])
noncomputable def o_36 : Params → Obj := fun _ => (Obj.mk (Value.type "super") none (Data.fields #[(Value.ref 34), (Value.ref 34), (Value.ref 34)]) #[])
noncomputable def o_37 : Params → Obj := fun _ => (Obj.mk (Value.type "builtin_function_or_method") none (Data.fields #[(Value.builtin "object.__init_subclass__"), (Value.ref 34)]) #[])
noncomputable def o_38 : Params → Obj := fun _ => (Obj.mk (Value.type "tuple") none (Data.seq #[] 0) #[])
noncomputable def o_39 : Params → Obj := fun _ => (Obj.mk (Value.type "builtin_function_or_method") none (Data.fields #[(Value.builtin "type.__prepare__"), (Value.type "type")]) #[])
noncomputable def o_40 : Params → Obj := fun P => (Obj.mk (Value.type "dict") none (Data.dict #[(DictEntry.mk (PyData.keyHash P (Str.ofString "__module__")) (Value.str (Str.ofString "__module__") 230) (Value.str (Str.ofString "snobol.values") 187)), (DictEntry.mk (PyData.keyHash P (Str.ofString "__qualname__")) (Value.str (Str.ofString "__qualname__") 232) (Value.str (Str.ofString "Failure") 231)), (DictEntry.mk (PyData.keyHash P (Str.ofString "__firstlineno__")) (Value.str (Str.ofString "__firstlineno__") 234) (Value.int (8 : Int) 233)), (DictEntry.mk (PyData.keyHash P (Str.ofString "__static_attributes__")) (Value.str (Str.ofString "__static_attributes__") 235) (Value.ref 45))] 4) #[])
noncomputable def o_41 : Params → Obj := fun _ => (Obj.mk (Value.type "tuple") none (Data.seq #[] 0) #[])
noncomputable def o_42 : Params → Obj := fun _ => (Obj.mk Value.none none (Data.fields #[]) #[])
noncomputable def o_43 : Params → Obj := fun _ => (Obj.mk (Value.type "code") none (Data.fields #[(Value.str (Str.ofString "Failure") 225), (Value.str (Str.ofString "Failure") 226), (Value.str (Str.ofString "/claim/cut.py") 227), (Value.int (8 : Int) 0), (Value.int (0 : Int) 0), (Value.int (0 : Int) 0), (Value.int (0 : Int) 0), (Value.int (0 : Int) 0), (Value.ref 41), (Value.bool Bool.false), (Value.int (181 : Int) 0), (Value.ref 42), Value.none, Value.none, Value.none, Value.none, (Value.int (228 : Int) 0), (Value.int (8 : Int) 0), (Value.str (Str.ofString "/claim/cut.py") 229)]) #[])
noncomputable def o_44 : Params → Obj := fun _ => (Obj.mk (Value.type "frame") none Data.plain #[(some (Value.ref 43)), (some (Value.ref 3)), (some (Value.ref 40)), none, (some (Value.str (Str.ofString "snobol.values") 187)), none, (some (Value.ref 0))])
noncomputable def o_45 : Params → Obj := fun _ => (Obj.mk (Value.type "tuple") none (Data.seq #[] 0) #[])
noncomputable def o_46 : Params → Obj := fun P => (Obj.mk (Value.type "dict") none (Data.dict #[(DictEntry.mk (PyData.keyHash P (Str.ofString "__module__")) (Value.str (Str.ofString "__module__") 230) (Value.str (Str.ofString "snobol.values") 187)), (DictEntry.mk (PyData.keyHash P (Str.ofString "__firstlineno__")) (Value.str (Str.ofString "__firstlineno__") 234) (Value.int (8 : Int) 233)), (DictEntry.mk (PyData.keyHash P (Str.ofString "__static_attributes__")) (Value.str (Str.ofString "__static_attributes__") 235) (Value.ref 45)), (DictEntry.mk (PyData.keyHash P (Str.ofString "__dict__")) (Value.str (Str.ofString "__dict__") 237) (Value.ref 48)), (DictEntry.mk (PyData.keyHash P (Str.ofString "__weakref__")) (Value.str (Str.ofString "__weakref__") 239) (Value.ref 49)), (DictEntry.mk (PyData.keyHash P (Str.ofString "__doc__")) (Value.str (Str.ofString "__doc__") 240) Value.none)] 4) #[])
noncomputable def o_47 : Params → Obj := fun _ => (Obj.mk (Value.type "type") none (Data.cls (ClassData.mk (Str.ofString "Failure") [(Value.type "object")] [(Value.ref 47), (Value.type "object")] 46 (Str.ofString "Failure") Bool.true [] [] Bool.false none Bool.false)) #[none, none, (some (Value.str (Str.ofString "Failure") 223)), (some (Value.str (Str.ofString "Failure") 231)), (some (Value.builtin "object.__new__")), (some (Value.bool Bool.true))])
noncomputable def o_48 : Params → Obj := fun _ => (Obj.mk (Value.type "getset_descriptor") none (Data.fields #[(Value.str (Str.ofString "__dict__") 236), (Value.ref 47), (Value.builtin "function.__dict__"), (Value.builtin "function.__dict__#set")]) #[])
noncomputable def o_49 : Params → Obj := fun _ => (Obj.mk (Value.type "getset_descriptor") none (Data.fields #[(Value.str (Str.ofString "__weakref__") 238), (Value.ref 47), (Value.builtin "ExceptionGroup.__weakref__"), Value.none]) #[])
noncomputable def o_50 : Params → Obj := fun _ => (Obj.mk (Value.type "super") none (Data.fields #[(Value.ref 47), (Value.ref 47), (Value.ref 47)]) #[])
noncomputable def o_51 : Params → Obj := fun _ => (Obj.mk (Value.type "builtin_function_or_method") none (Data.fields #[(Value.builtin "object.__init_subclass__"), (Value.ref 47)]) #[])
noncomputable def o_52 : Params → Obj := fun _ => (Obj.mk (Value.type "tuple") none (Data.seq #[] 0) #[])
noncomputable def o_53 : Params → Obj := fun _ => (Obj.mk (Value.type "builtin_function_or_method") none (Data.fields #[(Value.builtin "type.__prepare__"), (Value.type "type")]) #[])
noncomputable def o_54 : Params → Obj := fun P => (Obj.mk (Value.type "dict") none (Data.dict #[(DictEntry.mk (PyData.keyHash P (Str.ofString "__module__")) (Value.str (Str.ofString "__module__") 250) (Value.str (Str.ofString "snobol.values") 187)), (DictEntry.mk (PyData.keyHash P (Str.ofString "__qualname__")) (Value.str (Str.ofString "__qualname__") 252) (Value.str (Str.ofString "Pattern") 251)), (DictEntry.mk (PyData.keyHash P (Str.ofString "__firstlineno__")) (Value.str (Str.ofString "__firstlineno__") 254) (Value.int (10 : Int) 253)), (DictEntry.mk (PyData.keyHash P (Str.ofString "__init__")) (Value.str (Str.ofString "__init__") 262) (Value.ref 65)), (DictEntry.mk (PyData.keyHash P (Str.ofString "__static_attributes__")) (Value.str (Str.ofString "__static_attributes__") 264) (Value.ref 66))] 5) #[])
noncomputable def o_55 : Params → Obj := fun _ => (Obj.mk (Value.type "tuple") none (Data.seq #[] 0) #[])
noncomputable def o_56 : Params → Obj := fun _ => (Obj.mk Value.none none (Data.fields #[(Value.int (12 : Int) 0), (Value.int (4 : Int) 0), (Value.ref 64)]) #[])
noncomputable def o_57 : Params → Obj := fun _ => (Obj.mk (Value.type "code") none (Data.fields #[(Value.str (Str.ofString "Pattern") 245), (Value.str (Str.ofString "Pattern") 246), (Value.str (Str.ofString "/claim/cut.py") 247), (Value.int (10 : Int) 0), (Value.int (0 : Int) 0), (Value.int (0 : Int) 0), (Value.int (0 : Int) 0), (Value.int (0 : Int) 0), (Value.ref 55), (Value.bool Bool.false), (Value.int (181 : Int) 0), (Value.ref 56), Value.none, Value.none, Value.none, Value.none, (Value.int (248 : Int) 0), (Value.int (10 : Int) 0), (Value.str (Str.ofString "/claim/cut.py") 249)]) #[])
noncomputable def o_58 : Params → Obj := fun _ => (Obj.mk (Value.type "frame") none Data.plain #[(some (Value.ref 57)), (some (Value.ref 3)), (some (Value.ref 54)), none, (some (Value.str (Str.ofString "snobol.values") 187)), none, (some (Value.ref 0))])
noncomputable def o_59 : Params → Obj := fun _ => (Obj.mk (Value.type "tuple") none (Data.seq #[] 0) #[])
noncomputable def o_60 : Params → Obj := fun _ => (Obj.mk Value.none none (Data.fields #[]) #[])
noncomputable def o_61 : Params → Obj := fun _ => (Obj.mk (Value.type "tuple") none (Data.seq #[(Value.str (Str.ofString "self") 258), (Value.str (Str.ofString "node") 259)] 0) #[])
noncomputable def o_62 : Params → Obj := fun _ => (Obj.mk (Value.type "tuple") none (Data.seq #[] 0) #[])
noncomputable def o_63 : Params → Obj := fun _ => (Obj.mk Value.none none (Data.func (FuncData.mk (Str.ofString "__init__") (Str.ofString "Pattern.__init__") (dArgs (stIn 3 0)) (FuncBody.stmts (dBody (stIn 3 0))) (dScope (stIn 3 0)) 0 [] Value.none Value.none Value.none Value.none none Value.none Value.none 0)) #[])
noncomputable def o_64 : Params → Obj := fun _ => (Obj.mk (Value.type "code") none (Data.fields #[(Value.str (Str.ofString "__init__") 255), (Value.str (Str.ofString "Pattern.__init__") 256), (Value.str (Str.ofString "/claim/cut.py") 257), (Value.int (12 : Int) 0), (Value.int (2 : Int) 0), (Value.int (0 : Int) 0), (Value.int (0 : Int) 0), (Value.int (3 : Int) 0), (Value.ref 59), (Value.bool Bool.true), (Value.int (181 : Int) 0), (Value.ref 60), Value.none, (Value.ref 61), (Value.ref 62), (Value.ref 63), (Value.int (260 : Int) 0), (Value.int (12 : Int) 0), (Value.str (Str.ofString "/claim/cut.py") 261)]) #[])
noncomputable def o_65 : Params → Obj := fun _ => (Obj.mk (Value.type "function") none (Data.func (FuncData.mk (Str.ofString "__init__") (Str.ofString "Pattern.__init__") ((by exact fun x _ => x : (x : Arguments) → x = (dArgs (stIn 3 0)) → Arguments) _ (by conv => rhs; whnf)) (FuncBody.stmts ((by exact fun x _ => x : (x : List Stmt) → x = (dBody (stIn 3 0)) → List Stmt) _ (by conv => rhs; whnf))) ((by exact fun x _ => x : (x : Scope) → x = (dScope (stIn 3 0)) → Scope) _ (by conv => rhs; whnf)) 3 [] Value.none Value.none Value.none (Value.str (Str.ofString "snobol.values") 187) none (Value.ref 64) Value.none 0)) #[])
noncomputable def o_66 : Params → Obj := fun _ => (Obj.mk (Value.type "tuple") none (Data.seq #[(Value.str (Str.ofString "node") 263)] 0) #[])
noncomputable def o_67 : Params → Obj := fun P => (Obj.mk (Value.type "dict") none (Data.dict #[(DictEntry.mk (PyData.keyHash P (Str.ofString "__module__")) (Value.str (Str.ofString "__module__") 250) (Value.str (Str.ofString "snobol.values") 187)), (DictEntry.mk (PyData.keyHash P (Str.ofString "__firstlineno__")) (Value.str (Str.ofString "__firstlineno__") 254) (Value.int (10 : Int) 253)), (DictEntry.mk (PyData.keyHash P (Str.ofString "__init__")) (Value.str (Str.ofString "__init__") 262) (Value.ref 65)), (DictEntry.mk (PyData.keyHash P (Str.ofString "__static_attributes__")) (Value.str (Str.ofString "__static_attributes__") 264) (Value.ref 66)), (DictEntry.mk (PyData.keyHash P (Str.ofString "__dict__")) (Value.str (Str.ofString "__dict__") 266) (Value.ref 69)), (DictEntry.mk (PyData.keyHash P (Str.ofString "__weakref__")) (Value.str (Str.ofString "__weakref__") 268) (Value.ref 70)), (DictEntry.mk (PyData.keyHash P (Str.ofString "__doc__")) (Value.str (Str.ofString "__doc__") 269) Value.none)] 4) #[])
noncomputable def o_68 : Params → Obj := fun _ => (Obj.mk (Value.type "type") none (Data.cls (ClassData.mk (Str.ofString "Pattern") [(Value.type "object")] [(Value.ref 68), (Value.type "object")] 67 (Str.ofString "Pattern") Bool.true [] [] Bool.false none Bool.false)) #[none, none, (some (Value.str (Str.ofString "Pattern") 243)), (some (Value.str (Str.ofString "Pattern") 251)), (some (Value.builtin "object.__new__")), (some (Value.bool Bool.true))])
noncomputable def o_69 : Params → Obj := fun _ => (Obj.mk (Value.type "getset_descriptor") none (Data.fields #[(Value.str (Str.ofString "__dict__") 265), (Value.ref 68), (Value.builtin "function.__dict__"), (Value.builtin "function.__dict__#set")]) #[])
noncomputable def o_70 : Params → Obj := fun _ => (Obj.mk (Value.type "getset_descriptor") none (Data.fields #[(Value.str (Str.ofString "__weakref__") 267), (Value.ref 68), (Value.builtin "ExceptionGroup.__weakref__"), Value.none]) #[])
noncomputable def o_71 : Params → Obj := fun _ => (Obj.mk (Value.type "super") none (Data.fields #[(Value.ref 68), (Value.ref 68), (Value.ref 68)]) #[])
noncomputable def o_72 : Params → Obj := fun _ => (Obj.mk (Value.type "builtin_function_or_method") none (Data.fields #[(Value.builtin "object.__init_subclass__"), (Value.ref 68)]) #[])
noncomputable def o_73 : Params → Obj := fun _ => (Obj.mk (Value.type "tuple") none (Data.seq #[] 0) #[])
noncomputable def o_74 : Params → Obj := fun _ => (Obj.mk (Value.type "builtin_function_or_method") none (Data.fields #[(Value.builtin "type.__prepare__"), (Value.type "type")]) #[])
noncomputable def o_75 : Params → Obj := fun P => (Obj.mk (Value.type "dict") none (Data.dict #[(DictEntry.mk (PyData.keyHash P (Str.ofString "__module__")) (Value.str (Str.ofString "__module__") 279) (Value.str (Str.ofString "snobol.values") 187)), (DictEntry.mk (PyData.keyHash P (Str.ofString "__qualname__")) (Value.str (Str.ofString "__qualname__") 281) (Value.str (Str.ofString "Delayed") 280)), (DictEntry.mk (PyData.keyHash P (Str.ofString "__firstlineno__")) (Value.str (Str.ofString "__firstlineno__") 283) (Value.int (14 : Int) 282)), (DictEntry.mk (PyData.keyHash P (Str.ofString "__init__")) (Value.str (Str.ofString "__init__") 291) (Value.ref 86)), (DictEntry.mk (PyData.keyHash P (Str.ofString "__static_attributes__")) (Value.str (Str.ofString "__static_attributes__") 293) (Value.ref 87))] 5) #[])
noncomputable def o_76 : Params → Obj := fun _ => (Obj.mk (Value.type "tuple") none (Data.seq #[] 0) #[])
noncomputable def o_77 : Params → Obj := fun _ => (Obj.mk Value.none none (Data.fields #[(Value.int (16 : Int) 0), (Value.int (4 : Int) 0), (Value.ref 85)]) #[])
noncomputable def o_78 : Params → Obj := fun _ => (Obj.mk (Value.type "code") none (Data.fields #[(Value.str (Str.ofString "Delayed") 274), (Value.str (Str.ofString "Delayed") 275), (Value.str (Str.ofString "/claim/cut.py") 276), (Value.int (14 : Int) 0), (Value.int (0 : Int) 0), (Value.int (0 : Int) 0), (Value.int (0 : Int) 0), (Value.int (0 : Int) 0), (Value.ref 76), (Value.bool Bool.false), (Value.int (181 : Int) 0), (Value.ref 77), Value.none, Value.none, Value.none, Value.none, (Value.int (277 : Int) 0), (Value.int (14 : Int) 0), (Value.str (Str.ofString "/claim/cut.py") 278)]) #[])
noncomputable def o_79 : Params → Obj := fun _ => (Obj.mk (Value.type "frame") none Data.plain #[(some (Value.ref 78)), (some (Value.ref 3)), (some (Value.ref 75)), none, (some (Value.str (Str.ofString "snobol.values") 187)), none, (some (Value.ref 0))])
noncomputable def o_80 : Params → Obj := fun _ => (Obj.mk (Value.type "tuple") none (Data.seq #[] 0) #[])
noncomputable def o_81 : Params → Obj := fun _ => (Obj.mk Value.none none (Data.fields #[]) #[])
noncomputable def o_82 : Params → Obj := fun _ => (Obj.mk (Value.type "tuple") none (Data.seq #[(Value.str (Str.ofString "self") 287), (Value.str (Str.ofString "tree") 288)] 0) #[])
noncomputable def o_83 : Params → Obj := fun _ => (Obj.mk (Value.type "tuple") none (Data.seq #[] 0) #[])
noncomputable def o_84 : Params → Obj := fun _ => (Obj.mk Value.none none (Data.func (FuncData.mk (Str.ofString "__init__") (Str.ofString "Delayed.__init__") (dArgs (stIn 4 0)) (FuncBody.stmts (dBody (stIn 4 0))) (dScope (stIn 4 0)) 0 [] Value.none Value.none Value.none Value.none none Value.none Value.none 0)) #[])
noncomputable def o_85 : Params → Obj := fun _ => (Obj.mk (Value.type "code") none (Data.fields #[(Value.str (Str.ofString "__init__") 284), (Value.str (Str.ofString "Delayed.__init__") 285), (Value.str (Str.ofString "/claim/cut.py") 286), (Value.int (16 : Int) 0), (Value.int (2 : Int) 0), (Value.int (0 : Int) 0), (Value.int (0 : Int) 0), (Value.int (3 : Int) 0), (Value.ref 80), (Value.bool Bool.true), (Value.int (181 : Int) 0), (Value.ref 81), Value.none, (Value.ref 82), (Value.ref 83), (Value.ref 84), (Value.int (289 : Int) 0), (Value.int (16 : Int) 0), (Value.str (Str.ofString "/claim/cut.py") 290)]) #[])
noncomputable def o_86 : Params → Obj := fun _ => (Obj.mk (Value.type "function") none (Data.func (FuncData.mk (Str.ofString "__init__") (Str.ofString "Delayed.__init__") ((by exact fun x _ => x : (x : Arguments) → x = (dArgs (stIn 4 0)) → Arguments) _ (by conv => rhs; whnf)) (FuncBody.stmts ((by exact fun x _ => x : (x : List Stmt) → x = (dBody (stIn 4 0)) → List Stmt) _ (by conv => rhs; whnf))) ((by exact fun x _ => x : (x : Scope) → x = (dScope (stIn 4 0)) → Scope) _ (by conv => rhs; whnf)) 3 [] Value.none Value.none Value.none (Value.str (Str.ofString "snobol.values") 187) none (Value.ref 85) Value.none 0)) #[])
noncomputable def o_87 : Params → Obj := fun _ => (Obj.mk (Value.type "tuple") none (Data.seq #[(Value.str (Str.ofString "tree") 292)] 0) #[])
noncomputable def o_88 : Params → Obj := fun P => (Obj.mk (Value.type "dict") none (Data.dict #[(DictEntry.mk (PyData.keyHash P (Str.ofString "__module__")) (Value.str (Str.ofString "__module__") 279) (Value.str (Str.ofString "snobol.values") 187)), (DictEntry.mk (PyData.keyHash P (Str.ofString "__firstlineno__")) (Value.str (Str.ofString "__firstlineno__") 283) (Value.int (14 : Int) 282)), (DictEntry.mk (PyData.keyHash P (Str.ofString "__init__")) (Value.str (Str.ofString "__init__") 291) (Value.ref 86)), (DictEntry.mk (PyData.keyHash P (Str.ofString "__static_attributes__")) (Value.str (Str.ofString "__static_attributes__") 293) (Value.ref 87)), (DictEntry.mk (PyData.keyHash P (Str.ofString "__dict__")) (Value.str (Str.ofString "__dict__") 295) (Value.ref 90)), (DictEntry.mk (PyData.keyHash P (Str.ofString "__weakref__")) (Value.str (Str.ofString "__weakref__") 297) (Value.ref 91)), (DictEntry.mk (PyData.keyHash P (Str.ofString "__doc__")) (Value.str (Str.ofString "__doc__") 298) Value.none)] 4) #[])
noncomputable def o_89 : Params → Obj := fun _ => (Obj.mk (Value.type "type") none (Data.cls (ClassData.mk (Str.ofString "Delayed") [(Value.type "object")] [(Value.ref 89), (Value.type "object")] 88 (Str.ofString "Delayed") Bool.true [] [] Bool.false none Bool.false)) #[none, none, (some (Value.str (Str.ofString "Delayed") 272)), (some (Value.str (Str.ofString "Delayed") 280)), (some (Value.builtin "object.__new__")), (some (Value.bool Bool.true))])
noncomputable def o_90 : Params → Obj := fun _ => (Obj.mk (Value.type "getset_descriptor") none (Data.fields #[(Value.str (Str.ofString "__dict__") 294), (Value.ref 89), (Value.builtin "function.__dict__"), (Value.builtin "function.__dict__#set")]) #[])
noncomputable def o_91 : Params → Obj := fun _ => (Obj.mk (Value.type "getset_descriptor") none (Data.fields #[(Value.str (Str.ofString "__weakref__") 296), (Value.ref 89), (Value.builtin "ExceptionGroup.__weakref__"), Value.none]) #[])
noncomputable def o_92 : Params → Obj := fun _ => (Obj.mk (Value.type "super") none (Data.fields #[(Value.ref 89), (Value.ref 89), (Value.ref 89)]) #[])
noncomputable def o_93 : Params → Obj := fun _ => (Obj.mk (Value.type "builtin_function_or_method") none (Data.fields #[(Value.builtin "object.__init_subclass__"), (Value.ref 89)]) #[])
noncomputable def o_94 : Params → Obj := fun _ => (Obj.mk (Value.type "tuple") none (Data.seq #[] 0) #[])
noncomputable def o_95 : Params → Obj := fun _ => (Obj.mk (Value.type "builtin_function_or_method") none (Data.fields #[(Value.builtin "type.__prepare__"), (Value.type "type")]) #[])
noncomputable def o_96 : Params → Obj := fun P => (Obj.mk (Value.type "dict") none (Data.dict #[(DictEntry.mk (PyData.keyHash P (Str.ofString "__module__")) (Value.str (Str.ofString "__module__") 308) (Value.str (Str.ofString "snobol.values") 187)), (DictEntry.mk (PyData.keyHash P (Str.ofString "__qualname__")) (Value.str (Str.ofString "__qualname__") 310) (Value.str (Str.ofString "Code") 309)), (DictEntry.mk (PyData.keyHash P (Str.ofString "__firstlineno__")) (Value.str (Str.ofString "__firstlineno__") 312) (Value.int (18 : Int) 311)), (DictEntry.mk (PyData.keyHash P (Str.ofString "__init__")) (Value.str (Str.ofString "__init__") 320) (Value.ref 107)), (DictEntry.mk (PyData.keyHash P (Str.ofString "__static_attributes__")) (Value.str (Str.ofString "__static_attributes__") 322) (Value.ref 108))] 5) #[])
noncomputable def o_97 : Params → Obj := fun _ => (Obj.mk (Value.type "tuple") none (Data.seq #[] 0) #[])
noncomputable def o_98 : Params → Obj := fun _ => (Obj.mk Value.none none (Data.fields #[(Value.int (20 : Int) 0), (Value.int (4 : Int) 0), (Value.ref 106)]) #[])
noncomputable def o_99 : Params → Obj := fun _ => (Obj.mk (Value.type "code") none (Data.fields #[(Value.str (Str.ofString "Code") 303), (Value.str (Str.ofString "Code") 304), (Value.str (Str.ofString "/claim/cut.py") 305), (Value.int (18 : Int) 0), (Value.int (0 : Int) 0), (Value.int (0 : Int) 0), (Value.int (0 : Int) 0), (Value.int (0 : Int) 0), (Value.ref 97), (Value.bool Bool.false), (Value.int (181 : Int) 0), (Value.ref 98), Value.none, Value.none, Value.none, Value.none, (Value.int (306 : Int) 0), (Value.int (18 : Int) 0), (Value.str (Str.ofString "/claim/cut.py") 307)]) #[])
noncomputable def o_100 : Params → Obj := fun _ => (Obj.mk (Value.type "frame") none Data.plain #[(some (Value.ref 99)), (some (Value.ref 3)), (some (Value.ref 96)), none, (some (Value.str (Str.ofString "snobol.values") 187)), none, (some (Value.ref 0))])
noncomputable def o_101 : Params → Obj := fun _ => (Obj.mk (Value.type "tuple") none (Data.seq #[] 0) #[])
noncomputable def o_102 : Params → Obj := fun _ => (Obj.mk Value.none none (Data.fields #[]) #[])
noncomputable def o_103 : Params → Obj := fun _ => (Obj.mk (Value.type "tuple") none (Data.seq #[(Value.str (Str.ofString "self") 316), (Value.str (Str.ofString "begin") 317)] 0) #[])
noncomputable def o_104 : Params → Obj := fun _ => (Obj.mk (Value.type "tuple") none (Data.seq #[] 0) #[])
noncomputable def o_105 : Params → Obj := fun _ => (Obj.mk Value.none none (Data.func (FuncData.mk (Str.ofString "__init__") (Str.ofString "Code.__init__") (dArgs (stIn 5 0)) (FuncBody.stmts (dBody (stIn 5 0))) (dScope (stIn 5 0)) 0 [] Value.none Value.none Value.none Value.none none Value.none Value.none 0)) #[])
noncomputable def o_106 : Params → Obj := fun _ => (Obj.mk (Value.type "code") none (Data.fields #[(Value.str (Str.ofString "__init__") 313), (Value.str (Str.ofString "Code.__init__") 314), (Value.str (Str.ofString "/claim/cut.py") 315), (Value.int (20 : Int) 0), (Value.int (2 : Int) 0), (Value.int (0 : Int) 0), (Value.int (0 : Int) 0), (Value.int (3 : Int) 0), (Value.ref 101), (Value.bool Bool.true), (Value.int (181 : Int) 0), (Value.ref 102), Value.none, (Value.ref 103), (Value.ref 104), (Value.ref 105), (Value.int (318 : Int) 0), (Value.int (20 : Int) 0), (Value.str (Str.ofString "/claim/cut.py") 319)]) #[])
noncomputable def o_107 : Params → Obj := fun _ => (Obj.mk (Value.type "function") none (Data.func (FuncData.mk (Str.ofString "__init__") (Str.ofString "Code.__init__") ((by exact fun x _ => x : (x : Arguments) → x = (dArgs (stIn 5 0)) → Arguments) _ (by conv => rhs; whnf)) (FuncBody.stmts ((by exact fun x _ => x : (x : List Stmt) → x = (dBody (stIn 5 0)) → List Stmt) _ (by conv => rhs; whnf))) ((by exact fun x _ => x : (x : Scope) → x = (dScope (stIn 5 0)) → Scope) _ (by conv => rhs; whnf)) 3 [] Value.none Value.none Value.none (Value.str (Str.ofString "snobol.values") 187) none (Value.ref 106) Value.none 0)) #[])
noncomputable def o_108 : Params → Obj := fun _ => (Obj.mk (Value.type "tuple") none (Data.seq #[(Value.str (Str.ofString "begin") 321)] 0) #[])
noncomputable def o_109 : Params → Obj := fun P => (Obj.mk (Value.type "dict") none (Data.dict #[(DictEntry.mk (PyData.keyHash P (Str.ofString "__module__")) (Value.str (Str.ofString "__module__") 308) (Value.str (Str.ofString "snobol.values") 187)), (DictEntry.mk (PyData.keyHash P (Str.ofString "__firstlineno__")) (Value.str (Str.ofString "__firstlineno__") 312) (Value.int (18 : Int) 311)), (DictEntry.mk (PyData.keyHash P (Str.ofString "__init__")) (Value.str (Str.ofString "__init__") 320) (Value.ref 107)), (DictEntry.mk (PyData.keyHash P (Str.ofString "__static_attributes__")) (Value.str (Str.ofString "__static_attributes__") 322) (Value.ref 108)), (DictEntry.mk (PyData.keyHash P (Str.ofString "__dict__")) (Value.str (Str.ofString "__dict__") 324) (Value.ref 111)), (DictEntry.mk (PyData.keyHash P (Str.ofString "__weakref__")) (Value.str (Str.ofString "__weakref__") 326) (Value.ref 112)), (DictEntry.mk (PyData.keyHash P (Str.ofString "__doc__")) (Value.str (Str.ofString "__doc__") 327) Value.none)] 4) #[])
noncomputable def o_110 : Params → Obj := fun _ => (Obj.mk (Value.type "type") none (Data.cls (ClassData.mk (Str.ofString "Code") [(Value.type "object")] [(Value.ref 110), (Value.type "object")] 109 (Str.ofString "Code") Bool.true [] [] Bool.false none Bool.false)) #[none, none, (some (Value.str (Str.ofString "Code") 301)), (some (Value.str (Str.ofString "Code") 309)), (some (Value.builtin "object.__new__")), (some (Value.bool Bool.true))])
noncomputable def o_111 : Params → Obj := fun _ => (Obj.mk (Value.type "getset_descriptor") none (Data.fields #[(Value.str (Str.ofString "__dict__") 323), (Value.ref 110), (Value.builtin "function.__dict__"), (Value.builtin "function.__dict__#set")]) #[])
noncomputable def o_112 : Params → Obj := fun _ => (Obj.mk (Value.type "getset_descriptor") none (Data.fields #[(Value.str (Str.ofString "__weakref__") 325), (Value.ref 110), (Value.builtin "ExceptionGroup.__weakref__"), Value.none]) #[])
noncomputable def o_113 : Params → Obj := fun _ => (Obj.mk (Value.type "super") none (Data.fields #[(Value.ref 110), (Value.ref 110), (Value.ref 110)]) #[])
noncomputable def o_114 : Params → Obj := fun _ => (Obj.mk (Value.type "builtin_function_or_method") none (Data.fields #[(Value.builtin "object.__init_subclass__"), (Value.ref 110)]) #[])
noncomputable def o_115 : Params → Obj := fun _ => (Obj.mk (Value.type "tuple") none (Data.seq #[] 0) #[])
noncomputable def o_116 : Params → Obj := fun _ => (Obj.mk (Value.type "builtin_function_or_method") none (Data.fields #[(Value.builtin "type.__prepare__"), (Value.type "type")]) #[])
noncomputable def o_117 : Params → Obj := fun P => (Obj.mk (Value.type "dict") none (Data.dict #[(DictEntry.mk (PyData.keyHash P (Str.ofString "__module__")) (Value.str (Str.ofString "__module__") 337) (Value.str (Str.ofString "snobol.values") 187)), (DictEntry.mk (PyData.keyHash P (Str.ofString "__qualname__")) (Value.str (Str.ofString "__qualname__") 339) (Value.str (Str.ofString "NameRef") 338)), (DictEntry.mk (PyData.keyHash P (Str.ofString "__firstlineno__")) (Value.str (Str.ofString "__firstlineno__") 341) (Value.int (22 : Int) 340)), (DictEntry.mk (PyData.keyHash P (Str.ofString "__init__")) (Value.str (Str.ofString "__init__") 351) (Value.ref 128)), (DictEntry.mk (PyData.keyHash P (Str.ofString "__static_attributes__")) (Value.str (Str.ofString "__static_attributes__") 355) (Value.ref 129))] 5) #[])
noncomputable def o_118 : Params → Obj := fun _ => (Obj.mk (Value.type "tuple") none (Data.seq #[] 0) #[])
noncomputable def o_119 : Params → Obj := fun _ => (Obj.mk Value.none none (Data.fields #[(Value.int (24 : Int) 0), (Value.int (4 : Int) 0), (Value.ref 127)]) #[])
noncomputable def o_120 : Params → Obj := fun _ => (Obj.mk (Value.type "code") none (Data.fields #[(Value.str (Str.ofString "NameRef") 332), (Value.str (Str.ofString "NameRef") 333), (Value.str (Str.ofString "/claim/cut.py") 334), (Value.int (22 : Int) 0), (Value.int (0 : Int) 0), (Value.int (0 : Int) 0), (Value.int (0 : Int) 0), (Value.int (0 : Int) 0), (Value.ref 118), (Value.bool Bool.false), (Value.int (181 : Int) 0), (Value.ref 119), Value.none, Value.none, Value.none, Value.none, (Value.int (335 : Int) 0), (Value.int (22 : Int) 0), (Value.str (Str.ofString "/claim/cut.py") 336)]) #[])
noncomputable def o_121 : Params → Obj := fun _ => (Obj.mk (Value.type "frame") none Data.plain #[(some (Value.ref 120)), (some (Value.ref 3)), (some (Value.ref 117)), none, (some (Value.str (Str.ofString "snobol.values") 187)), none, (some (Value.ref 0))])
noncomputable def o_122 : Params → Obj := fun _ => (Obj.mk (Value.type "tuple") none (Data.seq #[] 0) #[])
noncomputable def o_123 : Params → Obj := fun _ => (Obj.mk Value.none none (Data.fields #[]) #[])
noncomputable def o_124 : Params → Obj := fun _ => (Obj.mk (Value.type "tuple") none (Data.seq #[(Value.str (Str.ofString "self") 345), (Value.str (Str.ofString "kind") 346), (Value.str (Str.ofString "owner") 347), (Value.str (Str.ofString "key") 348)] 0) #[])
noncomputable def o_125 : Params → Obj := fun _ => (Obj.mk (Value.type "tuple") none (Data.seq #[] 0) #[])
noncomputable def o_126 : Params → Obj := fun _ => (Obj.mk Value.none none (Data.func (FuncData.mk (Str.ofString "__init__") (Str.ofString "NameRef.__init__") (dArgs (stIn 6 0)) (FuncBody.stmts (dBody (stIn 6 0))) (dScope (stIn 6 0)) 0 [] Value.none Value.none Value.none Value.none none Value.none Value.none 0)) #[])
noncomputable def o_127 : Params → Obj := fun _ => (Obj.mk (Value.type "code") none (Data.fields #[(Value.str (Str.ofString "__init__") 342), (Value.str (Str.ofString "NameRef.__init__") 343), (Value.str (Str.ofString "/claim/cut.py") 344), (Value.int (24 : Int) 0), (Value.int (4 : Int) 0), (Value.int (0 : Int) 0), (Value.int (0 : Int) 0), (Value.int (3 : Int) 0), (Value.ref 122), (Value.bool Bool.true), (Value.int (181 : Int) 0), (Value.ref 123), Value.none, (Value.ref 124), (Value.ref 125), (Value.ref 126), (Value.int (349 : Int) 0), (Value.int (24 : Int) 0), (Value.str (Str.ofString "/claim/cut.py") 350)]) #[])
noncomputable def o_128 : Params → Obj := fun _ => (Obj.mk (Value.type "function") none (Data.func (FuncData.mk (Str.ofString "__init__") (Str.ofString "NameRef.__init__") ((by exact fun x _ => x : (x : Arguments) → x = (dArgs (stIn 6 0)) → Arguments) _ (by conv => rhs; whnf)) (FuncBody.stmts ((by exact fun x _ => x : (x : List Stmt) → x = (dBody (stIn 6 0)) → List Stmt) _ (by conv => rhs; whnf))) ((by exact fun x _ => x : (x : Scope) → x = (dScope (stIn 6 0)) → Scope) _ (by conv => rhs; whnf)) 3 [] Value.none Value.none Value.none (Value.str (Str.ofString "snobol.values") 187) none (Value.ref 127) Value.none 0)) #[])
noncomputable def o_129 : Params → Obj := fun _ => (Obj.mk (Value.type "tuple") none (Data.seq #[(Value.str (Str.ofString "key") 352), (Value.str (Str.ofString "kind") 353), (Value.str (Str.ofString "owner") 354)] 0) #[])
noncomputable def o_130 : Params → Obj := fun P => (Obj.mk (Value.type "dict") none (Data.dict #[(DictEntry.mk (PyData.keyHash P (Str.ofString "__module__")) (Value.str (Str.ofString "__module__") 337) (Value.str (Str.ofString "snobol.values") 187)), (DictEntry.mk (PyData.keyHash P (Str.ofString "__firstlineno__")) (Value.str (Str.ofString "__firstlineno__") 341) (Value.int (22 : Int) 340)), (DictEntry.mk (PyData.keyHash P (Str.ofString "__init__")) (Value.str (Str.ofString "__init__") 351) (Value.ref 128)), (DictEntry.mk (PyData.keyHash P (Str.ofString "__static_attributes__")) (Value.str (Str.ofString "__static_attributes__") 355) (Value.ref 129)), (DictEntry.mk (PyData.keyHash P (Str.ofString "__dict__")) (Value.str (Str.ofString "__dict__") 357) (Value.ref 132)), (DictEntry.mk (PyData.keyHash P (Str.ofString "__weakref__")) (Value.str (Str.ofString "__weakref__") 359) (Value.ref 133)), (DictEntry.mk (PyData.keyHash P (Str.ofString "__doc__")) (Value.str (Str.ofString "__doc__") 360) Value.none)] 4) #[])
noncomputable def o_131 : Params → Obj := fun _ => (Obj.mk (Value.type "type") none (Data.cls (ClassData.mk (Str.ofString "NameRef") [(Value.type "object")] [(Value.ref 131), (Value.type "object")] 130 (Str.ofString "NameRef") Bool.true [] [] Bool.false none Bool.false)) #[none, none, (some (Value.str (Str.ofString "NameRef") 330)), (some (Value.str (Str.ofString "NameRef") 338)), (some (Value.builtin "object.__new__")), (some (Value.bool Bool.true))])
noncomputable def o_132 : Params → Obj := fun _ => (Obj.mk (Value.type "getset_descriptor") none (Data.fields #[(Value.str (Str.ofString "__dict__") 356), (Value.ref 131), (Value.builtin "function.__dict__"), (Value.builtin "function.__dict__#set")]) #[])
noncomputable def o_133 : Params → Obj := fun _ => (Obj.mk (Value.type "getset_descriptor") none (Data.fields #[(Value.str (Str.ofString "__weakref__") 358), (Value.ref 131), (Value.builtin "ExceptionGroup.__weakref__"), Value.none]) #[])
noncomputable def o_134 : Params → Obj := fun _ => (Obj.mk (Value.type "super") none (Data.fields #[(Value.ref 131), (Value.ref 131), (Value.ref 131)]) #[])
noncomputable def o_135 : Params → Obj := fun _ => (Obj.mk (Value.type "builtin_function_or_method") none (Data.fields #[(Value.builtin "object.__init_subclass__"), (Value.ref 131)]) #[])
noncomputable def o_136 : Params → Obj := fun _ => (Obj.mk (Value.type "tuple") none (Data.seq #[] 0) #[])
noncomputable def o_137 : Params → Obj := fun _ => (Obj.mk (Value.type "builtin_function_or_method") none (Data.fields #[(Value.builtin "type.__prepare__"), (Value.type "type")]) #[])
noncomputable def o_138 : Params → Obj := fun P => (Obj.mk (Value.type "dict") none (Data.dict #[(DictEntry.mk (PyData.keyHash P (Str.ofString "__module__")) (Value.str (Str.ofString "__module__") 370) (Value.str (Str.ofString "snobol.values") 187)), (DictEntry.mk (PyData.keyHash P (Str.ofString "__qualname__")) (Value.str (Str.ofString "__qualname__") 372) (Value.str (Str.ofString "Holder") 371)), (DictEntry.mk (PyData.keyHash P (Str.ofString "__firstlineno__")) (Value.str (Str.ofString "__firstlineno__") 374) (Value.int (28 : Int) 373)), (DictEntry.mk (PyData.keyHash P (Str.ofString "__init__")) (Value.str (Str.ofString "__init__") 383) (Value.ref 149)), (DictEntry.mk (PyData.keyHash P (Str.ofString "__static_attributes__")) (Value.str (Str.ofString "__static_attributes__") 387) (Value.ref 150))] 5) #[])
noncomputable def o_139 : Params → Obj := fun _ => (Obj.mk (Value.type "tuple") none (Data.seq #[] 0) #[])
noncomputable def o_140 : Params → Obj := fun _ => (Obj.mk Value.none none (Data.fields #[(Value.int (30 : Int) 0), (Value.int (4 : Int) 0), (Value.ref 148)]) #[])
noncomputable def o_141 : Params → Obj := fun _ => (Obj.mk (Value.type "code") none (Data.fields #[(Value.str (Str.ofString "Holder") 365), (Value.str (Str.ofString "Holder") 366), (Value.str (Str.ofString "/claim/cut.py") 367), (Value.int (28 : Int) 0), (Value.int (0 : Int) 0), (Value.int (0 : Int) 0), (Value.int (0 : Int) 0), (Value.int (0 : Int) 0), (Value.ref 139), (Value.bool Bool.false), (Value.int (181 : Int) 0), (Value.ref 140), Value.none, Value.none, Value.none, Value.none, (Value.int (368 : Int) 0), (Value.int (28 : Int) 0), (Value.str (Str.ofString "/claim/cut.py") 369)]) #[])
noncomputable def o_142 : Params → Obj := fun _ => (Obj.mk (Value.type "frame") none Data.plain #[(some (Value.ref 141)), (some (Value.ref 3)), (some (Value.ref 138)), none, (some (Value.str (Str.ofString "snobol.values") 187)), none, (some (Value.ref 0))])
noncomputable def o_143 : Params → Obj := fun _ => (Obj.mk (Value.type "tuple") none (Data.seq #[] 0) #[])
noncomputable def o_144 : Params → Obj := fun _ => (Obj.mk Value.none none (Data.fields #[]) #[])
noncomputable def o_145 : Params → Obj := fun _ => (Obj.mk (Value.type "tuple") none (Data.seq #[(Value.str (Str.ofString "self") 378), (Value.str (Str.ofString "word") 379), (Value.str (Str.ofString "number") 380)] 0) #[])
noncomputable def o_146 : Params → Obj := fun _ => (Obj.mk (Value.type "tuple") none (Data.seq #[] 0) #[])
noncomputable def o_147 : Params → Obj := fun _ => (Obj.mk Value.none none (Data.func (FuncData.mk (Str.ofString "__init__") (Str.ofString "Holder.__init__") (dArgs (stIn 7 0)) (FuncBody.stmts (dBody (stIn 7 0))) (dScope (stIn 7 0)) 0 [] Value.none Value.none Value.none Value.none none Value.none Value.none 0)) #[])
noncomputable def o_148 : Params → Obj := fun _ => (Obj.mk (Value.type "code") none (Data.fields #[(Value.str (Str.ofString "__init__") 375), (Value.str (Str.ofString "Holder.__init__") 376), (Value.str (Str.ofString "/claim/cut.py") 377), (Value.int (30 : Int) 0), (Value.int (3 : Int) 0), (Value.int (0 : Int) 0), (Value.int (0 : Int) 0), (Value.int (3 : Int) 0), (Value.ref 143), (Value.bool Bool.true), (Value.int (181 : Int) 0), (Value.ref 144), Value.none, (Value.ref 145), (Value.ref 146), (Value.ref 147), (Value.int (381 : Int) 0), (Value.int (30 : Int) 0), (Value.str (Str.ofString "/claim/cut.py") 382)]) #[])
noncomputable def o_149 : Params → Obj := fun _ => (Obj.mk (Value.type "function") none (Data.func (FuncData.mk (Str.ofString "__init__") (Str.ofString "Holder.__init__") ((by exact fun x _ => x : (x : Arguments) → x = (dArgs (stIn 7 0)) → Arguments) _ (by conv => rhs; whnf)) (FuncBody.stmts ((by exact fun x _ => x : (x : List Stmt) → x = (dBody (stIn 7 0)) → List Stmt) _ (by conv => rhs; whnf))) ((by exact fun x _ => x : (x : Scope) → x = (dScope (stIn 7 0)) → Scope) _ (by conv => rhs; whnf)) 3 [] Value.none Value.none Value.none (Value.str (Str.ofString "snobol.values") 187) none (Value.ref 148) Value.none 0)) #[])
noncomputable def o_150 : Params → Obj := fun _ => (Obj.mk (Value.type "tuple") none (Data.seq #[(Value.str (Str.ofString "mark") 384), (Value.str (Str.ofString "number") 385), (Value.str (Str.ofString "word") 386)] 0) #[])
noncomputable def o_151 : Params → Obj := fun P => (Obj.mk (Value.type "dict") none (Data.dict #[(DictEntry.mk (PyData.keyHash P (Str.ofString "__module__")) (Value.str (Str.ofString "__module__") 370) (Value.str (Str.ofString "snobol.values") 187)), (DictEntry.mk (PyData.keyHash P (Str.ofString "__firstlineno__")) (Value.str (Str.ofString "__firstlineno__") 374) (Value.int (28 : Int) 373)), (DictEntry.mk (PyData.keyHash P (Str.ofString "__init__")) (Value.str (Str.ofString "__init__") 383) (Value.ref 149)), (DictEntry.mk (PyData.keyHash P (Str.ofString "__static_attributes__")) (Value.str (Str.ofString "__static_attributes__") 387) (Value.ref 150)), (DictEntry.mk (PyData.keyHash P (Str.ofString "__dict__")) (Value.str (Str.ofString "__dict__") 389) (Value.ref 153)), (DictEntry.mk (PyData.keyHash P (Str.ofString "__weakref__")) (Value.str (Str.ofString "__weakref__") 391) (Value.ref 154)), (DictEntry.mk (PyData.keyHash P (Str.ofString "__doc__")) (Value.str (Str.ofString "__doc__") 392) Value.none)] 4) #[])
noncomputable def o_152 : Params → Obj := fun _ => (Obj.mk (Value.type "type") none (Data.cls (ClassData.mk (Str.ofString "Holder") [(Value.type "object")] [(Value.ref 152), (Value.type "object")] 151 (Str.ofString "Holder") Bool.true [] [] Bool.false none Bool.false)) #[none, none, (some (Value.str (Str.ofString "Holder") 363)), (some (Value.str (Str.ofString "Holder") 371)), (some (Value.builtin "object.__new__")), (some (Value.bool Bool.true))])
noncomputable def o_153 : Params → Obj := fun _ => (Obj.mk (Value.type "getset_descriptor") none (Data.fields #[(Value.str (Str.ofString "__dict__") 388), (Value.ref 152), (Value.builtin "function.__dict__"), (Value.builtin "function.__dict__#set")]) #[])
noncomputable def o_154 : Params → Obj := fun _ => (Obj.mk (Value.type "getset_descriptor") none (Data.fields #[(Value.str (Str.ofString "__weakref__") 390), (Value.ref 152), (Value.builtin "ExceptionGroup.__weakref__"), Value.none]) #[])
noncomputable def o_155 : Params → Obj := fun _ => (Obj.mk (Value.type "super") none (Data.fields #[(Value.ref 152), (Value.ref 152), (Value.ref 152)]) #[])
noncomputable def o_156 : Params → Obj := fun _ => (Obj.mk (Value.type "builtin_function_or_method") none (Data.fields #[(Value.builtin "object.__init_subclass__"), (Value.ref 152)]) #[])
noncomputable def o_157 : Params → Obj := fun _ => (Obj.mk (Value.type "tuple") none (Data.seq #[] 0) #[])
noncomputable def o_158 : Params → Obj := fun _ => (Obj.mk Value.none none (Data.fields #[]) #[])
noncomputable def o_159 : Params → Obj := fun _ => (Obj.mk (Value.type "tuple") none (Data.seq #[(Value.str (Str.ofString "value") 398)] 0) #[])
noncomputable def o_160 : Params → Obj := fun _ => (Obj.mk (Value.type "tuple") none (Data.seq #[] 0) #[])
noncomputable def o_161 : Params → Obj := fun _ => (Obj.mk Value.none none (Data.func (FuncData.mk (Str.ofString "is_fail") (Str.ofString "is_fail") (dArgs (stOf 8)) (FuncBody.stmts (dBody (stOf 8))) (dScope (stOf 8)) 0 [] Value.none Value.none Value.none Value.none none Value.none Value.none 0)) #[])
noncomputable def o_162 : Params → Obj := fun _ => (Obj.mk (Value.type "code") none (Data.fields #[(Value.str (Str.ofString "is_fail") 395), (Value.str (Str.ofString "is_fail") 396), (Value.str (Str.ofString "/claim/cut.py") 397), (Value.int (34 : Int) 0), (Value.int (1 : Int) 0), (Value.int (0 : Int) 0), (Value.int (0 : Int) 0), (Value.int (3 : Int) 0), (Value.ref 157), (Value.bool Bool.true), (Value.int (181 : Int) 0), (Value.ref 158), Value.none, (Value.ref 159), (Value.ref 160), (Value.ref 161), (Value.int (399 : Int) 0), (Value.int (34 : Int) 0), (Value.str (Str.ofString "/claim/cut.py") 400)]) #[])
noncomputable def o_163 : Params → Obj := fun _ => (Obj.mk (Value.type "function") none (Data.func (FuncData.mk (Str.ofString "is_fail") (Str.ofString "is_fail") ((by exact fun x _ => x : (x : Arguments) → x = (dArgs (stOf 8)) → Arguments) _ (by conv => rhs; whnf)) (FuncBody.stmts ((by exact fun x _ => x : (x : List Stmt) → x = (dBody (stOf 8)) → List Stmt) _ (by conv => rhs; whnf))) ((by exact fun x _ => x : (x : Scope) → x = (dScope (stOf 8)) → Scope) _ (by conv => rhs; whnf)) 3 [] Value.none Value.none Value.none (Value.str (Str.ofString "snobol.values") 187) none (Value.ref 162) Value.none 0)) #[])
noncomputable def o_164 : Params → Obj := fun _ => (Obj.mk (Value.type "tuple") none (Data.seq #[] 0) #[])
noncomputable def o_165 : Params → Obj := fun _ => (Obj.mk Value.none none (Data.fields #[]) #[])
noncomputable def o_166 : Params → Obj := fun _ => (Obj.mk (Value.type "tuple") none (Data.seq #[(Value.str (Str.ofString "value") 405)] 0) #[])
noncomputable def o_167 : Params → Obj := fun _ => (Obj.mk (Value.type "tuple") none (Data.seq #[] 0) #[])
noncomputable def o_168 : Params → Obj := fun _ => (Obj.mk Value.none none (Data.func (FuncData.mk (Str.ofString "kind_of") (Str.ofString "kind_of") (dArgs (stOf 9)) (FuncBody.stmts (dBody (stOf 9))) (dScope (stOf 9)) 0 [] Value.none Value.none Value.none Value.none none Value.none Value.none 0)) #[])
noncomputable def o_169 : Params → Obj := fun _ => (Obj.mk (Value.type "code") none (Data.fields #[(Value.str (Str.ofString "kind_of") 402), (Value.str (Str.ofString "kind_of") 403), (Value.str (Str.ofString "/claim/cut.py") 404), (Value.int (36 : Int) 0), (Value.int (1 : Int) 0), (Value.int (0 : Int) 0), (Value.int (0 : Int) 0), (Value.int (3 : Int) 0), (Value.ref 164), (Value.bool Bool.true), (Value.int (181 : Int) 0), (Value.ref 165), Value.none, (Value.ref 166), (Value.ref 167), (Value.ref 168), (Value.int (406 : Int) 0), (Value.int (36 : Int) 0), (Value.str (Str.ofString "/claim/cut.py") 407)]) #[])
noncomputable def o_170 : Params → Obj := fun _ => (Obj.mk (Value.type "function") none (Data.func (FuncData.mk (Str.ofString "kind_of") (Str.ofString "kind_of") ((by exact fun x _ => x : (x : Arguments) → x = (dArgs (stOf 9)) → Arguments) _ (by conv => rhs; whnf)) (FuncBody.stmts ((by exact fun x _ => x : (x : List Stmt) → x = (dBody (stOf 9)) → List Stmt) _ (by conv => rhs; whnf))) ((by exact fun x _ => x : (x : Scope) → x = (dScope (stOf 9)) → Scope) _ (by conv => rhs; whnf)) 3 [] Value.none Value.none Value.none (Value.str (Str.ofString "snobol.values") 187) none (Value.ref 169) Value.none 0)) #[])
noncomputable def o_171 : Params → Obj := fun _ => (Obj.mk (Value.type "tuple") none (Data.seq #[] 0) #[])
noncomputable def o_172 : Params → Obj := fun _ => (Obj.mk Value.none none (Data.fields #[]) #[])
noncomputable def o_173 : Params → Obj := fun _ => (Obj.mk (Value.type "tuple") none (Data.seq #[(Value.str (Str.ofString "value") 412)] 0) #[])
noncomputable def o_174 : Params → Obj := fun _ => (Obj.mk (Value.type "tuple") none (Data.seq #[] 0) #[])
noncomputable def o_175 : Params → Obj := fun _ => (Obj.mk Value.none none (Data.func (FuncData.mk (Str.ofString "is_null") (Str.ofString "is_null") (dArgs (stOf 10)) (FuncBody.stmts (dBody (stOf 10))) (dScope (stOf 10)) 0 [] Value.none Value.none Value.none Value.none none Value.none Value.none 0)) #[])
noncomputable def o_176 : Params → Obj := fun _ => (Obj.mk (Value.type "code") none (Data.fields #[(Value.str (Str.ofString "is_null") 409), (Value.str (Str.ofString "is_null") 410), (Value.str (Str.ofString "/claim/cut.py") 411), (Value.int (50 : Int) 0), (Value.int (1 : Int) 0), (Value.int (0 : Int) 0), (Value.int (0 : Int) 0), (Value.int (3 : Int) 0), (Value.ref 171), (Value.bool Bool.true), (Value.int (181 : Int) 0), (Value.ref 172), Value.none, (Value.ref 173), (Value.ref 174), (Value.ref 175), (Value.int (413 : Int) 0), (Value.int (50 : Int) 0), (Value.str (Str.ofString "/claim/cut.py") 414)]) #[])
noncomputable def o_177 : Params → Obj := fun _ => (Obj.mk (Value.type "function") none (Data.func (FuncData.mk (Str.ofString "is_null") (Str.ofString "is_null") ((by exact fun x _ => x : (x : Arguments) → x = (dArgs (stOf 10)) → Arguments) _ (by conv => rhs; whnf)) (FuncBody.stmts ((by exact fun x _ => x : (x : List Stmt) → x = (dBody (stOf 10)) → List Stmt) _ (by conv => rhs; whnf))) ((by exact fun x _ => x : (x : Scope) → x = (dScope (stOf 10)) → Scope) _ (by conv => rhs; whnf)) 3 [] Value.none Value.none Value.none (Value.str (Str.ofString "snobol.values") 187) none (Value.ref 176) Value.none 0)) #[])
noncomputable def o_178 : Params → Obj := fun _ => (Obj.mk (Value.type "tuple") none (Data.seq #[] 0) #[])
noncomputable def o_179 : Params → Obj := fun _ => (Obj.mk Value.none none (Data.fields #[]) #[])
noncomputable def o_180 : Params → Obj := fun _ => (Obj.mk (Value.type "tuple") none (Data.seq #[(Value.str (Str.ofString "value") 419)] 0) #[])
noncomputable def o_181 : Params → Obj := fun _ => (Obj.mk (Value.type "tuple") none (Data.seq #[] 0) #[])
noncomputable def o_182 : Params → Obj := fun _ => (Obj.mk Value.none none (Data.func (FuncData.mk (Str.ofString "is_plain") (Str.ofString "is_plain") (dArgs (stOf 11)) (FuncBody.stmts (dBody (stOf 11))) (dScope (stOf 11)) 0 [] Value.none Value.none Value.none Value.none none Value.none Value.none 0)) #[])
noncomputable def o_183 : Params → Obj := fun _ => (Obj.mk (Value.type "code") none (Data.fields #[(Value.str (Str.ofString "is_plain") 416), (Value.str (Str.ofString "is_plain") 417), (Value.str (Str.ofString "/claim/cut.py") 418), (Value.int (52 : Int) 0), (Value.int (1 : Int) 0), (Value.int (0 : Int) 0), (Value.int (0 : Int) 0), (Value.int (3 : Int) 0), (Value.ref 178), (Value.bool Bool.true), (Value.int (181 : Int) 0), (Value.ref 179), Value.none, (Value.ref 180), (Value.ref 181), (Value.ref 182), (Value.int (420 : Int) 0), (Value.int (52 : Int) 0), (Value.str (Str.ofString "/claim/cut.py") 421)]) #[])
noncomputable def o_184 : Params → Obj := fun _ => (Obj.mk (Value.type "function") none (Data.func (FuncData.mk (Str.ofString "is_plain") (Str.ofString "is_plain") ((by exact fun x _ => x : (x : Arguments) → x = (dArgs (stOf 11)) → Arguments) _ (by conv => rhs; whnf)) (FuncBody.stmts ((by exact fun x _ => x : (x : List Stmt) → x = (dBody (stOf 11)) → List Stmt) _ (by conv => rhs; whnf))) ((by exact fun x _ => x : (x : Scope) → x = (dScope (stOf 11)) → Scope) _ (by conv => rhs; whnf)) 3 [] Value.none Value.none Value.none (Value.str (Str.ofString "snobol.values") 187) none (Value.ref 183) Value.none 0)) #[])
noncomputable def o_185 : Params → Obj := fun _ => (Obj.mk (Value.type "tuple") none (Data.seq #[] 0) #[])
noncomputable def o_186 : Params → Obj := fun _ => (Obj.mk Value.none none (Data.fields #[]) #[])
noncomputable def o_187 : Params → Obj := fun _ => (Obj.mk (Value.type "tuple") none (Data.seq #[(Value.str (Str.ofString "number") 426), (Value.str (Str.ofString "width") 427)] 0) #[])
noncomputable def o_188 : Params → Obj := fun _ => (Obj.mk (Value.type "tuple") none (Data.seq #[] 0) #[])
noncomputable def o_189 : Params → Obj := fun _ => (Obj.mk Value.none none (Data.func (FuncData.mk (Str.ofString "fits") (Str.ofString "fits") (dArgs (stOf 12)) (FuncBody.stmts (dBody (stOf 12))) (dScope (stOf 12)) 0 [] Value.none Value.none Value.none Value.none none Value.none Value.none 0)) #[])
noncomputable def o_190 : Params → Obj := fun _ => (Obj.mk (Value.type "code") none (Data.fields #[(Value.str (Str.ofString "fits") 423), (Value.str (Str.ofString "fits") 424), (Value.str (Str.ofString "/claim/cut.py") 425), (Value.int (54 : Int) 0), (Value.int (2 : Int) 0), (Value.int (0 : Int) 0), (Value.int (0 : Int) 0), (Value.int (3 : Int) 0), (Value.ref 185), (Value.bool Bool.true), (Value.int (181 : Int) 0), (Value.ref 186), Value.none, (Value.ref 187), (Value.ref 188), (Value.ref 189), (Value.int (428 : Int) 0), (Value.int (54 : Int) 0), (Value.str (Str.ofString "/claim/cut.py") 429)]) #[])
noncomputable def o_191 : Params → Obj := fun _ => (Obj.mk (Value.type "function") none (Data.func (FuncData.mk (Str.ofString "fits") (Str.ofString "fits") ((by exact fun x _ => x : (x : Arguments) → x = (dArgs (stOf 12)) → Arguments) _ (by conv => rhs; whnf)) (FuncBody.stmts ((by exact fun x _ => x : (x : List Stmt) → x = (dBody (stOf 12)) → List Stmt) _ (by conv => rhs; whnf))) ((by exact fun x _ => x : (x : Scope) → x = (dScope (stOf 12)) → Scope) _ (by conv => rhs; whnf)) 3 [] Value.none Value.none Value.none (Value.str (Str.ofString "snobol.values") 187) none (Value.ref 190) Value.none 0)) #[])
noncomputable def o_192 : Params → Obj := fun _ => (Obj.mk (Value.type "tuple") none (Data.seq #[] 0) #[])
noncomputable def o_193 : Params → Obj := fun _ => (Obj.mk Value.none none (Data.fields #[]) #[])
noncomputable def o_194 : Params → Obj := fun _ => (Obj.mk (Value.type "tuple") none (Data.seq #[(Value.str (Str.ofString "text") 434), (Value.str (Str.ofString "width") 435), (Value.str (Str.ofString "digits") 436), (Value.str (Str.ofString "number") 437), (Value.str (Str.ofString "sign") 438)] 0) #[])
noncomputable def o_195 : Params → Obj := fun _ => (Obj.mk (Value.type "tuple") none (Data.seq #[] 0) #[])
noncomputable def o_196 : Params → Obj := fun _ => (Obj.mk Value.none none (Data.func (FuncData.mk (Str.ofString "whole_of_text") (Str.ofString "whole_of_text") (dArgs (stOf 13)) (FuncBody.stmts (dBody (stOf 13))) (dScope (stOf 13)) 0 [] Value.none Value.none Value.none Value.none none Value.none Value.none 0)) #[])
noncomputable def o_197 : Params → Obj := fun _ => (Obj.mk (Value.type "code") none (Data.fields #[(Value.str (Str.ofString "whole_of_text") 431), (Value.str (Str.ofString "whole_of_text") 432), (Value.str (Str.ofString "/claim/cut.py") 433), (Value.int (56 : Int) 0), (Value.int (2 : Int) 0), (Value.int (0 : Int) 0), (Value.int (0 : Int) 0), (Value.int (3 : Int) 0), (Value.ref 192), (Value.bool Bool.true), (Value.int (181 : Int) 0), (Value.ref 193), Value.none, (Value.ref 194), (Value.ref 195), (Value.ref 196), (Value.int (439 : Int) 0), (Value.int (56 : Int) 0), (Value.str (Str.ofString "/claim/cut.py") 440)]) #[])
noncomputable def o_198 : Params → Obj := fun _ => (Obj.mk (Value.type "function") none (Data.func (FuncData.mk (Str.ofString "whole_of_text") (Str.ofString "whole_of_text") ((by exact fun x _ => x : (x : Arguments) → x = (dArgs (stOf 13)) → Arguments) _ (by conv => rhs; whnf)) (FuncBody.stmts ((by exact fun x _ => x : (x : List Stmt) → x = (dBody (stOf 13)) → List Stmt) _ (by conv => rhs; whnf))) ((by exact fun x _ => x : (x : Scope) → x = (dScope (stOf 13)) → Scope) _ (by conv => rhs; whnf)) 3 [] Value.none Value.none Value.none (Value.str (Str.ofString "snobol.values") 187) none (Value.ref 197) Value.none 0)) #[])
noncomputable def o_199 : Params → Obj := fun _ => (Obj.mk (Value.type "tuple") none (Data.seq #[] 0) #[])
noncomputable def o_200 : Params → Obj := fun _ => (Obj.mk Value.none none (Data.fields #[]) #[])
noncomputable def o_201 : Params → Obj := fun _ => (Obj.mk (Value.type "tuple") none (Data.seq #[(Value.str (Str.ofString "number") 445), (Value.str (Str.ofString "left") 446), (Value.str (Str.ofString "found") 447)] 0) #[])
noncomputable def o_202 : Params → Obj := fun _ => (Obj.mk (Value.type "tuple") none (Data.seq #[] 0) #[])
noncomputable def o_203 : Params → Obj := fun _ => (Obj.mk Value.none none (Data.func (FuncData.mk (Str.ofString "text_of_whole") (Str.ofString "text_of_whole") (dArgs (stOf 14)) (FuncBody.stmts (dBody (stOf 14))) (dScope (stOf 14)) 0 [] Value.none Value.none Value.none Value.none none Value.none Value.none 0)) #[])
noncomputable def o_204 : Params → Obj := fun _ => (Obj.mk (Value.type "code") none (Data.fields #[(Value.str (Str.ofString "text_of_whole") 442), (Value.str (Str.ofString "text_of_whole") 443), (Value.str (Str.ofString "/claim/cut.py") 444), (Value.int (69 : Int) 0), (Value.int (1 : Int) 0), (Value.int (0 : Int) 0), (Value.int (0 : Int) 0), (Value.int (3 : Int) 0), (Value.ref 199), (Value.bool Bool.true), (Value.int (181 : Int) 0), (Value.ref 200), Value.none, (Value.ref 201), (Value.ref 202), (Value.ref 203), (Value.int (448 : Int) 0), (Value.int (69 : Int) 0), (Value.str (Str.ofString "/claim/cut.py") 449)]) #[])
noncomputable def o_205 : Params → Obj := fun _ => (Obj.mk (Value.type "function") none (Data.func (FuncData.mk (Str.ofString "text_of_whole") (Str.ofString "text_of_whole") ((by exact fun x _ => x : (x : Arguments) → x = (dArgs (stOf 14)) → Arguments) _ (by conv => rhs; whnf)) (FuncBody.stmts ((by exact fun x _ => x : (x : List Stmt) → x = (dBody (stOf 14)) → List Stmt) _ (by conv => rhs; whnf))) ((by exact fun x _ => x : (x : Scope) → x = (dScope (stOf 14)) → Scope) _ (by conv => rhs; whnf)) 3 [] Value.none Value.none Value.none (Value.str (Str.ofString "snobol.values") 187) none (Value.ref 204) Value.none 0)) #[])
noncomputable def o_206 : Params → Obj := fun _ => (Obj.mk (Value.type "tuple") none (Data.seq #[] 0) #[])
noncomputable def o_207 : Params → Obj := fun _ => (Obj.mk Value.none none (Data.fields #[]) #[])
noncomputable def o_208 : Params → Obj := fun _ => (Obj.mk (Value.type "tuple") none (Data.seq #[(Value.str (Str.ofString "value") 454), (Value.str (Str.ofString "width") 455)] 0) #[])
noncomputable def o_209 : Params → Obj := fun _ => (Obj.mk (Value.type "tuple") none (Data.seq #[] 0) #[])
noncomputable def o_210 : Params → Obj := fun _ => (Obj.mk Value.none none (Data.func (FuncData.mk (Str.ofString "to_whole") (Str.ofString "to_whole") (dArgs (stOf 15)) (FuncBody.stmts (dBody (stOf 15))) (dScope (stOf 15)) 0 [] Value.none Value.none Value.none Value.none none Value.none Value.none 0)) #[])
noncomputable def o_211 : Params → Obj := fun _ => (Obj.mk (Value.type "code") none (Data.fields #[(Value.str (Str.ofString "to_whole") 451), (Value.str (Str.ofString "to_whole") 452), (Value.str (Str.ofString "/claim/cut.py") 453), (Value.int (75 : Int) 0), (Value.int (2 : Int) 0), (Value.int (0 : Int) 0), (Value.int (0 : Int) 0), (Value.int (3 : Int) 0), (Value.ref 206), (Value.bool Bool.true), (Value.int (181 : Int) 0), (Value.ref 207), Value.none, (Value.ref 208), (Value.ref 209), (Value.ref 210), (Value.int (456 : Int) 0), (Value.int (75 : Int) 0), (Value.str (Str.ofString "/claim/cut.py") 457)]) #[])
noncomputable def o_212 : Params → Obj := fun _ => (Obj.mk (Value.type "function") none (Data.func (FuncData.mk (Str.ofString "to_whole") (Str.ofString "to_whole") ((by exact fun x _ => x : (x : Arguments) → x = (dArgs (stOf 15)) → Arguments) _ (by conv => rhs; whnf)) (FuncBody.stmts ((by exact fun x _ => x : (x : List Stmt) → x = (dBody (stOf 15)) → List Stmt) _ (by conv => rhs; whnf))) ((by exact fun x _ => x : (x : Scope) → x = (dScope (stOf 15)) → Scope) _ (by conv => rhs; whnf)) 3 [] Value.none Value.none Value.none (Value.str (Str.ofString "snobol.values") 187) none (Value.ref 211) Value.none 0)) #[])
noncomputable def o_213 : Params → Obj := fun _ => (Obj.mk (Value.type "tuple") none (Data.seq #[] 0) #[])
noncomputable def o_214 : Params → Obj := fun _ => (Obj.mk Value.none none (Data.fields #[]) #[])
noncomputable def o_215 : Params → Obj := fun _ => (Obj.mk (Value.type "tuple") none (Data.seq #[(Value.str (Str.ofString "value") 462)] 0) #[])
noncomputable def o_216 : Params → Obj := fun _ => (Obj.mk (Value.type "tuple") none (Data.seq #[] 0) #[])
noncomputable def o_217 : Params → Obj := fun _ => (Obj.mk Value.none none (Data.func (FuncData.mk (Str.ofString "to_text") (Str.ofString "to_text") (dArgs (stOf 16)) (FuncBody.stmts (dBody (stOf 16))) (dScope (stOf 16)) 0 [] Value.none Value.none Value.none Value.none none Value.none Value.none 0)) #[])
noncomputable def o_218 : Params → Obj := fun _ => (Obj.mk (Value.type "code") none (Data.fields #[(Value.str (Str.ofString "to_text") 459), (Value.str (Str.ofString "to_text") 460), (Value.str (Str.ofString "/claim/cut.py") 461), (Value.int (79 : Int) 0), (Value.int (1 : Int) 0), (Value.int (0 : Int) 0), (Value.int (0 : Int) 0), (Value.int (3 : Int) 0), (Value.ref 213), (Value.bool Bool.true), (Value.int (181 : Int) 0), (Value.ref 214), Value.none, (Value.ref 215), (Value.ref 216), (Value.ref 217), (Value.int (463 : Int) 0), (Value.int (79 : Int) 0), (Value.str (Str.ofString "/claim/cut.py") 464)]) #[])
noncomputable def o_219 : Params → Obj := fun _ => (Obj.mk (Value.type "function") none (Data.func (FuncData.mk (Str.ofString "to_text") (Str.ofString "to_text") ((by exact fun x _ => x : (x : Arguments) → x = (dArgs (stOf 16)) → Arguments) _ (by conv => rhs; whnf)) (FuncBody.stmts ((by exact fun x _ => x : (x : List Stmt) → x = (dBody (stOf 16)) → List Stmt) _ (by conv => rhs; whnf))) ((by exact fun x _ => x : (x : Scope) → x = (dScope (stOf 16)) → Scope) _ (by conv => rhs; whnf)) 3 [] Value.none Value.none Value.none (Value.str (Str.ofString "snobol.values") 187) none (Value.ref 218) Value.none 0)) #[])
noncomputable def o_220 : Params → Obj := fun _ => (Obj.mk (Value.type "tuple") none (Data.seq #[] 0) #[])
noncomputable def o_221 : Params → Obj := fun _ => (Obj.mk Value.none none (Data.fields #[]) #[])
noncomputable def o_222 : Params → Obj := fun _ => (Obj.mk (Value.type "tuple") none (Data.seq #[(Value.str (Str.ofString "value") 469), (Value.str (Str.ofString "width") 470), (Value.str (Str.ofString "number") 471)] 0) #[])
noncomputable def o_223 : Params → Obj := fun _ => (Obj.mk (Value.type "tuple") none (Data.seq #[] 0) #[])
noncomputable def o_224 : Params → Obj := fun _ => (Obj.mk Value.none none (Data.func (FuncData.mk (Str.ofString "need_whole") (Str.ofString "need_whole") (dArgs (stOf 17)) (FuncBody.stmts (dBody (stOf 17))) (dScope (stOf 17)) 0 [] Value.none Value.none Value.none Value.none none Value.none Value.none 0)) #[])
noncomputable def o_225 : Params → Obj := fun _ => (Obj.mk (Value.type "code") none (Data.fields #[(Value.str (Str.ofString "need_whole") 466), (Value.str (Str.ofString "need_whole") 467), (Value.str (Str.ofString "/claim/cut.py") 468), (Value.int (83 : Int) 0), (Value.int (2 : Int) 0), (Value.int (0 : Int) 0), (Value.int (0 : Int) 0), (Value.int (3 : Int) 0), (Value.ref 220), (Value.bool Bool.true), (Value.int (181 : Int) 0), (Value.ref 221), Value.none, (Value.ref 222), (Value.ref 223), (Value.ref 224), (Value.int (472 : Int) 0), (Value.int (83 : Int) 0), (Value.str (Str.ofString "/claim/cut.py") 473)]) #[])
noncomputable def o_226 : Params → Obj := fun _ => (Obj.mk (Value.type "function") none (Data.func (FuncData.mk (Str.ofString "need_whole") (Str.ofString "need_whole") ((by exact fun x _ => x : (x : Arguments) → x = (dArgs (stOf 17)) → Arguments) _ (by conv => rhs; whnf)) (FuncBody.stmts ((by exact fun x _ => x : (x : List Stmt) → x = (dBody (stOf 17)) → List Stmt) _ (by conv => rhs; whnf))) ((by exact fun x _ => x : (x : Scope) → x = (dScope (stOf 17)) → Scope) _ (by conv => rhs; whnf)) 3 [] Value.none Value.none Value.none (Value.str (Str.ofString "snobol.values") 187) none (Value.ref 225) Value.none 0)) #[])
noncomputable def o_227 : Params → Obj := fun _ => (Obj.mk (Value.type "tuple") none (Data.seq #[] 0) #[])
noncomputable def o_228 : Params → Obj := fun _ => (Obj.mk Value.none none (Data.fields #[]) #[])
noncomputable def o_229 : Params → Obj := fun _ => (Obj.mk (Value.type "tuple") none (Data.seq #[(Value.str (Str.ofString "value") 478), (Value.str (Str.ofString "text") 479)] 0) #[])
noncomputable def o_230 : Params → Obj := fun _ => (Obj.mk (Value.type "tuple") none (Data.seq #[] 0) #[])
noncomputable def o_231 : Params → Obj := fun _ => (Obj.mk Value.none none (Data.func (FuncData.mk (Str.ofString "need_text") (Str.ofString "need_text") (dArgs (stOf 18)) (FuncBody.stmts (dBody (stOf 18))) (dScope (stOf 18)) 0 [] Value.none Value.none Value.none Value.none none Value.none Value.none 0)) #[])
noncomputable def o_232 : Params → Obj := fun _ => (Obj.mk (Value.type "code") none (Data.fields #[(Value.str (Str.ofString "need_text") 475), (Value.str (Str.ofString "need_text") 476), (Value.str (Str.ofString "/claim/cut.py") 477), (Value.int (88 : Int) 0), (Value.int (1 : Int) 0), (Value.int (0 : Int) 0), (Value.int (0 : Int) 0), (Value.int (3 : Int) 0), (Value.ref 227), (Value.bool Bool.true), (Value.int (181 : Int) 0), (Value.ref 228), Value.none, (Value.ref 229), (Value.ref 230), (Value.ref 231), (Value.int (480 : Int) 0), (Value.int (88 : Int) 0), (Value.str (Str.ofString "/claim/cut.py") 481)]) #[])
noncomputable def o_233 : Params → Obj := fun _ => (Obj.mk (Value.type "function") none (Data.func (FuncData.mk (Str.ofString "need_text") (Str.ofString "need_text") ((by exact fun x _ => x : (x : Arguments) → x = (dArgs (stOf 18)) → Arguments) _ (by conv => rhs; whnf)) (FuncBody.stmts ((by exact fun x _ => x : (x : List Stmt) → x = (dBody (stOf 18)) → List Stmt) _ (by conv => rhs; whnf))) ((by exact fun x _ => x : (x : Scope) → x = (dScope (stOf 18)) → Scope) _ (by conv => rhs; whnf)) 3 [] Value.none Value.none Value.none (Value.str (Str.ofString "snobol.values") 187) none (Value.ref 232) Value.none 0)) #[])
noncomputable def o_234 : Params → Obj := fun _ => (Obj.mk (Value.type "tuple") none (Data.seq #[] 0) #[])
noncomputable def o_235 : Params → Obj := fun _ => (Obj.mk Value.none none (Data.fields #[]) #[])
noncomputable def o_236 : Params → Obj := fun _ => (Obj.mk (Value.type "tuple") none (Data.seq #[(Value.str (Str.ofString "one") 486), (Value.str (Str.ofString "other") 487)] 0) #[])
noncomputable def o_237 : Params → Obj := fun _ => (Obj.mk (Value.type "tuple") none (Data.seq #[] 0) #[])
noncomputable def o_238 : Params → Obj := fun _ => (Obj.mk Value.none none (Data.func (FuncData.mk (Str.ofString "same_ref") (Str.ofString "same_ref") (dArgs (stOf 19)) (FuncBody.stmts (dBody (stOf 19))) (dScope (stOf 19)) 0 [] Value.none Value.none Value.none Value.none none Value.none Value.none 0)) #[])
noncomputable def o_239 : Params → Obj := fun _ => (Obj.mk (Value.type "code") none (Data.fields #[(Value.str (Str.ofString "same_ref") 483), (Value.str (Str.ofString "same_ref") 484), (Value.str (Str.ofString "/claim/cut.py") 485), (Value.int (93 : Int) 0), (Value.int (2 : Int) 0), (Value.int (0 : Int) 0), (Value.int (0 : Int) 0), (Value.int (3 : Int) 0), (Value.ref 234), (Value.bool Bool.true), (Value.int (181 : Int) 0), (Value.ref 235), Value.none, (Value.ref 236), (Value.ref 237), (Value.ref 238), (Value.int (488 : Int) 0), (Value.int (93 : Int) 0), (Value.str (Str.ofString "/claim/cut.py") 489)]) #[])
noncomputable def o_240 : Params → Obj := fun _ => (Obj.mk (Value.type "function") none (Data.func (FuncData.mk (Str.ofString "same_ref") (Str.ofString "same_ref") ((by exact fun x _ => x : (x : Arguments) → x = (dArgs (stOf 19)) → Arguments) _ (by conv => rhs; whnf)) (FuncBody.stmts ((by exact fun x _ => x : (x : List Stmt) → x = (dBody (stOf 19)) → List Stmt) _ (by conv => rhs; whnf))) ((by exact fun x _ => x : (x : Scope) → x = (dScope (stOf 19)) → Scope) _ (by conv => rhs; whnf)) 3 [] Value.none Value.none Value.none (Value.str (Str.ofString "snobol.values") 187) none (Value.ref 239) Value.none 0)) #[])
noncomputable def o_241 : Params → Obj := fun _ => (Obj.mk (Value.type "tuple") none (Data.seq #[] 0) #[])
noncomputable def o_242 : Params → Obj := fun _ => (Obj.mk Value.none none (Data.fields #[]) #[])
noncomputable def o_243 : Params → Obj := fun _ => (Obj.mk (Value.type "tuple") none (Data.seq #[(Value.str (Str.ofString "one") 494), (Value.str (Str.ofString "other") 495)] 0) #[])
noncomputable def o_244 : Params → Obj := fun _ => (Obj.mk (Value.type "tuple") none (Data.seq #[] 0) #[])
noncomputable def o_245 : Params → Obj := fun _ => (Obj.mk Value.none none (Data.func (FuncData.mk (Str.ofString "same_value") (Str.ofString "same_value") (dArgs (stOf 20)) (FuncBody.stmts (dBody (stOf 20))) (dScope (stOf 20)) 0 [] Value.none Value.none Value.none Value.none none Value.none Value.none 0)) #[])
noncomputable def o_246 : Params → Obj := fun _ => (Obj.mk (Value.type "code") none (Data.fields #[(Value.str (Str.ofString "same_value") 491), (Value.str (Str.ofString "same_value") 492), (Value.str (Str.ofString "/claim/cut.py") 493), (Value.int (99 : Int) 0), (Value.int (2 : Int) 0), (Value.int (0 : Int) 0), (Value.int (0 : Int) 0), (Value.int (3 : Int) 0), (Value.ref 241), (Value.bool Bool.true), (Value.int (181 : Int) 0), (Value.ref 242), Value.none, (Value.ref 243), (Value.ref 244), (Value.ref 245), (Value.int (496 : Int) 0), (Value.int (99 : Int) 0), (Value.str (Str.ofString "/claim/cut.py") 497)]) #[])
noncomputable def o_247 : Params → Obj := fun _ => (Obj.mk (Value.type "function") none (Data.func (FuncData.mk (Str.ofString "same_value") (Str.ofString "same_value") ((by exact fun x _ => x : (x : Arguments) → x = (dArgs (stOf 20)) → Arguments) _ (by conv => rhs; whnf)) (FuncBody.stmts ((by exact fun x _ => x : (x : List Stmt) → x = (dBody (stOf 20)) → List Stmt) _ (by conv => rhs; whnf))) ((by exact fun x _ => x : (x : Scope) → x = (dScope (stOf 20)) → Scope) _ (by conv => rhs; whnf)) 3 [] Value.none Value.none Value.none (Value.str (Str.ofString "snobol.values") 187) none (Value.ref 246) Value.none 0)) #[])
noncomputable def o_248 : Params → Obj := fun _ => (Obj.mk (Value.type "tuple") none (Data.seq #[] 0) #[])
noncomputable def o_249 : Params → Obj := fun _ => (Obj.mk Value.none none (Data.fields #[]) #[])
noncomputable def o_250 : Params → Obj := fun _ => (Obj.mk (Value.type "tuple") none (Data.seq #[(Value.str (Str.ofString "text") 504), (Value.str (Str.ofString "begin") 505), (Value.str (Str.ofString "many") 506)] 0) #[])
noncomputable def o_251 : Params → Obj := fun _ => (Obj.mk (Value.type "tuple") none (Data.seq #[] 0) #[])
noncomputable def o_252 : Params → Obj := fun _ => (Obj.mk Value.none none (Data.func (FuncData.mk (Str.ofString "part_of") (Str.ofString "part_of") (dArgs (stOf 22)) (FuncBody.stmts (dBody (stOf 22))) (dScope (stOf 22)) 0 [] Value.none Value.none Value.none Value.none none Value.none Value.none 0)) #[])
noncomputable def o_253 : Params → Obj := fun _ => (Obj.mk (Value.type "code") none (Data.fields #[(Value.str (Str.ofString "part_of") 501), (Value.str (Str.ofString "part_of") 502), (Value.str (Str.ofString "/claim/cut.py") 503), (Value.int (112 : Int) 0), (Value.int (3 : Int) 0), (Value.int (0 : Int) 0), (Value.int (0 : Int) 0), (Value.int (3 : Int) 0), (Value.ref 248), (Value.bool Bool.true), (Value.int (181 : Int) 0), (Value.ref 249), Value.none, (Value.ref 250), (Value.ref 251), (Value.ref 252), (Value.int (507 : Int) 0), (Value.int (112 : Int) 0), (Value.str (Str.ofString "/claim/cut.py") 508)]) #[])
noncomputable def o_254 : Params → Obj := fun _ => (Obj.mk (Value.type "function") none (Data.func (FuncData.mk (Str.ofString "part_of") (Str.ofString "part_of") ((by exact fun x _ => x : (x : Arguments) → x = (dArgs (stOf 22)) → Arguments) _ (by conv => rhs; whnf)) (FuncBody.stmts ((by exact fun x _ => x : (x : List Stmt) → x = (dBody (stOf 22)) → List Stmt) _ (by conv => rhs; whnf))) ((by exact fun x _ => x : (x : Scope) → x = (dScope (stOf 22)) → Scope) _ (by conv => rhs; whnf)) 3 [] Value.none Value.none Value.none (Value.str (Str.ofString "snobol.strings") 499) none (Value.ref 253) Value.none 0)) #[])
noncomputable def o_255 : Params → Obj := fun _ => (Obj.mk (Value.type "tuple") none (Data.seq #[] 0) #[])
noncomputable def o_256 : Params → Obj := fun _ => (Obj.mk Value.none none (Data.fields #[]) #[])
noncomputable def o_257 : Params → Obj := fun _ => (Obj.mk (Value.type "tuple") none (Data.seq #[(Value.str (Str.ofString "is_so") 513)] 0) #[])
noncomputable def o_258 : Params → Obj := fun _ => (Obj.mk (Value.type "tuple") none (Data.seq #[] 0) #[])
noncomputable def o_259 : Params → Obj := fun _ => (Obj.mk Value.none none (Data.func (FuncData.mk (Str.ofString "answer") (Str.ofString "answer") (dArgs (stOf 23)) (FuncBody.stmts (dBody (stOf 23))) (dScope (stOf 23)) 0 [] Value.none Value.none Value.none Value.none none Value.none Value.none 0)) #[])
noncomputable def o_260 : Params → Obj := fun _ => (Obj.mk (Value.type "code") none (Data.fields #[(Value.str (Str.ofString "answer") 510), (Value.str (Str.ofString "answer") 511), (Value.str (Str.ofString "/claim/cut.py") 512), (Value.int (118 : Int) 0), (Value.int (1 : Int) 0), (Value.int (0 : Int) 0), (Value.int (0 : Int) 0), (Value.int (3 : Int) 0), (Value.ref 255), (Value.bool Bool.true), (Value.int (181 : Int) 0), (Value.ref 256), Value.none, (Value.ref 257), (Value.ref 258), (Value.ref 259), (Value.int (514 : Int) 0), (Value.int (118 : Int) 0), (Value.str (Str.ofString "/claim/cut.py") 515)]) #[])
noncomputable def o_261 : Params → Obj := fun _ => (Obj.mk (Value.type "function") none (Data.func (FuncData.mk (Str.ofString "answer") (Str.ofString "answer") ((by exact fun x _ => x : (x : Arguments) → x = (dArgs (stOf 23)) → Arguments) _ (by conv => rhs; whnf)) (FuncBody.stmts ((by exact fun x _ => x : (x : List Stmt) → x = (dBody (stOf 23)) → List Stmt) _ (by conv => rhs; whnf))) ((by exact fun x _ => x : (x : Scope) → x = (dScope (stOf 23)) → Scope) _ (by conv => rhs; whnf)) 3 [] Value.none Value.none Value.none (Value.str (Str.ofString "snobol.strings") 499) none (Value.ref 260) Value.none 0)) #[])
noncomputable def o_262 : Params → Obj := fun _ => (Obj.mk (Value.type "tuple") none (Data.seq #[] 0) #[])
noncomputable def o_263 : Params → Obj := fun _ => (Obj.mk Value.none none (Data.fields #[]) #[])
noncomputable def o_264 : Params → Obj := fun _ => (Obj.mk (Value.type "tuple") none (Data.seq #[(Value.str (Str.ofString "value") 520)] 0) #[])
noncomputable def o_265 : Params → Obj := fun _ => (Obj.mk (Value.type "tuple") none (Data.seq #[] 0) #[])
noncomputable def o_266 : Params → Obj := fun _ => (Obj.mk Value.none none (Data.func (FuncData.mk (Str.ofString "told_or_fail") (Str.ofString "told_or_fail") (dArgs (stOf 24)) (FuncBody.stmts (dBody (stOf 24))) (dScope (stOf 24)) 0 [] Value.none Value.none Value.none Value.none none Value.none Value.none 0)) #[])
noncomputable def o_267 : Params → Obj := fun _ => (Obj.mk (Value.type "code") none (Data.fields #[(Value.str (Str.ofString "told_or_fail") 517), (Value.str (Str.ofString "told_or_fail") 518), (Value.str (Str.ofString "/claim/cut.py") 519), (Value.int (120 : Int) 0), (Value.int (1 : Int) 0), (Value.int (0 : Int) 0), (Value.int (0 : Int) 0), (Value.int (3 : Int) 0), (Value.ref 262), (Value.bool Bool.true), (Value.int (181 : Int) 0), (Value.ref 263), Value.none, (Value.ref 264), (Value.ref 265), (Value.ref 266), (Value.int (521 : Int) 0), (Value.int (120 : Int) 0), (Value.str (Str.ofString "/claim/cut.py") 522)]) #[])
noncomputable def o_268 : Params → Obj := fun _ => (Obj.mk (Value.type "function") none (Data.func (FuncData.mk (Str.ofString "told_or_fail") (Str.ofString "told_or_fail") ((by exact fun x _ => x : (x : Arguments) → x = (dArgs (stOf 24)) → Arguments) _ (by conv => rhs; whnf)) (FuncBody.stmts ((by exact fun x _ => x : (x : List Stmt) → x = (dBody (stOf 24)) → List Stmt) _ (by conv => rhs; whnf))) ((by exact fun x _ => x : (x : Scope) → x = (dScope (stOf 24)) → Scope) _ (by conv => rhs; whnf)) 3 [] Value.none Value.none Value.none (Value.str (Str.ofString "snobol.strings") 499) none (Value.ref 267) Value.none 0)) #[])
noncomputable def o_269 : Params → Obj := fun _ => (Obj.mk (Value.type "tuple") none (Data.seq #[] 0) #[])
noncomputable def o_270 : Params → Obj := fun _ => (Obj.mk Value.none none (Data.fields #[]) #[])
noncomputable def o_271 : Params → Obj := fun _ => (Obj.mk (Value.type "tuple") none (Data.seq #[(Value.str (Str.ofString "world") 527), (Value.str (Str.ofString "args") 528)] 0) #[])
noncomputable def o_272 : Params → Obj := fun _ => (Obj.mk (Value.type "tuple") none (Data.seq #[] 0) #[])
noncomputable def o_273 : Params → Obj := fun _ => (Obj.mk Value.none none (Data.func (FuncData.mk (Str.ofString "text_size") (Str.ofString "text_size") (dArgs (stOf 25)) (FuncBody.stmts (dBody (stOf 25))) (dScope (stOf 25)) 0 [] Value.none Value.none Value.none Value.none none Value.none Value.none 0)) #[])
noncomputable def o_274 : Params → Obj := fun _ => (Obj.mk (Value.type "code") none (Data.fields #[(Value.str (Str.ofString "text_size") 524), (Value.str (Str.ofString "text_size") 525), (Value.str (Str.ofString "/claim/cut.py") 526), (Value.int (122 : Int) 0), (Value.int (2 : Int) 0), (Value.int (0 : Int) 0), (Value.int (0 : Int) 0), (Value.int (3 : Int) 0), (Value.ref 269), (Value.bool Bool.true), (Value.int (181 : Int) 0), (Value.ref 270), Value.none, (Value.ref 271), (Value.ref 272), (Value.ref 273), (Value.int (529 : Int) 0), (Value.int (122 : Int) 0), (Value.str (Str.ofString "/claim/cut.py") 530)]) #[])
noncomputable def o_275 : Params → Obj := fun _ => (Obj.mk (Value.type "function") none (Data.func (FuncData.mk (Str.ofString "text_size") (Str.ofString "text_size") ((by exact fun x _ => x : (x : Arguments) → x = (dArgs (stOf 25)) → Arguments) _ (by conv => rhs; whnf)) (FuncBody.stmts ((by exact fun x _ => x : (x : List Stmt) → x = (dBody (stOf 25)) → List Stmt) _ (by conv => rhs; whnf))) ((by exact fun x _ => x : (x : Scope) → x = (dScope (stOf 25)) → Scope) _ (by conv => rhs; whnf)) 3 [] Value.none Value.none Value.none (Value.str (Str.ofString "snobol.strings") 499) none (Value.ref 274) Value.none 0)) #[])
noncomputable def o_276 : Params → Obj := fun _ => (Obj.mk (Value.type "tuple") none (Data.seq #[] 0) #[])
noncomputable def o_277 : Params → Obj := fun _ => (Obj.mk Value.none none (Data.fields #[]) #[])
noncomputable def o_278 : Params → Obj := fun _ => (Obj.mk (Value.type "tuple") none (Data.seq #[(Value.str (Str.ofString "world") 535), (Value.str (Str.ofString "args") 536), (Value.str (Str.ofString "text") 537), (Value.str (Str.ofString "many") 538)] 0) #[])
noncomputable def o_279 : Params → Obj := fun _ => (Obj.mk (Value.type "tuple") none (Data.seq #[] 0) #[])
noncomputable def o_280 : Params → Obj := fun _ => (Obj.mk Value.none none (Data.func (FuncData.mk (Str.ofString "text_dupl") (Str.ofString "text_dupl") (dArgs (stOf 26)) (FuncBody.stmts (dBody (stOf 26))) (dScope (stOf 26)) 0 [] Value.none Value.none Value.none Value.none none Value.none Value.none 0)) #[])
noncomputable def o_281 : Params → Obj := fun _ => (Obj.mk (Value.type "code") none (Data.fields #[(Value.str (Str.ofString "text_dupl") 532), (Value.str (Str.ofString "text_dupl") 533), (Value.str (Str.ofString "/claim/cut.py") 534), (Value.int (124 : Int) 0), (Value.int (2 : Int) 0), (Value.int (0 : Int) 0), (Value.int (0 : Int) 0), (Value.int (3 : Int) 0), (Value.ref 276), (Value.bool Bool.true), (Value.int (181 : Int) 0), (Value.ref 277), Value.none, (Value.ref 278), (Value.ref 279), (Value.ref 280), (Value.int (539 : Int) 0), (Value.int (124 : Int) 0), (Value.str (Str.ofString "/claim/cut.py") 540)]) #[])
noncomputable def o_282 : Params → Obj := fun _ => (Obj.mk (Value.type "function") none (Data.func (FuncData.mk (Str.ofString "text_dupl") (Str.ofString "text_dupl") ((by exact fun x _ => x : (x : Arguments) → x = (dArgs (stOf 26)) → Arguments) _ (by conv => rhs; whnf)) (FuncBody.stmts ((by exact fun x _ => x : (x : List Stmt) → x = (dBody (stOf 26)) → List Stmt) _ (by conv => rhs; whnf))) ((by exact fun x _ => x : (x : Scope) → x = (dScope (stOf 26)) → Scope) _ (by conv => rhs; whnf)) 3 [] Value.none Value.none Value.none (Value.str (Str.ofString "snobol.strings") 499) none (Value.ref 281) Value.none 0)) #[])
noncomputable def o_283 : Params → Obj := fun _ => (Obj.mk (Value.type "tuple") none (Data.seq #[] 0) #[])
noncomputable def o_284 : Params → Obj := fun _ => (Obj.mk Value.none none (Data.fields #[]) #[])
noncomputable def o_285 : Params → Obj := fun _ => (Obj.mk (Value.type "tuple") none (Data.seq #[(Value.str (Str.ofString "world") 545), (Value.str (Str.ofString "args") 546)] 0) #[])
noncomputable def o_286 : Params → Obj := fun _ => (Obj.mk (Value.type "tuple") none (Data.seq #[] 0) #[])
noncomputable def o_287 : Params → Obj := fun _ => (Obj.mk Value.none none (Data.func (FuncData.mk (Str.ofString "text_reverse") (Str.ofString "text_reverse") (dArgs (stOf 27)) (FuncBody.stmts (dBody (stOf 27))) (dScope (stOf 27)) 0 [] Value.none Value.none Value.none Value.none none Value.none Value.none 0)) #[])
noncomputable def o_288 : Params → Obj := fun _ => (Obj.mk (Value.type "code") none (Data.fields #[(Value.str (Str.ofString "text_reverse") 542), (Value.str (Str.ofString "text_reverse") 543), (Value.str (Str.ofString "/claim/cut.py") 544), (Value.int (131 : Int) 0), (Value.int (2 : Int) 0), (Value.int (0 : Int) 0), (Value.int (0 : Int) 0), (Value.int (3 : Int) 0), (Value.ref 283), (Value.bool Bool.true), (Value.int (181 : Int) 0), (Value.ref 284), Value.none, (Value.ref 285), (Value.ref 286), (Value.ref 287), (Value.int (547 : Int) 0), (Value.int (131 : Int) 0), (Value.str (Str.ofString "/claim/cut.py") 548)]) #[])
noncomputable def o_289 : Params → Obj := fun _ => (Obj.mk (Value.type "function") none (Data.func (FuncData.mk (Str.ofString "text_reverse") (Str.ofString "text_reverse") ((by exact fun x _ => x : (x : Arguments) → x = (dArgs (stOf 27)) → Arguments) _ (by conv => rhs; whnf)) (FuncBody.stmts ((by exact fun x _ => x : (x : List Stmt) → x = (dBody (stOf 27)) → List Stmt) _ (by conv => rhs; whnf))) ((by exact fun x _ => x : (x : Scope) → x = (dScope (stOf 27)) → Scope) _ (by conv => rhs; whnf)) 3 [] Value.none Value.none Value.none (Value.str (Str.ofString "snobol.strings") 499) none (Value.ref 288) Value.none 0)) #[])
noncomputable def o_290 : Params → Obj := fun _ => (Obj.mk (Value.type "tuple") none (Data.seq #[] 0) #[])
noncomputable def o_291 : Params → Obj := fun _ => (Obj.mk Value.none none (Data.fields #[]) #[])
noncomputable def o_292 : Params → Obj := fun _ => (Obj.mk (Value.type "tuple") none (Data.seq #[(Value.str (Str.ofString "world") 553), (Value.str (Str.ofString "args") 554), (Value.str (Str.ofString "text") 555), (Value.str (Str.ofString "begin") 556)] 0) #[])
noncomputable def o_293 : Params → Obj := fun _ => (Obj.mk (Value.type "tuple") none (Data.seq #[] 0) #[])
noncomputable def o_294 : Params → Obj := fun _ => (Obj.mk Value.none none (Data.func (FuncData.mk (Str.ofString "text_substr") (Str.ofString "text_substr") (dArgs (stOf 28)) (FuncBody.stmts (dBody (stOf 28))) (dScope (stOf 28)) 0 [] Value.none Value.none Value.none Value.none none Value.none Value.none 0)) #[])
noncomputable def o_295 : Params → Obj := fun _ => (Obj.mk (Value.type "code") none (Data.fields #[(Value.str (Str.ofString "text_substr") 550), (Value.str (Str.ofString "text_substr") 551), (Value.str (Str.ofString "/claim/cut.py") 552), (Value.int (133 : Int) 0), (Value.int (2 : Int) 0), (Value.int (0 : Int) 0), (Value.int (0 : Int) 0), (Value.int (3 : Int) 0), (Value.ref 290), (Value.bool Bool.true), (Value.int (181 : Int) 0), (Value.ref 291), Value.none, (Value.ref 292), (Value.ref 293), (Value.ref 294), (Value.int (557 : Int) 0), (Value.int (133 : Int) 0), (Value.str (Str.ofString "/claim/cut.py") 558)]) #[])
noncomputable def o_296 : Params → Obj := fun _ => (Obj.mk (Value.type "function") none (Data.func (FuncData.mk (Str.ofString "text_substr") (Str.ofString "text_substr") ((by exact fun x _ => x : (x : Arguments) → x = (dArgs (stOf 28)) → Arguments) _ (by conv => rhs; whnf)) (FuncBody.stmts ((by exact fun x _ => x : (x : List Stmt) → x = (dBody (stOf 28)) → List Stmt) _ (by conv => rhs; whnf))) ((by exact fun x _ => x : (x : Scope) → x = (dScope (stOf 28)) → Scope) _ (by conv => rhs; whnf)) 3 [] Value.none Value.none Value.none (Value.str (Str.ofString "snobol.strings") 499) none (Value.ref 295) Value.none 0)) #[])
noncomputable def o_297 : Params → Obj := fun _ => (Obj.mk (Value.type "tuple") none (Data.seq #[] 0) #[])
noncomputable def o_298 : Params → Obj := fun _ => (Obj.mk Value.none none (Data.fields #[]) #[])
noncomputable def o_299 : Params → Obj := fun _ => (Obj.mk (Value.type "tuple") none (Data.seq #[(Value.str (Str.ofString "world") 563), (Value.str (Str.ofString "args") 564)] 0) #[])
noncomputable def o_300 : Params → Obj := fun _ => (Obj.mk (Value.type "tuple") none (Data.seq #[] 0) #[])
noncomputable def o_301 : Params → Obj := fun _ => (Obj.mk Value.none none (Data.func (FuncData.mk (Str.ofString "value_ident") (Str.ofString "value_ident") (dArgs (stOf 29)) (FuncBody.stmts (dBody (stOf 29))) (dScope (stOf 29)) 0 [] Value.none Value.none Value.none Value.none none Value.none Value.none 0)) #[])
noncomputable def o_302 : Params → Obj := fun _ => (Obj.mk (Value.type "code") none (Data.fields #[(Value.str (Str.ofString "value_ident") 560), (Value.str (Str.ofString "value_ident") 561), (Value.str (Str.ofString "/claim/cut.py") 562), (Value.int (136 : Int) 0), (Value.int (2 : Int) 0), (Value.int (0 : Int) 0), (Value.int (0 : Int) 0), (Value.int (3 : Int) 0), (Value.ref 297), (Value.bool Bool.true), (Value.int (181 : Int) 0), (Value.ref 298), Value.none, (Value.ref 299), (Value.ref 300), (Value.ref 301), (Value.int (565 : Int) 0), (Value.int (136 : Int) 0), (Value.str (Str.ofString "/claim/cut.py") 566)]) #[])
noncomputable def o_303 : Params → Obj := fun _ => (Obj.mk (Value.type "function") none (Data.func (FuncData.mk (Str.ofString "value_ident") (Str.ofString "value_ident") ((by exact fun x _ => x : (x : Arguments) → x = (dArgs (stOf 29)) → Arguments) _ (by conv => rhs; whnf)) (FuncBody.stmts ((by exact fun x _ => x : (x : List Stmt) → x = (dBody (stOf 29)) → List Stmt) _ (by conv => rhs; whnf))) ((by exact fun x _ => x : (x : Scope) → x = (dScope (stOf 29)) → Scope) _ (by conv => rhs; whnf)) 3 [] Value.none Value.none Value.none (Value.str (Str.ofString "snobol.strings") 499) none (Value.ref 302) Value.none 0)) #[])
noncomputable def o_304 : Params → Obj := fun _ => (Obj.mk (Value.type "tuple") none (Data.seq #[(Value.str (Str.ofString "chars") 570), (Value.str (Str.ofString "") 571)] 0) #[])
noncomputable def o_305 : Params → Obj := fun _ => (Obj.mk (Value.type "tuple") none (Data.seq #[] 0) #[])
noncomputable def o_306 : Params → Obj := fun _ => (Obj.mk Value.none none (Data.fields #[]) #[])
noncomputable def o_307 : Params → Obj := fun _ => (Obj.mk (Value.type "tuple") none (Data.seq #[(Value.str (Str.ofString "node") 584)] 0) #[])
noncomputable def o_308 : Params → Obj := fun _ => (Obj.mk (Value.type "tuple") none (Data.seq #[] 0) #[])
noncomputable def o_309 : Params → Obj := fun _ => (Obj.mk Value.none none (Data.func (FuncData.mk (Str.ofString "is_null_node") (Str.ofString "is_null_node") (dArgs (stOf 36)) (FuncBody.stmts (dBody (stOf 36))) (dScope (stOf 36)) 0 [] Value.none Value.none Value.none Value.none none Value.none Value.none 0)) #[])
noncomputable def o_310 : Params → Obj := fun _ => (Obj.mk (Value.type "code") none (Data.fields #[(Value.str (Str.ofString "is_null_node") 581), (Value.str (Str.ofString "is_null_node") 582), (Value.str (Str.ofString "/claim/cut.py") 583), (Value.int (144 : Int) 0), (Value.int (1 : Int) 0), (Value.int (0 : Int) 0), (Value.int (0 : Int) 0), (Value.int (3 : Int) 0), (Value.ref 305), (Value.bool Bool.true), (Value.int (181 : Int) 0), (Value.ref 306), Value.none, (Value.ref 307), (Value.ref 308), (Value.ref 309), (Value.int (585 : Int) 0), (Value.int (144 : Int) 0), (Value.str (Str.ofString "/claim/cut.py") 586)]) #[])
noncomputable def o_311 : Params → Obj := fun _ => (Obj.mk (Value.type "function") none (Data.func (FuncData.mk (Str.ofString "is_null_node") (Str.ofString "is_null_node") ((by exact fun x _ => x : (x : Arguments) → x = (dArgs (stOf 36)) → Arguments) _ (by conv => rhs; whnf)) (FuncBody.stmts ((by exact fun x _ => x : (x : List Stmt) → x = (dBody (stOf 36)) → List Stmt) _ (by conv => rhs; whnf))) ((by exact fun x _ => x : (x : Scope) → x = (dScope (stOf 36)) → Scope) _ (by conv => rhs; whnf)) 3 [] Value.none Value.none Value.none (Value.str (Str.ofString "snobol.nodes") 568) none (Value.ref 310) Value.none 0)) #[])
noncomputable def o_312 : Params → Obj := fun _ => (Obj.mk (Value.type "tuple") none (Data.seq #[] 0) #[])
noncomputable def o_313 : Params → Obj := fun _ => (Obj.mk Value.none none (Data.fields #[]) #[])
noncomputable def o_314 : Params → Obj := fun _ => (Obj.mk (Value.type "tuple") none (Data.seq #[(Value.str (Str.ofString "one") 591), (Value.str (Str.ofString "other") 592)] 0) #[])
noncomputable def o_315 : Params → Obj := fun _ => (Obj.mk (Value.type "tuple") none (Data.seq #[] 0) #[])
noncomputable def o_316 : Params → Obj := fun _ => (Obj.mk Value.none none (Data.func (FuncData.mk (Str.ofString "joined") (Str.ofString "joined") (dArgs (stOf 37)) (FuncBody.stmts (dBody (stOf 37))) (dScope (stOf 37)) 0 [] Value.none Value.none Value.none Value.none none Value.none Value.none 0)) #[])
noncomputable def o_317 : Params → Obj := fun _ => (Obj.mk (Value.type "code") none (Data.fields #[(Value.str (Str.ofString "joined") 588), (Value.str (Str.ofString "joined") 589), (Value.str (Str.ofString "/claim/cut.py") 590), (Value.int (146 : Int) 0), (Value.int (2 : Int) 0), (Value.int (0 : Int) 0), (Value.int (0 : Int) 0), (Value.int (3 : Int) 0), (Value.ref 312), (Value.bool Bool.true), (Value.int (181 : Int) 0), (Value.ref 313), Value.none, (Value.ref 314), (Value.ref 315), (Value.ref 316), (Value.int (593 : Int) 0), (Value.int (146 : Int) 0), (Value.str (Str.ofString "/claim/cut.py") 594)]) #[])
noncomputable def o_318 : Params → Obj := fun _ => (Obj.mk (Value.type "function") none (Data.func (FuncData.mk (Str.ofString "joined") (Str.ofString "joined") ((by exact fun x _ => x : (x : Arguments) → x = (dArgs (stOf 37)) → Arguments) _ (by conv => rhs; whnf)) (FuncBody.stmts ((by exact fun x _ => x : (x : List Stmt) → x = (dBody (stOf 37)) → List Stmt) _ (by conv => rhs; whnf))) ((by exact fun x _ => x : (x : Scope) → x = (dScope (stOf 37)) → Scope) _ (by conv => rhs; whnf)) 3 [] Value.none Value.none Value.none (Value.str (Str.ofString "snobol.nodes") 568) none (Value.ref 317) Value.none 0)) #[])
noncomputable def o_319 : Params → Obj := fun _ => (Obj.mk (Value.type "tuple") none (Data.seq #[] 0) #[])
noncomputable def o_320 : Params → Obj := fun _ => (Obj.mk Value.none none (Data.fields #[]) #[])
noncomputable def o_321 : Params → Obj := fun _ => (Obj.mk (Value.type "tuple") none (Data.seq #[(Value.str (Str.ofString "value") 599), (Value.str (Str.ofString "text") 600)] 0) #[])
noncomputable def o_322 : Params → Obj := fun _ => (Obj.mk (Value.type "tuple") none (Data.seq #[] 0) #[])
noncomputable def o_323 : Params → Obj := fun _ => (Obj.mk Value.none none (Data.func (FuncData.mk (Str.ofString "pattern_of") (Str.ofString "pattern_of") (dArgs (stOf 38)) (FuncBody.stmts (dBody (stOf 38))) (dScope (stOf 38)) 0 [] Value.none Value.none Value.none Value.none none Value.none Value.none 0)) #[])
noncomputable def o_324 : Params → Obj := fun _ => (Obj.mk (Value.type "code") none (Data.fields #[(Value.str (Str.ofString "pattern_of") 596), (Value.str (Str.ofString "pattern_of") 597), (Value.str (Str.ofString "/claim/cut.py") 598), (Value.int (154 : Int) 0), (Value.int (1 : Int) 0), (Value.int (0 : Int) 0), (Value.int (0 : Int) 0), (Value.int (3 : Int) 0), (Value.ref 319), (Value.bool Bool.true), (Value.int (181 : Int) 0), (Value.ref 320), Value.none, (Value.ref 321), (Value.ref 322), (Value.ref 323), (Value.int (601 : Int) 0), (Value.int (154 : Int) 0), (Value.str (Str.ofString "/claim/cut.py") 602)]) #[])
noncomputable def o_325 : Params → Obj := fun _ => (Obj.mk (Value.type "function") none (Data.func (FuncData.mk (Str.ofString "pattern_of") (Str.ofString "pattern_of") ((by exact fun x _ => x : (x : Arguments) → x = (dArgs (stOf 38)) → Arguments) _ (by conv => rhs; whnf)) (FuncBody.stmts ((by exact fun x _ => x : (x : List Stmt) → x = (dBody (stOf 38)) → List Stmt) _ (by conv => rhs; whnf))) ((by exact fun x _ => x : (x : Scope) → x = (dScope (stOf 38)) → Scope) _ (by conv => rhs; whnf)) 3 [] Value.none Value.none Value.none (Value.str (Str.ofString "snobol.nodes") 568) none (Value.ref 324) Value.none 0)) #[])
noncomputable def o_326 : Params → Obj := fun _ => (Obj.mk (Value.type "tuple") none (Data.seq #[] 0) #[])
noncomputable def o_327 : Params → Obj := fun _ => (Obj.mk Value.none none (Data.fields #[]) #[])
noncomputable def o_328 : Params → Obj := fun _ => (Obj.mk (Value.type "tuple") none (Data.seq #[(Value.str (Str.ofString "node") 607)] 0) #[])
noncomputable def o_329 : Params → Obj := fun _ => (Obj.mk (Value.type "tuple") none (Data.seq #[] 0) #[])
noncomputable def o_330 : Params → Obj := fun _ => (Obj.mk Value.none none (Data.func (FuncData.mk (Str.ofString "parts_of") (Str.ofString "parts_of") (dArgs (stOf 39)) (FuncBody.stmts (dBody (stOf 39))) (dScope (stOf 39)) 0 [] Value.none Value.none Value.none Value.none none Value.none Value.none 0)) #[])
noncomputable def o_331 : Params → Obj := fun _ => (Obj.mk (Value.type "code") none (Data.fields #[(Value.str (Str.ofString "parts_of") 604), (Value.str (Str.ofString "parts_of") 605), (Value.str (Str.ofString "/claim/cut.py") 606), (Value.int (163 : Int) 0), (Value.int (1 : Int) 0), (Value.int (0 : Int) 0), (Value.int (0 : Int) 0), (Value.int (3 : Int) 0), (Value.ref 326), (Value.bool Bool.true), (Value.int (181 : Int) 0), (Value.ref 327), Value.none, (Value.ref 328), (Value.ref 329), (Value.ref 330), (Value.int (608 : Int) 0), (Value.int (163 : Int) 0), (Value.str (Str.ofString "/claim/cut.py") 609)]) #[])
noncomputable def o_332 : Params → Obj := fun _ => (Obj.mk (Value.type "function") none (Data.func (FuncData.mk (Str.ofString "parts_of") (Str.ofString "parts_of") ((by exact fun x _ => x : (x : Arguments) → x = (dArgs (stOf 39)) → Arguments) _ (by conv => rhs; whnf)) (FuncBody.stmts ((by exact fun x _ => x : (x : List Stmt) → x = (dBody (stOf 39)) → List Stmt) _ (by conv => rhs; whnf))) ((by exact fun x _ => x : (x : Scope) → x = (dScope (stOf 39)) → Scope) _ (by conv => rhs; whnf)) 3 [] Value.none Value.none Value.none (Value.str (Str.ofString "snobol.nodes") 568) none (Value.ref 331) Value.none 0)) #[])
noncomputable def o_333 : Params → Obj := fun _ => (Obj.mk (Value.type "tuple") none (Data.seq #[] 0) #[])
noncomputable def o_334 : Params → Obj := fun _ => (Obj.mk Value.none none (Data.fields #[]) #[])
noncomputable def o_335 : Params → Obj := fun _ => (Obj.mk (Value.type "tuple") none (Data.seq #[(Value.str (Str.ofString "node") 614), (Value.str (Str.ofString "many") 615), (Value.str (Str.ofString "left") 616), (Value.str (Str.ofString "here") 617), (Value.str (Str.ofString "depth") 618), (Value.str (Str.ofString "part") 619)] 0) #[])
noncomputable def o_336 : Params → Obj := fun _ => (Obj.mk (Value.type "tuple") none (Data.seq #[] 0) #[])
noncomputable def o_337 : Params → Obj := fun _ => (Obj.mk Value.none none (Data.func (FuncData.mk (Str.ofString "checked_node") (Str.ofString "checked_node") (dArgs (stOf 40)) (FuncBody.stmts (dBody (stOf 40))) (dScope (stOf 40)) 0 [] Value.none Value.none Value.none Value.none none Value.none Value.none 0)) #[])
noncomputable def o_338 : Params → Obj := fun _ => (Obj.mk (Value.type "code") none (Data.fields #[(Value.str (Str.ofString "checked_node") 611), (Value.str (Str.ofString "checked_node") 612), (Value.str (Str.ofString "/claim/cut.py") 613), (Value.int (167 : Int) 0), (Value.int (1 : Int) 0), (Value.int (0 : Int) 0), (Value.int (0 : Int) 0), (Value.int (3 : Int) 0), (Value.ref 333), (Value.bool Bool.true), (Value.int (181 : Int) 0), (Value.ref 334), Value.none, (Value.ref 335), (Value.ref 336), (Value.ref 337), (Value.int (620 : Int) 0), (Value.int (167 : Int) 0), (Value.str (Str.ofString "/claim/cut.py") 621)]) #[])
noncomputable def o_339 : Params → Obj := fun _ => (Obj.mk (Value.type "function") none (Data.func (FuncData.mk (Str.ofString "checked_node") (Str.ofString "checked_node") ((by exact fun x _ => x : (x : Arguments) → x = (dArgs (stOf 40)) → Arguments) _ (by conv => rhs; whnf)) (FuncBody.stmts ((by exact fun x _ => x : (x : List Stmt) → x = (dBody (stOf 40)) → List Stmt) _ (by conv => rhs; whnf))) ((by exact fun x _ => x : (x : Scope) → x = (dScope (stOf 40)) → Scope) _ (by conv => rhs; whnf)) 3 [] Value.none Value.none Value.none (Value.str (Str.ofString "snobol.nodes") 568) none (Value.ref 338) Value.none 0)) #[])
noncomputable def o_340 : Params → Obj := fun _ => (Obj.mk (Value.type "tuple") none (Data.seq #[] 0) #[])
noncomputable def o_341 : Params → Obj := fun _ => (Obj.mk (Value.type "builtin_function_or_method") none (Data.fields #[(Value.builtin "type.__prepare__"), (Value.type "type")]) #[])
noncomputable def o_342 : Params → Obj := fun P => (Obj.mk (Value.type "dict") none (Data.dict #[(DictEntry.mk (PyData.keyHash P (Str.ofString "__module__")) (Value.str (Str.ofString "__module__") 632) (Value.str (Str.ofString "snobol.world") 623)), (DictEntry.mk (PyData.keyHash P (Str.ofString "__qualname__")) (Value.str (Str.ofString "__qualname__") 634) (Value.str (Str.ofString "World") 633)), (DictEntry.mk (PyData.keyHash P (Str.ofString "__firstlineno__")) (Value.str (Str.ofString "__firstlineno__") 636) (Value.int (178 : Int) 635)), (DictEntry.mk (PyData.keyHash P (Str.ofString "__init__")) (Value.str (Str.ofString "__init__") 651) (Value.ref 354)), (DictEntry.mk (PyData.keyHash P (Str.ofString "__static_attributes__")) (Value.str (Str.ofString "__static_attributes__") 678) (Value.ref 355))] 5) #[])
noncomputable def o_343 : Params → Obj := fun _ => (Obj.mk (Value.type "tuple") none (Data.seq #[] 0) #[])
noncomputable def o_344 : Params → Obj := fun _ => (Obj.mk Value.none none (Data.fields #[(Value.int (180 : Int) 0), (Value.int (4 : Int) 0), (Value.ref 353)]) #[])
noncomputable def o_345 : Params → Obj := fun _ => (Obj.mk (Value.type "code") none (Data.fields #[(Value.str (Str.ofString "World") 627), (Value.str (Str.ofString "World") 628), (Value.str (Str.ofString "/claim/cut.py") 629), (Value.int (178 : Int) 0), (Value.int (0 : Int) 0), (Value.int (0 : Int) 0), (Value.int (0 : Int) 0), (Value.int (0 : Int) 0), (Value.ref 343), (Value.bool Bool.false), (Value.int (181 : Int) 0), (Value.ref 344), Value.none, Value.none, Value.none, Value.none, (Value.int (630 : Int) 0), (Value.int (178 : Int) 0), (Value.str (Str.ofString "/claim/cut.py") 631)]) #[])
noncomputable def o_346 : Params → Obj := fun _ => (Obj.mk (Value.type "frame") none Data.plain #[(some (Value.ref 345)), (some (Value.ref 3)), (some (Value.ref 342)), none, (some (Value.str (Str.ofString "snobol.world") 623)), none, (some (Value.ref 0))])
noncomputable def o_347 : Params → Obj := fun _ => (Obj.mk (Value.type "tuple") none (Data.seq #[(Value.int (32 : Int) 637), (Value.int (5000 : Int) 638), (Value.int (30 : Int) 639), (Value.int (5000 : Int) 640)] 0) #[])
noncomputable def o_348 : Params → Obj := fun _ => (Obj.mk (Value.type "tuple") none (Data.seq #[] 0) #[])
noncomputable def o_349 : Params → Obj := fun _ => (Obj.mk Value.none none (Data.fields #[]) #[])
noncomputable def o_350 : Params → Obj := fun _ => (Obj.mk (Value.type "tuple") none (Data.seq #[(Value.str (Str.ofString "self") 644), (Value.str (Str.ofString "width") 645), (Value.str (Str.ofString "most_steps") 646), (Value.str (Str.ofString "most_depth") 647), (Value.str (Str.ofString "most_length") 648)] 0) #[])
noncomputable def o_351 : Params → Obj := fun _ => (Obj.mk (Value.type "tuple") none (Data.seq #[] 0) #[])
noncomputable def o_352 : Params → Obj := fun _ => (Obj.mk Value.none none (Data.func (FuncData.mk (Str.ofString "__init__") (Str.ofString "World.__init__") (dArgs (stIn 42 0)) (FuncBody.stmts (dBody (stIn 42 0))) (dScope (stIn 42 0)) 0 [] Value.none Value.none Value.none Value.none none Value.none Value.none 0)) #[])
noncomputable def o_353 : Params → Obj := fun _ => (Obj.mk (Value.type "code") none (Data.fields #[(Value.str (Str.ofString "__init__") 641), (Value.str (Str.ofString "World.__init__") 642), (Value.str (Str.ofString "/claim/cut.py") 643), (Value.int (180 : Int) 0), (Value.int (5 : Int) 0), (Value.int (0 : Int) 0), (Value.int (0 : Int) 0), (Value.int (3 : Int) 0), (Value.ref 348), (Value.bool Bool.true), (Value.int (181 : Int) 0), (Value.ref 349), Value.none, (Value.ref 350), (Value.ref 351), (Value.ref 352), (Value.int (649 : Int) 0), (Value.int (180 : Int) 0), (Value.str (Str.ofString "/claim/cut.py") 650)]) #[])
noncomputable def o_354 : Params → Obj := fun _ => (Obj.mk (Value.type "function") none (Data.func (FuncData.mk (Str.ofString "__init__") (Str.ofString "World.__init__") ((by exact fun x _ => x : (x : Arguments) → x = (dArgs (stIn 42 0)) → Arguments) _ (by conv => rhs; whnf)) (FuncBody.stmts ((by exact fun x _ => x : (x : List Stmt) → x = (dBody (stIn 42 0)) → List Stmt) _ (by conv => rhs; whnf))) ((by exact fun x _ => x : (x : Scope) → x = (dScope (stIn 42 0)) → Scope) _ (by conv => rhs; whnf)) 3 [] (Value.ref 347) Value.none Value.none (Value.str (Str.ofString "snobol.world") 623) none (Value.ref 353) Value.none 0)) #[])
noncomputable def o_355 : Params → Obj := fun _ => (Obj.mk (Value.type "tuple") none (Data.seq #[(Value.str (Str.ofString "aside") 652), (Value.str (Str.ofString "depth") 653), (Value.str (Str.ofString "evaluate") 654), (Value.str (Str.ofString "functions") 655), (Value.str (Str.ofString "holders") 656), (Value.str (Str.ofString "inputs") 657), (Value.str (Str.ofString "kept_names") 658), (Value.str (Str.ofString "keywords") 659), (Value.str (Str.ofString "labels") 660), (Value.str (Str.ofString "made") 661), (Value.str (Str.ofString "make_code") 662), (Value.str (Str.ofString "matcher") 663), (Value.str (Str.ofString "most_depth") 664), (Value.str (Str.ofString "most_items") 665), (Value.str (Str.ofString "most_length") 666), (Value.str (Str.ofString "most_steps") 667), (Value.str (Str.ofString "nested") 668), (Value.str (Str.ofString "opsyns") 669), (Value.str (Str.ofString "outputs") 670), (Value.str (Str.ofString "read_names") 671), (Value.str (Str.ofString "steps") 672), (Value.str (Str.ofString "store") 673), (Value.str (Str.ofString "traced") 674), (Value.str (Str.ofString "traces") 675), (Value.str (Str.ofString "width") 676), (Value.str (Str.ofString "write_names") 677)] 0) #[])
noncomputable def o_356 : Params → Obj := fun P => (Obj.mk (Value.type "dict") none (Data.dict #[(DictEntry.mk (PyData.keyHash P (Str.ofString "__module__")) (Value.str (Str.ofString "__module__") 632) (Value.str (Str.ofString "snobol.world") 623)), (DictEntry.mk (PyData.keyHash P (Str.ofString "__firstlineno__")) (Value.str (Str.ofString "__firstlineno__") 636) (Value.int (178 : Int) 635)), (DictEntry.mk (PyData.keyHash P (Str.ofString "__init__")) (Value.str (Str.ofString "__init__") 651) (Value.ref 354)), (DictEntry.mk (PyData.keyHash P (Str.ofString "__static_attributes__")) (Value.str (Str.ofString "__static_attributes__") 678) (Value.ref 355)), (DictEntry.mk (PyData.keyHash P (Str.ofString "__dict__")) (Value.str (Str.ofString "__dict__") 680) (Value.ref 358)), (DictEntry.mk (PyData.keyHash P (Str.ofString "__weakref__")) (Value.str (Str.ofString "__weakref__") 682) (Value.ref 359)), (DictEntry.mk (PyData.keyHash P (Str.ofString "__doc__")) (Value.str (Str.ofString "__doc__") 683) Value.none)] 4) #[])
noncomputable def o_357 : Params → Obj := fun _ => (Obj.mk (Value.type "type") none (Data.cls (ClassData.mk (Str.ofString "World") [(Value.type "object")] [(Value.ref 357), (Value.type "object")] 356 (Str.ofString "World") Bool.true [] [] Bool.false none Bool.false)) #[none, none, (some (Value.str (Str.ofString "World") 625)), (some (Value.str (Str.ofString "World") 633)), (some (Value.builtin "object.__new__")), (some (Value.bool Bool.true))])
noncomputable def o_358 : Params → Obj := fun _ => (Obj.mk (Value.type "getset_descriptor") none (Data.fields #[(Value.str (Str.ofString "__dict__") 679), (Value.ref 357), (Value.builtin "function.__dict__"), (Value.builtin "function.__dict__#set")]) #[])
noncomputable def o_359 : Params → Obj := fun _ => (Obj.mk (Value.type "getset_descriptor") none (Data.fields #[(Value.str (Str.ofString "__weakref__") 681), (Value.ref 357), (Value.builtin "ExceptionGroup.__weakref__"), Value.none]) #[])
noncomputable def o_360 : Params → Obj := fun _ => (Obj.mk (Value.type "super") none (Data.fields #[(Value.ref 357), (Value.ref 357), (Value.ref 357)]) #[])
noncomputable def o_361 : Params → Obj := fun _ => (Obj.mk (Value.type "builtin_function_or_method") none (Data.fields #[(Value.builtin "object.__init_subclass__"), (Value.ref 357)]) #[])
noncomputable def o_362 : Params → Obj := fun _ => (Obj.mk (Value.type "tuple") none (Data.seq #[] 0) #[])
noncomputable def o_363 : Params → Obj := fun _ => (Obj.mk Value.none none (Data.fields #[]) #[])
noncomputable def o_364 : Params → Obj := fun _ => (Obj.mk (Value.type "tuple") none (Data.seq #[(Value.str (Str.ofString "world") 689), (Value.str (Str.ofString "text") 690)] 0) #[])
noncomputable def o_365 : Params → Obj := fun _ => (Obj.mk (Value.type "tuple") none (Data.seq #[] 0) #[])
noncomputable def o_366 : Params → Obj := fun _ => (Obj.mk Value.none none (Data.func (FuncData.mk (Str.ofString "check_length") (Str.ofString "check_length") (dArgs (stOf 43)) (FuncBody.stmts (dBody (stOf 43))) (dScope (stOf 43)) 0 [] Value.none Value.none Value.none Value.none none Value.none Value.none 0)) #[])
noncomputable def o_367 : Params → Obj := fun _ => (Obj.mk (Value.type "code") none (Data.fields #[(Value.str (Str.ofString "check_length") 686), (Value.str (Str.ofString "check_length") 687), (Value.str (Str.ofString "/claim/cut.py") 688), (Value.int (207 : Int) 0), (Value.int (2 : Int) 0), (Value.int (0 : Int) 0), (Value.int (0 : Int) 0), (Value.int (3 : Int) 0), (Value.ref 362), (Value.bool Bool.true), (Value.int (181 : Int) 0), (Value.ref 363), Value.none, (Value.ref 364), (Value.ref 365), (Value.ref 366), (Value.int (691 : Int) 0), (Value.int (207 : Int) 0), (Value.str (Str.ofString "/claim/cut.py") 692)]) #[])
noncomputable def o_368 : Params → Obj := fun _ => (Obj.mk (Value.type "function") none (Data.func (FuncData.mk (Str.ofString "check_length") (Str.ofString "check_length") ((by exact fun x _ => x : (x : Arguments) → x = (dArgs (stOf 43)) → Arguments) _ (by conv => rhs; whnf)) (FuncBody.stmts ((by exact fun x _ => x : (x : List Stmt) → x = (dBody (stOf 43)) → List Stmt) _ (by conv => rhs; whnf))) ((by exact fun x _ => x : (x : Scope) → x = (dScope (stOf 43)) → Scope) _ (by conv => rhs; whnf)) 3 [] Value.none Value.none Value.none (Value.str (Str.ofString "snobol.world") 623) none (Value.ref 367) Value.none 0)) #[])
noncomputable def o_369 : Params → Obj := fun _ => (Obj.mk (Value.type "tuple") none (Data.seq #[] 0) #[])
noncomputable def o_370 : Params → Obj := fun _ => (Obj.mk Value.none none (Data.fields #[]) #[])
noncomputable def o_371 : Params → Obj := fun _ => (Obj.mk (Value.type "tuple") none (Data.seq #[(Value.str (Str.ofString "value") 699)] 0) #[])
noncomputable def o_372 : Params → Obj := fun _ => (Obj.mk (Value.type "tuple") none (Data.seq #[] 0) #[])
noncomputable def o_373 : Params → Obj := fun _ => (Obj.mk Value.none none (Data.func (FuncData.mk (Str.ofString "is_part") (Str.ofString "is_part") (dArgs (stOf 45)) (FuncBody.stmts (dBody (stOf 45))) (dScope (stOf 45)) 0 [] Value.none Value.none Value.none Value.none none Value.none Value.none 0)) #[])
noncomputable def o_374 : Params → Obj := fun _ => (Obj.mk (Value.type "code") none (Data.fields #[(Value.str (Str.ofString "is_part") 696), (Value.str (Str.ofString "is_part") 697), (Value.str (Str.ofString "/claim/cut.py") 698), (Value.int (212 : Int) 0), (Value.int (1 : Int) 0), (Value.int (0 : Int) 0), (Value.int (0 : Int) 0), (Value.int (3 : Int) 0), (Value.ref 369), (Value.bool Bool.true), (Value.int (181 : Int) 0), (Value.ref 370), Value.none, (Value.ref 371), (Value.ref 372), (Value.ref 373), (Value.int (700 : Int) 0), (Value.int (212 : Int) 0), (Value.str (Str.ofString "/claim/cut.py") 701)]) #[])
noncomputable def o_375 : Params → Obj := fun _ => (Obj.mk (Value.type "function") none (Data.func (FuncData.mk (Str.ofString "is_part") (Str.ofString "is_part") ((by exact fun x _ => x : (x : Arguments) → x = (dArgs (stOf 45)) → Arguments) _ (by conv => rhs; whnf)) (FuncBody.stmts ((by exact fun x _ => x : (x : List Stmt) → x = (dBody (stOf 45)) → List Stmt) _ (by conv => rhs; whnf))) ((by exact fun x _ => x : (x : Scope) → x = (dScope (stOf 45)) → Scope) _ (by conv => rhs; whnf)) 3 [] Value.none Value.none Value.none (Value.str (Str.ofString "snobol.operators") 694) none (Value.ref 374) Value.none 0)) #[])
noncomputable def o_376 : Params → Obj := fun _ => (Obj.mk (Value.type "tuple") none (Data.seq #[] 0) #[])
noncomputable def o_377 : Params → Obj := fun _ => (Obj.mk Value.none none (Data.fields #[]) #[])
noncomputable def o_378 : Params → Obj := fun _ => (Obj.mk (Value.type "tuple") none (Data.seq #[(Value.str (Str.ofString "world") 706), (Value.str (Str.ofString "one") 707), (Value.str (Str.ofString "other") 708)] 0) #[])
noncomputable def o_379 : Params → Obj := fun _ => (Obj.mk (Value.type "tuple") none (Data.seq #[] 0) #[])
noncomputable def o_380 : Params → Obj := fun _ => (Obj.mk Value.none none (Data.func (FuncData.mk (Str.ofString "join_values") (Str.ofString "join_values") (dArgs (stOf 46)) (FuncBody.stmts (dBody (stOf 46))) (dScope (stOf 46)) 0 [] Value.none Value.none Value.none Value.none none Value.none Value.none 0)) #[])
noncomputable def o_381 : Params → Obj := fun _ => (Obj.mk (Value.type "code") none (Data.fields #[(Value.str (Str.ofString "join_values") 703), (Value.str (Str.ofString "join_values") 704), (Value.str (Str.ofString "/claim/cut.py") 705), (Value.int (214 : Int) 0), (Value.int (3 : Int) 0), (Value.int (0 : Int) 0), (Value.int (0 : Int) 0), (Value.int (3 : Int) 0), (Value.ref 376), (Value.bool Bool.true), (Value.int (181 : Int) 0), (Value.ref 377), Value.none, (Value.ref 378), (Value.ref 379), (Value.ref 380), (Value.int (709 : Int) 0), (Value.int (214 : Int) 0), (Value.str (Str.ofString "/claim/cut.py") 710)]) #[])
noncomputable def o_382 : Params → Obj := fun _ => (Obj.mk (Value.type "function") none (Data.func (FuncData.mk (Str.ofString "join_values") (Str.ofString "join_values") ((by exact fun x _ => x : (x : Arguments) → x = (dArgs (stOf 46)) → Arguments) _ (by conv => rhs; whnf)) (FuncBody.stmts ((by exact fun x _ => x : (x : List Stmt) → x = (dBody (stOf 46)) → List Stmt) _ (by conv => rhs; whnf))) ((by exact fun x _ => x : (x : Scope) → x = (dScope (stOf 46)) → Scope) _ (by conv => rhs; whnf)) 3 [] Value.none Value.none Value.none (Value.str (Str.ofString "snobol.operators") 694) none (Value.ref 381) Value.none 0)) #[])
noncomputable def o_383 : Params → Obj := fun _ => (Obj.mk (Value.type "tuple") none (Data.seq #[] 0) #[])
noncomputable def o_384 : Params → Obj := fun _ => (Obj.mk Value.none none (Data.fields #[]) #[])
noncomputable def o_385 : Params → Obj := fun _ => (Obj.mk (Value.type "tuple") none (Data.seq #[(Value.str (Str.ofString "word") 717), (Value.str (Str.ofString "size") 718)] 0) #[])
noncomputable def o_386 : Params → Obj := fun _ => (Obj.mk (Value.type "tuple") none (Data.seq #[] 0) #[])
noncomputable def o_387 : Params → Obj := fun _ => (Obj.mk Value.none none (Data.func (FuncData.mk (Str.ofString "_law_root") (Str.ofString "_law_root") (dArgs (stOf 48)) (FuncBody.stmts (dBody (stOf 48))) (dScope (stOf 48)) 0 [] Value.none Value.none Value.none Value.none none Value.none Value.none 0)) #[])
noncomputable def o_388 : Params → Obj := fun _ => (Obj.mk (Value.type "code") none (Data.fields #[(Value.str (Str.ofString "_law_root") 714), (Value.str (Str.ofString "_law_root") 715), (Value.str (Str.ofString "/claim/cut.py") 716), (Value.int (225 : Int) 0), (Value.int (1 : Int) 0), (Value.int (0 : Int) 0), (Value.int (0 : Int) 0), (Value.int (3 : Int) 0), (Value.ref 383), (Value.bool Bool.true), (Value.int (181 : Int) 0), (Value.ref 384), Value.none, (Value.ref 385), (Value.ref 386), (Value.ref 387), (Value.int (719 : Int) 0), (Value.int (225 : Int) 0), (Value.str (Str.ofString "/claim/cut.py") 720)]) #[])
noncomputable def o_389 : Params → Obj := fun _ => (Obj.mk (Value.type "function") none (Data.func (FuncData.mk (Str.ofString "_law_root") (Str.ofString "_law_root") ((by exact fun x _ => x : (x : Arguments) → x = (dArgs (stOf 48)) → Arguments) _ (by conv => rhs; whnf)) (FuncBody.stmts ((by exact fun x _ => x : (x : List Stmt) → x = (dBody (stOf 48)) → List Stmt) _ (by conv => rhs; whnf))) ((by exact fun x _ => x : (x : Scope) → x = (dScope (stOf 48)) → Scope) _ (by conv => rhs; whnf)) 3 [] Value.none Value.none Value.none (Value.str (Str.ofString "law_tk0107_01") 712) none (Value.ref 388) Value.none 0)) #[])
noncomputable def o_390 : Params → Obj := fun _ => (Obj.mk (Value.type "tuple") none (Data.seq #[] 0) #[])
noncomputable def o_391 : Params → Obj := fun _ => (Obj.mk Value.none none (Data.fields #[]) #[])
noncomputable def o_392 : Params → Obj := fun _ => (Obj.mk Value.none none (Data.func (FuncData.mk (Str.ofString "law") (Str.ofString "law") (dArgs (stOf 49)) (FuncBody.stmts (dBody (stOf 49))) (dScope (stOf 49)) 0 [] Value.none Value.none Value.none Value.none none Value.none Value.none 0)) #[])
noncomputable def o_393 : Params → Obj := fun _ => (Obj.mk (Value.type "code") none (Data.fields #[(Value.str (Str.ofString "law") 722), (Value.str (Str.ofString "law") 723), (Value.str (Str.ofString "/claim/cut.py") 724), (Value.int (230 : Int) 0), (Value.int (1 : Int) 0), (Value.int (0 : Int) 0), (Value.int (0 : Int) 0), (Value.int (3 : Int) 0), (Value.ref 390), (Value.bool Bool.true), (Value.int (181 : Int) 0), (Value.ref 391), Value.none, Value.none, Value.none, (Value.ref 392), (Value.int (725 : Int) 0), (Value.int (230 : Int) 0), (Value.str (Str.ofString "/claim/cut.py") 726)]) #[])
noncomputable def o_394 : Params → Obj := fun _ => (Obj.mk (Value.type "function") none (Data.func (FuncData.mk (Str.ofString "law") (Str.ofString "law") ((by exact fun x _ => x : (x : Arguments) → x = (dArgs (stOf 49)) → Arguments) _ (by conv => rhs; whnf)) (FuncBody.stmts ((by exact fun x _ => x : (x : List Stmt) → x = (dBody (stOf 49)) → List Stmt) _ (by conv => rhs; whnf))) ((by exact fun x _ => x : (x : Scope) → x = (dScope (stOf 49)) → Scope) _ (by conv => rhs; whnf)) 3 [] Value.none Value.none Value.none (Value.str (Str.ofString "law_tk0107_01") 712) none (Value.ref 393) Value.none 0)) #[])
noncomputable def o_12_a : Params → Obj := fun _ => (Obj.mk Value.none none (Data.fields #[]) #[])
noncomputable def o_3_g0 : Params → Obj := fun P => (Obj.mk (Value.type "dict") none (Data.dict #[(DictEntry.mk (PyData.keyHash P (Str.ofString "__name__")) (Value.str (Str.ofString "__name__") 165) (Value.str (Str.ofString "snobol.values") 187)), (DictEntry.mk (PyData.keyHash P (Str.ofString "__doc__")) (Value.str (Str.ofString "__doc__") 166) Value.none), (DictEntry.mk (PyData.keyHash P (Str.ofString "__package__")) (Value.str (Str.ofString "__package__") 167) Value.none), (DictEntry.mk (PyData.keyHash P (Str.ofString "__loader__")) (Value.str (Str.ofString "__loader__") 168) (Value.builtin "__main__.__loader__#opaque")), (DictEntry.mk (PyData.keyHash P (Str.ofString "__spec__")) (Value.str (Str.ofString "__spec__") 169) Value.none), (DictEntry.mk (PyData.keyHash P (Str.ofString "__annotations__")) (Value.str (Str.ofString "__annotations__") 170) (Value.ref 6)), (DictEntry.mk (PyData.keyHash P (Str.ofString "__builtins__")) (Value.str (Str.ofString "__builtins__") 171) (Value.ref 4)), (DictEntry.mk (PyData.keyHash P (Str.ofString "__file__")) (Value.str (Str.ofString "__file__") 173) (Value.str (Str.ofString "/claim/cut.py") 172)), (DictEntry.mk (PyData.keyHash P (Str.ofString "__cached__")) (Value.str (Str.ofString "__cached__") 174) Value.none), (DictEntry.mk (PyData.keyHash P (Str.ofString "SnobolError")) (Value.str (Str.ofString "SnobolError") 222) (Value.ref 34)), (DictEntry.mk (PyData.keyHash P (Str.ofString "Failure")) (Value.str (Str.ofString "Failure") 242) (Value.ref 47)), (DictEntry.mk (PyData.keyHash P (Str.ofString "Pattern")) (Value.str (Str.ofString "Pattern") 271) (Value.ref 68))] 12) #[])
noncomputable def o_12_g0 : Params → Obj := fun _ => (Obj.mk Value.none none (Data.fields #[(Value.int (2 : Int) 0), (Value.int (0 : Int) 0), (Value.ref 21), (Value.int (8 : Int) 0), (Value.int (0 : Int) 0), (Value.ref 43), (Value.int (10 : Int) 0), (Value.int (0 : Int) 0), (Value.ref 57)]) #[])
noncomputable def o_3_g1 : Params → Obj := fun P => (Obj.mk (Value.type "dict") none (Data.dict #[(DictEntry.mk (PyData.keyHash P (Str.ofString "__name__")) (Value.str (Str.ofString "__name__") 165) (Value.str (Str.ofString "snobol.values") 187)), (DictEntry.mk (PyData.keyHash P (Str.ofString "__doc__")) (Value.str (Str.ofString "__doc__") 166) Value.none), (DictEntry.mk (PyData.keyHash P (Str.ofString "__package__")) (Value.str (Str.ofString "__package__") 167) Value.none), (DictEntry.mk (PyData.keyHash P (Str.ofString "__loader__")) (Value.str (Str.ofString "__loader__") 168) (Value.builtin "__main__.__loader__#opaque")), (DictEntry.mk (PyData.keyHash P (Str.ofString "__spec__")) (Value.str (Str.ofString "__spec__") 169) Value.none), (DictEntry.mk (PyData.keyHash P (Str.ofString "__annotations__")) (Value.str (Str.ofString "__annotations__") 170) (Value.ref 6)), (DictEntry.mk (PyData.keyHash P (Str.ofString "__builtins__")) (Value.str (Str.ofString "__builtins__") 171) (Value.ref 4)), (DictEntry.mk (PyData.keyHash P (Str.ofString "__file__")) (Value.str (Str.ofString "__file__") 173) (Value.str (Str.ofString "/claim/cut.py") 172)), (DictEntry.mk (PyData.keyHash P (Str.ofString "__cached__")) (Value.str (Str.ofString "__cached__") 174) Value.none), (DictEntry.mk (PyData.keyHash P (Str.ofString "SnobolError")) (Value.str (Str.ofString "SnobolError") 222) (Value.ref 34)), (DictEntry.mk (PyData.keyHash P (Str.ofString "Failure")) (Value.str (Str.ofString "Failure") 242) (Value.ref 47)), (DictEntry.mk (PyData.keyHash P (Str.ofString "Pattern")) (Value.str (Str.ofString "Pattern") 271) (Value.ref 68)), (DictEntry.mk (PyData.keyHash P (Str.ofString "Delayed")) (Value.str (Str.ofString "Delayed") 300) (Value.ref 89)), (DictEntry.mk (PyData.keyHash P (Str.ofString "Code")) (Value.str (Str.ofString "Code") 329) (Value.ref 110)), (DictEntry.mk (PyData.keyHash P (Str.ofString "NameRef")) (Value.str (Str.ofString "NameRef") 362) (Value.ref 131))] 15) #[])
noncomputable def o_12_g1 : Params → Obj := fun _ => (Obj.mk Value.none none (Data.fields #[(Value.int (2 : Int) 0), (Value.int (0 : Int) 0), (Value.ref 21), (Value.int (8 : Int) 0), (Value.int (0 : Int) 0), (Value.ref 43), (Value.int (10 : Int) 0), (Value.int (0 : Int) 0), (Value.ref 57), (Value.int (14 : Int) 0), (Value.int (0 : Int) 0), (Value.ref 78), (Value.int (18 : Int) 0), (Value.int (0 : Int) 0), (Value.ref 99), (Value.int (22 : Int) 0), (Value.int (0 : Int) 0), (Value.ref 120)]) #[])
noncomputable def o_3_g2 : Params → Obj := fun P => (Obj.mk (Value.type "dict") none (Data.dict #[(DictEntry.mk (PyData.keyHash P (Str.ofString "__name__")) (Value.str (Str.ofString "__name__") 165) (Value.str (Str.ofString "snobol.strings") 499)), (DictEntry.mk (PyData.keyHash P (Str.ofString "__doc__")) (Value.str (Str.ofString "__doc__") 166) Value.none), (DictEntry.mk (PyData.keyHash P (Str.ofString "__package__")) (Value.str (Str.ofString "__package__") 167) Value.none), (DictEntry.mk (PyData.keyHash P (Str.ofString "__loader__")) (Value.str (Str.ofString "__loader__") 168) (Value.builtin "__main__.__loader__#opaque")), (DictEntry.mk (PyData.keyHash P (Str.ofString "__spec__")) (Value.str (Str.ofString "__spec__") 169) Value.none), (DictEntry.mk (PyData.keyHash P (Str.ofString "__annotations__")) (Value.str (Str.ofString "__annotations__") 170) (Value.ref 6)), (DictEntry.mk (PyData.keyHash P (Str.ofString "__builtins__")) (Value.str (Str.ofString "__builtins__") 171) (Value.ref 4)), (DictEntry.mk (PyData.keyHash P (Str.ofString "__file__")) (Value.str (Str.ofString "__file__") 173) (Value.str (Str.ofString "/claim/cut.py") 172)), (DictEntry.mk (PyData.keyHash P (Str.ofString "__cached__")) (Value.str (Str.ofString "__cached__") 174) Value.none), (DictEntry.mk (PyData.keyHash P (Str.ofString "SnobolError")) (Value.str (Str.ofString "SnobolError") 222) (Value.ref 34)), (DictEntry.mk (PyData.keyHash P (Str.ofString "Failure")) (Value.str (Str.ofString "Failure") 242) (Value.ref 47)), (DictEntry.mk (PyData.keyHash P (Str.ofString "Pattern")) (Value.str (Str.ofString "Pattern") 271) (Value.ref 68)), (DictEntry.mk (PyData.keyHash P (Str.ofString "Delayed")) (Value.str (Str.ofString "Delayed") 300) (Value.ref 89)), (DictEntry.mk (PyData.keyHash P (Str.ofString "Code")) (Value.str (Str.ofString "Code") 329) (Value.ref 110)), (DictEntry.mk (PyData.keyHash P (Str.ofString "NameRef")) (Value.str (Str.ofString "NameRef") 362) (Value.ref 131)), (DictEntry.mk (PyData.keyHash P (Str.ofString "Holder")) (Value.str (Str.ofString "Holder") 394) (Value.ref 152)), (DictEntry.mk (PyData.keyHash P (Str.ofString "is_fail")) (Value.str (Str.ofString "is_fail") 401) (Value.ref 163)), (DictEntry.mk (PyData.keyHash P (Str.ofString "kind_of")) (Value.str (Str.ofString "kind_of") 408) (Value.ref 170)), (DictEntry.mk (PyData.keyHash P (Str.ofString "is_null")) (Value.str (Str.ofString "is_null") 415) (Value.ref 177)), (DictEntry.mk (PyData.keyHash P (Str.ofString "is_plain")) (Value.str (Str.ofString "is_plain") 422) (Value.ref 184)), (DictEntry.mk (PyData.keyHash P (Str.ofString "fits")) (Value.str (Str.ofString "fits") 430) (Value.ref 191)), (DictEntry.mk (PyData.keyHash P (Str.ofString "whole_of_text")) (Value.str (Str.ofString "whole_of_text") 441) (Value.ref 198)), (DictEntry.mk (PyData.keyHash P (Str.ofString "text_of_whole")) (Value.str (Str.ofString "text_of_whole") 450) (Value.ref 205)), (DictEntry.mk (PyData.keyHash P (Str.ofString "to_whole")) (Value.str (Str.ofString "to_whole") 458) (Value.ref 212)), (DictEntry.mk (PyData.keyHash P (Str.ofString "to_text")) (Value.str (Str.ofString "to_text") 465) (Value.ref 219)), (DictEntry.mk (PyData.keyHash P (Str.ofString "need_whole")) (Value.str (Str.ofString "need_whole") 474) (Value.ref 226)), (DictEntry.mk (PyData.keyHash P (Str.ofString "need_text")) (Value.str (Str.ofString "need_text") 482) (Value.ref 233)), (DictEntry.mk (PyData.keyHash P (Str.ofString "same_ref")) (Value.str (Str.ofString "same_ref") 490) (Value.ref 240)), (DictEntry.mk (PyData.keyHash P (Str.ofString "same_value")) (Value.str (Str.ofString "same_value") 498) (Value.ref 247)), (DictEntry.mk (PyData.keyHash P (Str.ofString "part_of")) (Value.str (Str.ofString "part_of") 509) (Value.ref 254)), (DictEntry.mk (PyData.keyHash P (Str.ofString "answer")) (Value.str (Str.ofString "answer") 516) (Value.ref 261)), (DictEntry.mk (PyData.keyHash P (Str.ofString "told_or_fail")) (Value.str (Str.ofString "told_or_fail") 523) (Value.ref 268)), (DictEntry.mk (PyData.keyHash P (Str.ofString "text_size")) (Value.str (Str.ofString "text_size") 531) (Value.ref 275)), (DictEntry.mk (PyData.keyHash P (Str.ofString "text_dupl")) (Value.str (Str.ofString "text_dupl") 541) (Value.ref 282))] 34) #[])
noncomputable def o_12_g2 : Params → Obj := fun _ => (Obj.mk Value.none none (Data.fields #[(Value.int (2 : Int) 0), (Value.int (0 : Int) 0), (Value.ref 21), (Value.int (8 : Int) 0), (Value.int (0 : Int) 0), (Value.ref 43), (Value.int (10 : Int) 0), (Value.int (0 : Int) 0), (Value.ref 57), (Value.int (14 : Int) 0), (Value.int (0 : Int) 0), (Value.ref 78), (Value.int (18 : Int) 0), (Value.int (0 : Int) 0), (Value.ref 99), (Value.int (22 : Int) 0), (Value.int (0 : Int) 0), (Value.ref 120), (Value.int (28 : Int) 0), (Value.int (0 : Int) 0), (Value.ref 141), (Value.int (34 : Int) 0), (Value.int (0 : Int) 0), (Value.ref 162), (Value.int (36 : Int) 0), (Value.int (0 : Int) 0), (Value.ref 169), (Value.int (50 : Int) 0), (Value.int (0 : Int) 0), (Value.ref 176), (Value.int (52 : Int) 0), (Value.int (0 : Int) 0), (Value.ref 183), (Value.int (54 : Int) 0), (Value.int (0 : Int) 0), (Value.ref 190), (Value.int (56 : Int) 0), (Value.int (0 : Int) 0), (Value.ref 197), (Value.int (69 : Int) 0), (Value.int (0 : Int) 0), (Value.ref 204), (Value.int (75 : Int) 0), (Value.int (0 : Int) 0), (Value.ref 211), (Value.int (79 : Int) 0), (Value.int (0 : Int) 0), (Value.ref 218), (Value.int (83 : Int) 0), (Value.int (0 : Int) 0), (Value.ref 225), (Value.int (88 : Int) 0), (Value.int (0 : Int) 0), (Value.ref 232), (Value.int (93 : Int) 0), (Value.int (0 : Int) 0), (Value.ref 239), (Value.int (99 : Int) 0), (Value.int (0 : Int) 0), (Value.ref 246), (Value.int (112 : Int) 0), (Value.int (0 : Int) 0), (Value.ref 253), (Value.int (118 : Int) 0), (Value.int (0 : Int) 0), (Value.ref 260), (Value.int (120 : Int) 0), (Value.int (0 : Int) 0), (Value.ref 267), (Value.int (122 : Int) 0), (Value.int (0 : Int) 0), (Value.ref 274), (Value.int (124 : Int) 0), (Value.int (0 : Int) 0), (Value.ref 281)]) #[])
noncomputable def topK : Params → Frag := fun P => (nat_lit 2, o_2 P) :: (nat_lit 3, o_3 P) :: (nat_lit 15, o_15 P) :: (nat_lit 18, o_18 P) :: (nat_lit 23, o_23 P) :: (nat_lit 24, o_24 P) :: (nat_lit 25, o_25 P) :: (nat_lit 27, o_27 P) :: (nat_lit 28, o_28 P) :: (nat_lit 30, o_30 P) :: (nat_lit 31, o_31 P) :: (nat_lit 32, o_32 P) :: (nat_lit 33, o_33 P) :: (nat_lit 34, o_34 P) :: (nat_lit 35, o_35 P) :: (nat_lit 45, o_45 P) :: (nat_lit 46, o_46 P) :: (nat_lit 47, o_47 P) :: (nat_lit 48, o_48 P) :: (nat_lit 49, o_49 P) :: (nat_lit 59, o_59 P) :: (nat_lit 61, o_61 P) :: (nat_lit 62, o_62 P) :: (nat_lit 64, o_64 P) :: (nat_lit 65, o_65 P) :: (nat_lit 66, o_66 P) :: (nat_lit 67, o_67 P) :: (nat_lit 68, o_68 P) :: (nat_lit 69, o_69 P) :: (nat_lit 70, o_70 P) :: (nat_lit 80, o_80 P) :: (nat_lit 82, o_82 P) :: (nat_lit 83, o_83 P) :: (nat_lit 85, o_85 P) :: (nat_lit 86, o_86 P) :: (nat_lit 87, o_87 P) :: (nat_lit 88, o_88 P) :: (nat_lit 89, o_89 P) :: (nat_lit 90, o_90 P) :: (nat_lit 91, o_91 P) :: (nat_lit 101, o_101 P) :: (nat_lit 103, o_103 P) :: (nat_lit 104, o_104 P) :: (nat_lit 106, o_106 P) :: (nat_lit 107, o_107 P) :: (nat_lit 108, o_108 P) :: (nat_lit 109, o_109 P) :: (nat_lit 110, o_110 P) :: (nat_lit 111, o_111 P) :: (nat_lit 112, o_112 P) :: (nat_lit 122, o_122 P) :: (nat_lit 124, o_124 P) :: (nat_lit 125, o_125 P) :: (nat_lit 127, o_127 P) :: (nat_lit 128, o_128 P) :: (nat_lit 129, o_129 P) :: (nat_lit 130, o_130 P) :: (nat_lit 131, o_131 P) :: (nat_lit 132, o_132 P) :: (nat_lit 133, o_133 P) :: (nat_lit 143, o_143 P) :: (nat_lit 145, o_145 P) :: (nat_lit 146, o_146 P) :: (nat_lit 148, o_148 P) :: (nat_lit 149, o_149 P) :: (nat_lit 150, o_150 P) :: (nat_lit 151, o_151 P) :: (nat_lit 152, o_152 P) :: (nat_lit 153, o_153 P) :: (nat_lit 154, o_154 P) :: (nat_lit 157, o_157 P) :: (nat_lit 159, o_159 P) :: (nat_lit 160, o_160 P) :: (nat_lit 162, o_162 P) :: (nat_lit 163, o_163 P) :: (nat_lit 164, o_164 P) :: (nat_lit 166, o_166 P) :: (nat_lit 167, o_167 P) :: (nat_lit 169, o_169 P) :: (nat_lit 170, o_170 P) :: (nat_lit 171, o_171 P) :: (nat_lit 173, o_173 P) :: (nat_lit 174, o_174 P) :: (nat_lit 176, o_176 P) :: (nat_lit 177, o_177 P) :: (nat_lit 178, o_178 P) :: (nat_lit 180, o_180 P) :: (nat_lit 181, o_181 P) :: (nat_lit 183, o_183 P) :: (nat_lit 184, o_184 P) :: (nat_lit 185, o_185 P) :: (nat_lit 187, o_187 P) :: (nat_lit 188, o_188 P) :: (nat_lit 190, o_190 P) :: (nat_lit 191, o_191 P) :: (nat_lit 192, o_192 P) :: (nat_lit 194, o_194 P) :: (nat_lit 195, o_195 P) :: (nat_lit 197, o_197 P) :: (nat_lit 198, o_198 P) :: (nat_lit 199, o_199 P) :: (nat_lit 201, o_201 P) :: (nat_lit 202, o_202 P) :: (nat_lit 204, o_204 P) :: (nat_lit 205, o_205 P) :: (nat_lit 206, o_206 P) :: (nat_lit 208, o_208 P) :: (nat_lit 209, o_209 P) :: (nat_lit 211, o_211 P) :: (nat_lit 212, o_212 P) :: (nat_lit 213, o_213 P) :: (nat_lit 215, o_215 P) :: (nat_lit 216, o_216 P) :: (nat_lit 218, o_218 P) :: (nat_lit 219, o_219 P) :: (nat_lit 220, o_220 P) :: (nat_lit 222, o_222 P) :: (nat_lit 223, o_223 P) :: (nat_lit 225, o_225 P) :: (nat_lit 226, o_226 P) :: (nat_lit 227, o_227 P) :: (nat_lit 229, o_229 P) :: (nat_lit 230, o_230 P) :: (nat_lit 232, o_232 P) :: (nat_lit 233, o_233 P) :: (nat_lit 234, o_234 P) :: (nat_lit 236, o_236 P) :: (nat_lit 237, o_237 P) :: (nat_lit 239, o_239 P) :: (nat_lit 240, o_240 P) :: (nat_lit 241, o_241 P) :: (nat_lit 243, o_243 P) :: (nat_lit 244, o_244 P) :: (nat_lit 246, o_246 P) :: (nat_lit 247, o_247 P) :: (nat_lit 248, o_248 P) :: (nat_lit 250, o_250 P) :: (nat_lit 251, o_251 P) :: (nat_lit 253, o_253 P) :: (nat_lit 254, o_254 P) :: (nat_lit 255, o_255 P) :: (nat_lit 257, o_257 P) :: (nat_lit 258, o_258 P) :: (nat_lit 260, o_260 P) :: (nat_lit 261, o_261 P) :: (nat_lit 262, o_262 P) :: (nat_lit 264, o_264 P) :: (nat_lit 265, o_265 P) :: (nat_lit 267, o_267 P) :: (nat_lit 268, o_268 P) :: (nat_lit 269, o_269 P) :: (nat_lit 271, o_271 P) :: (nat_lit 272, o_272 P) :: (nat_lit 274, o_274 P) :: (nat_lit 275, o_275 P) :: (nat_lit 276, o_276 P) :: (nat_lit 278, o_278 P) :: (nat_lit 279, o_279 P) :: (nat_lit 281, o_281 P) :: (nat_lit 282, o_282 P) :: (nat_lit 283, o_283 P) :: (nat_lit 285, o_285 P) :: (nat_lit 286, o_286 P) :: (nat_lit 288, o_288 P) :: (nat_lit 289, o_289 P) :: (nat_lit 290, o_290 P) :: (nat_lit 292, o_292 P) :: (nat_lit 293, o_293 P) :: (nat_lit 295, o_295 P) :: (nat_lit 296, o_296 P) :: (nat_lit 297, o_297 P) :: (nat_lit 299, o_299 P) :: (nat_lit 300, o_300 P) :: (nat_lit 302, o_302 P) :: (nat_lit 303, o_303 P) :: (nat_lit 304, o_304 P) :: (nat_lit 305, o_305 P) :: (nat_lit 307, o_307 P) :: (nat_lit 308, o_308 P) :: (nat_lit 310, o_310 P) :: (nat_lit 311, o_311 P) :: (nat_lit 312, o_312 P) :: (nat_lit 314, o_314 P) :: (nat_lit 315, o_315 P) :: (nat_lit 317, o_317 P) :: (nat_lit 318, o_318 P) :: (nat_lit 319, o_319 P) :: (nat_lit 321, o_321 P) :: (nat_lit 322, o_322 P) :: (nat_lit 324, o_324 P) :: (nat_lit 325, o_325 P) :: (nat_lit 326, o_326 P) :: (nat_lit 328, o_328 P) :: (nat_lit 329, o_329 P) :: (nat_lit 331, o_331 P) :: (nat_lit 332, o_332 P) :: (nat_lit 333, o_333 P) :: (nat_lit 335, o_335 P) :: (nat_lit 336, o_336 P) :: (nat_lit 338, o_338 P) :: (nat_lit 339, o_339 P) :: (nat_lit 347, o_347 P) :: (nat_lit 348, o_348 P) :: (nat_lit 350, o_350 P) :: (nat_lit 351, o_351 P) :: (nat_lit 353, o_353 P) :: (nat_lit 354, o_354 P) :: (nat_lit 355, o_355 P) :: (nat_lit 356, o_356 P) :: (nat_lit 357, o_357 P) :: (nat_lit 358, o_358 P) :: (nat_lit 359, o_359 P) :: (nat_lit 362, o_362 P) :: (nat_lit 364, o_364 P) :: (nat_lit 365, o_365 P) :: (nat_lit 367, o_367 P) :: (nat_lit 368, o_368 P) :: (nat_lit 369, o_369 P) :: (nat_lit 371, o_371 P) :: (nat_lit 372, o_372 P) :: (nat_lit 374, o_374 P) :: (nat_lit 375, o_375 P) :: (nat_lit 376, o_376 P) :: (nat_lit 378, o_378 P) :: (nat_lit 379, o_379 P) :: (nat_lit 381, o_381 P) :: (nat_lit 382, o_382 P) :: (nat_lit 383, o_383 P) :: (nat_lit 385, o_385 P) :: (nat_lit 386, o_386 P) :: (nat_lit 388, o_388 P) :: (nat_lit 389, o_389 P) :: (nat_lit 390, o_390 P) :: (nat_lit 393, o_393 P) :: (nat_lit 394, o_394 P) :: []
noncomputable def kAs : List Addr := nat_lit 2 :: nat_lit 3 :: nat_lit 15 :: nat_lit 18 :: nat_lit 23 :: nat_lit 24 :: nat_lit 25 :: nat_lit 27 :: nat_lit 28 :: nat_lit 30 :: nat_lit 31 :: nat_lit 32 :: nat_lit 33 :: nat_lit 34 :: nat_lit 35 :: nat_lit 45 :: nat_lit 46 :: nat_lit 47 :: nat_lit 48 :: nat_lit 49 :: nat_lit 59 :: nat_lit 61 :: nat_lit 62 :: nat_lit 64 :: nat_lit 65 :: nat_lit 66 :: nat_lit 67 :: nat_lit 68 :: nat_lit 69 :: nat_lit 70 :: nat_lit 80 :: nat_lit 82 :: nat_lit 83 :: nat_lit 85 :: nat_lit 86 :: nat_lit 87 :: nat_lit 88 :: nat_lit 89 :: nat_lit 90 :: nat_lit 91 :: nat_lit 101 :: nat_lit 103 :: nat_lit 104 :: nat_lit 106 :: nat_lit 107 :: nat_lit 108 :: nat_lit 109 :: nat_lit 110 :: nat_lit 111 :: nat_lit 112 :: nat_lit 122 :: nat_lit 124 :: nat_lit 125 :: nat_lit 127 :: nat_lit 128 :: nat_lit 129 :: nat_lit 130 :: nat_lit 131 :: nat_lit 132 :: nat_lit 133 :: nat_lit 143 :: nat_lit 145 :: nat_lit 146 :: nat_lit 148 :: nat_lit 149 :: nat_lit 150 :: nat_lit 151 :: nat_lit 152 :: nat_lit 153 :: nat_lit 154 :: nat_lit 157 :: nat_lit 159 :: nat_lit 160 :: nat_lit 162 :: nat_lit 163 :: nat_lit 164 :: nat_lit 166 :: nat_lit 167 :: nat_lit 169 :: nat_lit 170 :: nat_lit 171 :: nat_lit 173 :: nat_lit 174 :: nat_lit 176 :: nat_lit 177 :: nat_lit 178 :: nat_lit 180 :: nat_lit 181 :: nat_lit 183 :: nat_lit 184 :: nat_lit 185 :: nat_lit 187 :: nat_lit 188 :: nat_lit 190 :: nat_lit 191 :: nat_lit 192 :: nat_lit 194 :: nat_lit 195 :: nat_lit 197 :: nat_lit 198 :: nat_lit 199 :: nat_lit 201 :: nat_lit 202 :: nat_lit 204 :: nat_lit 205 :: nat_lit 206 :: nat_lit 208 :: nat_lit 209 :: nat_lit 211 :: nat_lit 212 :: nat_lit 213 :: nat_lit 215 :: nat_lit 216 :: nat_lit 218 :: nat_lit 219 :: nat_lit 220 :: nat_lit 222 :: nat_lit 223 :: nat_lit 225 :: nat_lit 226 :: nat_lit 227 :: nat_lit 229 :: nat_lit 230 :: nat_lit 232 :: nat_lit 233 :: nat_lit 234 :: nat_lit 236 :: nat_lit 237 :: nat_lit 239 :: nat_lit 240 :: nat_lit 241 :: nat_lit 243 :: nat_lit 244 :: nat_lit 246 :: nat_lit 247 :: nat_lit 248 :: nat_lit 250 :: nat_lit 251 :: nat_lit 253 :: nat_lit 254 :: nat_lit 255 :: nat_lit 257 :: nat_lit 258 :: nat_lit 260 :: nat_lit 261 :: nat_lit 262 :: nat_lit 264 :: nat_lit 265 :: nat_lit 267 :: nat_lit 268 :: nat_lit 269 :: nat_lit 271 :: nat_lit 272 :: nat_lit 274 :: nat_lit 275 :: nat_lit 276 :: nat_lit 278 :: nat_lit 279 :: nat_lit 281 :: nat_lit 282 :: nat_lit 283 :: nat_lit 285 :: nat_lit 286 :: nat_lit 288 :: nat_lit 289 :: nat_lit 290 :: nat_lit 292 :: nat_lit 293 :: nat_lit 295 :: nat_lit 296 :: nat_lit 297 :: nat_lit 299 :: nat_lit 300 :: nat_lit 302 :: nat_lit 303 :: nat_lit 304 :: nat_lit 305 :: nat_lit 307 :: nat_lit 308 :: nat_lit 310 :: nat_lit 311 :: nat_lit 312 :: nat_lit 314 :: nat_lit 315 :: nat_lit 317 :: nat_lit 318 :: nat_lit 319 :: nat_lit 321 :: nat_lit 322 :: nat_lit 324 :: nat_lit 325 :: nat_lit 326 :: nat_lit 328 :: nat_lit 329 :: nat_lit 331 :: nat_lit 332 :: nat_lit 333 :: nat_lit 335 :: nat_lit 336 :: nat_lit 338 :: nat_lit 339 :: nat_lit 347 :: nat_lit 348 :: nat_lit 350 :: nat_lit 351 :: nat_lit 353 :: nat_lit 354 :: nat_lit 355 :: nat_lit 356 :: nat_lit 357 :: nat_lit 358 :: nat_lit 359 :: nat_lit 362 :: nat_lit 364 :: nat_lit 365 :: nat_lit 367 :: nat_lit 368 :: nat_lit 369 :: nat_lit 371 :: nat_lit 372 :: nat_lit 374 :: nat_lit 375 :: nat_lit 376 :: nat_lit 378 :: nat_lit 379 :: nat_lit 381 :: nat_lit 382 :: nat_lit 383 :: nat_lit 385 :: nat_lit 386 :: nat_lit 388 :: nat_lit 389 :: nat_lit 390 :: nat_lit 393 :: nat_lit 394 :: []
theorem kAs_ok : ∀ P, kAs = (topK P).map (·.1) := fun _ => by kernel_rfl
noncomputable def life0 : Life := (Life.mk [] [] [] 0 [] [] Bool.false #[] [] 0 Bool.false Bool.false Bool.false (0 : Int) [(2000 : Int), (10 : Int), (10 : Int)] Bool.false 0 Bool.true [] [] 0 Bool.false)
noncomputable def hA : Params → Heap := fun P => ⟨Array.mk (boot_o_0 P :: boot_o_1 P :: boot_o_2 P :: boot_o_3 P :: boot_o_4 P :: boot_o_5 P :: boot_o_6 P :: boot_o_7 P :: boot_o_8 P :: boot_o_9 P :: boot_o_10 P :: o_11 P :: o_12_a P :: o_13 P :: o_14 P :: []), life0⟩
noncomputable def hF : Params → Heap := fun P => ⟨Array.mk (boot_o_0 P :: boot_o_1 P :: o_2 P :: o_3 P :: boot_o_4 P :: boot_o_5 P :: boot_o_6 P :: boot_o_7 P :: boot_o_8 P :: boot_o_9 P :: boot_o_10 P :: o_11 P :: o_12 P :: o_13 P :: o_14 P :: o_15 P :: o_16 P :: o_17 P :: o_18 P :: o_19 P :: o_20 P :: o_21 P :: o_22 P :: o_23 P :: o_24 P :: o_25 P :: o_26 P :: o_27 P :: o_28 P :: o_29 P :: o_30 P :: o_31 P :: o_32 P :: o_33 P :: o_34 P :: o_35 P :: o_36 P :: o_37 P :: o_38 P :: o_39 P :: o_40 P :: o_41 P :: o_42 P :: o_43 P :: o_44 P :: o_45 P :: o_46 P :: o_47 P :: o_48 P :: o_49 P :: o_50 P :: o_51 P :: o_52 P :: o_53 P :: o_54 P :: o_55 P :: o_56 P :: o_57 P :: o_58 P :: o_59 P :: o_60 P :: o_61 P :: o_62 P :: o_63 P :: o_64 P :: o_65 P :: o_66 P :: o_67 P :: o_68 P :: o_69 P :: o_70 P :: o_71 P :: o_72 P :: o_73 P :: o_74 P :: o_75 P :: o_76 P :: o_77 P :: o_78 P :: o_79 P :: o_80 P :: o_81 P :: o_82 P :: o_83 P :: o_84 P :: o_85 P :: o_86 P :: o_87 P :: o_88 P :: o_89 P :: o_90 P :: o_91 P :: o_92 P :: o_93 P :: o_94 P :: o_95 P :: o_96 P :: o_97 P :: o_98 P :: o_99 P :: o_100 P :: o_101 P :: o_102 P :: o_103 P :: o_104 P :: o_105 P :: o_106 P :: o_107 P :: o_108 P :: o_109 P :: o_110 P :: o_111 P :: o_112 P :: o_113 P :: o_114 P :: o_115 P :: o_116 P :: o_117 P :: o_118 P :: o_119 P :: o_120 P :: o_121 P :: o_122 P :: o_123 P :: o_124 P :: o_125 P :: o_126 P :: o_127 P :: o_128 P :: o_129 P :: o_130 P :: o_131 P :: o_132 P :: o_133 P :: o_134 P :: o_135 P :: o_136 P :: o_137 P :: o_138 P :: o_139 P :: o_140 P :: o_141 P :: o_142 P :: o_143 P :: o_144 P :: o_145 P :: o_146 P :: o_147 P :: o_148 P :: o_149 P :: o_150 P :: o_151 P :: o_152 P :: o_153 P :: o_154 P :: o_155 P :: o_156 P :: o_157 P :: o_158 P :: o_159 P :: o_160 P :: o_161 P :: o_162 P :: o_163 P :: o_164 P :: o_165 P :: o_166 P :: o_167 P :: o_168 P :: o_169 P :: o_170 P :: o_171 P :: o_172 P :: o_173 P :: o_174 P :: o_175 P :: o_176 P :: o_177 P :: o_178 P :: o_179 P :: o_180 P :: o_181 P :: o_182 P :: o_183 P :: o_184 P :: o_185 P :: o_186 P :: o_187 P :: o_188 P :: o_189 P :: o_190 P :: o_191 P :: o_192 P :: o_193 P :: o_194 P :: o_195 P :: o_196 P :: o_197 P :: o_198 P :: o_199 P :: o_200 P :: o_201 P :: o_202 P :: o_203 P :: o_204 P :: o_205 P :: o_206 P :: o_207 P :: o_208 P :: o_209 P :: o_210 P :: o_211 P :: o_212 P :: o_213 P :: o_214 P :: o_215 P :: o_216 P :: o_217 P :: o_218 P :: o_219 P :: o_220 P :: o_221 P :: o_222 P :: o_223 P :: o_224 P :: o_225 P :: o_226 P :: o_227 P :: o_228 P :: o_229 P :: o_230 P :: o_231 P :: o_232 P :: o_233 P :: o_234 P :: o_235 P :: o_236 P :: o_237 P :: o_238 P :: o_239 P :: o_240 P :: o_241 P :: o_242 P :: o_243 P :: o_244 P :: o_245 P :: o_246 P :: o_247 P :: o_248 P :: o_249 P :: o_250 P :: o_251 P :: o_252 P :: o_253 P :: o_254 P :: o_255 P :: o_256 P :: o_257 P :: o_258 P :: o_259 P :: o_260 P :: o_261 P :: o_262 P :: o_263 P :: o_264 P :: o_265 P :: o_266 P :: o_267 P :: o_268 P :: o_269 P :: o_270 P :: o_271 P :: o_272 P :: o_273 P :: o_274 P :: o_275 P :: o_276 P :: o_277 P :: o_278 P :: o_279 P :: o_280 P :: o_281 P :: o_282 P :: o_283 P :: o_284 P :: o_285 P :: o_286 P :: o_287 P :: o_288 P :: o_289 P :: o_290 P :: o_291 P :: o_292 P :: o_293 P :: o_294 P :: o_295 P :: o_296 P :: o_297 P :: o_298 P :: o_299 P :: o_300 P :: o_301 P :: o_302 P :: o_303 P :: o_304 P :: o_305 P :: o_306 P :: o_307 P :: o_308 P :: o_309 P :: o_310 P :: o_311 P :: o_312 P :: o_313 P :: o_314 P :: o_315 P :: o_316 P :: o_317 P :: o_318 P :: o_319 P :: o_320 P :: o_321 P :: o_322 P :: o_323 P :: o_324 P :: o_325 P :: o_326 P :: o_327 P :: o_328 P :: o_329 P :: o_330 P :: o_331 P :: o_332 P :: o_333 P :: o_334 P :: o_335 P :: o_336 P :: o_337 P :: o_338 P :: o_339 P :: o_340 P :: o_341 P :: o_342 P :: o_343 P :: o_344 P :: o_345 P :: o_346 P :: o_347 P :: o_348 P :: o_349 P :: o_350 P :: o_351 P :: o_352 P :: o_353 P :: o_354 P :: o_355 P :: o_356 P :: o_357 P :: o_358 P :: o_359 P :: o_360 P :: o_361 P :: o_362 P :: o_363 P :: o_364 P :: o_365 P :: o_366 P :: o_367 P :: o_368 P :: o_369 P :: o_370 P :: o_371 P :: o_372 P :: o_373 P :: o_374 P :: o_375 P :: o_376 P :: o_377 P :: o_378 P :: o_379 P :: o_380 P :: o_381 P :: o_382 P :: o_383 P :: o_384 P :: o_385 P :: o_386 P :: o_387 P :: o_388 P :: o_389 P :: o_390 P :: o_391 P :: o_392 P :: o_393 P :: o_394 P :: []), life0⟩
noncomputable def tB : Params → BT := fun P => (.node (boot_o_0 P) (.node (boot_o_1 P) (.node (boot_o_3 P) (.node (boot_o_7 P) .nil .nil) (.node (o_11 P) .nil .nil)) (.node (boot_o_5 P) (.node (boot_o_9 P) .nil .nil) (.node (o_13 P) .nil .nil))) (.node (boot_o_2 P) (.node (boot_o_4 P) (.node (boot_o_8 P) .nil .nil) (.node (o_12_a P) .nil .nil)) (.node (boot_o_6 P) (.node (boot_o_10 P) .nil .nil) (.node (o_14 P) .nil .nil))))
noncomputable def t0 : Params → BT := fun P => (.node (boot_o_0 P) (.node (boot_o_1 P) (.node (o_3_g0 P) (.node (boot_o_7 P) (.node (o_15 P) (.node (o_31 P) (.node (o_63 P) .nil .nil) .nil) (.node (o_47 P) .nil .nil)) (.node (o_23 P) (.node (o_39 P) (.node (o_71 P) .nil .nil) .nil) (.node (o_55 P) .nil .nil))) (.node (o_11 P) (.node (o_19 P) (.node (o_35 P) (.node (o_67 P) .nil .nil) .nil) (.node (o_51 P) .nil .nil)) (.node (o_27 P) (.node (o_43 P) .nil .nil) (.node (o_59 P) .nil .nil)))) (.node (boot_o_5 P) (.node (boot_o_9 P) (.node (o_17 P) (.node (o_33 P) (.node (o_65 P) .nil .nil) .nil) (.node (o_49 P) .nil .nil)) (.node (o_25 P) (.node (o_41 P) .nil .nil) (.node (o_57 P) .nil .nil))) (.node (o_13 P) (.node (o_21 P) (.node (o_37 P) (.node (o_69 P) .nil .nil) .nil) (.node (o_53 P) .nil .nil)) (.node (o_29 P) (.node (o_45 P) .nil .nil) (.node (o_61 P) .nil .nil))))) (.node (o_2 P) (.node (boot_o_4 P) (.node (boot_o_8 P) (.node (o_16 P) (.node (o_32 P) (.node (o_64 P) .nil .nil) .nil) (.node (o_48 P) .nil .nil)) (.node (o_24 P) (.node (o_40 P) (.node (o_72 P) .nil .nil) .nil) (.node (o_56 P) .nil .nil))) (.node (o_12_g0 P) (.node (o_20 P) (.node (o_36 P) (.node (o_68 P) .nil .nil) .nil) (.node (o_52 P) .nil .nil)) (.node (o_28 P) (.node (o_44 P) .nil .nil) (.node (o_60 P) .nil .nil)))) (.node (boot_o_6 P) (.node (boot_o_10 P) (.node (o_18 P) (.node (o_34 P) (.node (o_66 P) .nil .nil) .nil) (.node (o_50 P) .nil .nil)) (.node (o_26 P) (.node (o_42 P) .nil .nil) (.node (o_58 P) .nil .nil))) (.node (o_14 P) (.node (o_22 P) (.node (o_38 P) (.node (o_70 P) .nil .nil) .nil) (.node (o_54 P) .nil .nil)) (.node (o_30 P) (.node (o_46 P) .nil .nil) (.node (o_62 P) .nil .nil))))))
noncomputable def t1 : Params → BT := fun P => (.node (boot_o_0 P) (.node (boot_o_1 P) (.node (o_3_g1 P) (.node (boot_o_7 P) (.node (o_15 P) (.node (o_31 P) (.node (o_63 P) (.node (o_127 P) .nil .nil) .nil) (.node (o_95 P) .nil .nil)) (.node (o_47 P) (.node (o_79 P) .nil .nil) (.node (o_111 P) .nil .nil))) (.node (o_23 P) (.node (o_39 P) (.node (o_71 P) (.node (o_135 P) .nil .nil) .nil) (.node (o_103 P) .nil .nil)) (.node (o_55 P) (.node (o_87 P) .nil .nil) (.node (o_119 P) .nil .nil)))) (.node (o_11 P) (.node (o_19 P) (.node (o_35 P) (.node (o_67 P) (.node (o_131 P) .nil .nil) .nil) (.node (o_99 P) .nil .nil)) (.node (o_51 P) (.node (o_83 P) .nil .nil) (.node (o_115 P) .nil .nil))) (.node (o_27 P) (.node (o_43 P) (.node (o_75 P) .nil .nil) (.node (o_107 P) .nil .nil)) (.node (o_59 P) (.node (o_91 P) .nil .nil) (.node (o_123 P) .nil .nil))))) (.node (boot_o_5 P) (.node (boot_o_9 P) (.node (o_17 P) (.node (o_33 P) (.node (o_65 P) (.node (o_129 P) .nil .nil) .nil) (.node (o_97 P) .nil .nil)) (.node (o_49 P) (.node (o_81 P) .nil .nil) (.node (o_113 P) .nil .nil))) (.node (o_25 P) (.node (o_41 P) (.node (o_73 P) .nil .nil) (.node (o_105 P) .nil .nil)) (.node (o_57 P) (.node (o_89 P) .nil .nil) (.node (o_121 P) .nil .nil)))) (.node (o_13 P) (.node (o_21 P) (.node (o_37 P) (.node (o_69 P) (.node (o_133 P) .nil .nil) .nil) (.node (o_101 P) .nil .nil)) (.node (o_53 P) (.node (o_85 P) .nil .nil) (.node (o_117 P) .nil .nil))) (.node (o_29 P) (.node (o_45 P) (.node (o_77 P) .nil .nil) (.node (o_109 P) .nil .nil)) (.node (o_61 P) (.node (o_93 P) .nil .nil) (.node (o_125 P) .nil .nil)))))) (.node (o_2 P) (.node (boot_o_4 P) (.node (boot_o_8 P) (.node (o_16 P) (.node (o_32 P) (.node (o_64 P) (.node (o_128 P) .nil .nil) .nil) (.node (o_96 P) .nil .nil)) (.node (o_48 P) (.node (o_80 P) .nil .nil) (.node (o_112 P) .nil .nil))) (.node (o_24 P) (.node (o_40 P) (.node (o_72 P) .nil .nil) (.node (o_104 P) .nil .nil)) (.node (o_56 P) (.node (o_88 P) .nil .nil) (.node (o_120 P) .nil .nil)))) (.node (o_12_g1 P) (.node (o_20 P) (.node (o_36 P) (.node (o_68 P) (.node (o_132 P) .nil .nil) .nil) (.node (o_100 P) .nil .nil)) (.node (o_52 P) (.node (o_84 P) .nil .nil) (.node (o_116 P) .nil .nil))) (.node (o_28 P) (.node (o_44 P) (.node (o_76 P) .nil .nil) (.node (o_108 P) .nil .nil)) (.node (o_60 P) (.node (o_92 P) .nil .nil) (.node (o_124 P) .nil .nil))))) (.node (boot_o_6 P) (.node (boot_o_10 P) (.node (o_18 P) (.node (o_34 P) (.node (o_66 P) (.node (o_130 P) .nil .nil) .nil) (.node (o_98 P) .nil .nil)) (.node (o_50 P) (.node (o_82 P) .nil .nil) (.node (o_114 P) .nil .nil))) (.node (o_26 P) (.node (o_42 P) (.node (o_74 P) .nil .nil) (.node (o_106 P) .nil .nil)) (.node (o_58 P) (.node (o_90 P) .nil .nil) (.node (o_122 P) .nil .nil)))) (.node (o_14 P) (.node (o_22 P) (.node (o_38 P) (.node (o_70 P) (.node (o_134 P) .nil .nil) .nil) (.node (o_102 P) .nil .nil)) (.node (o_54 P) (.node (o_86 P) .nil .nil) (.node (o_118 P) .nil .nil))) (.node (o_30 P) (.node (o_46 P) (.node (o_78 P) .nil .nil) (.node (o_110 P) .nil .nil)) (.node (o_62 P) (.node (o_94 P) .nil .nil) (.node (o_126 P) .nil .nil)))))))
noncomputable def t2 : Params → BT := fun P => (.node (boot_o_0 P) (.node (boot_o_1 P) (.node (o_3_g2 P) (.node (boot_o_7 P) (.node (o_15 P) (.node (o_31 P) (.node (o_63 P) (.node (o_127 P) (.node (o_255 P) .nil .nil) .nil) (.node (o_191 P) .nil .nil)) (.node (o_95 P) (.node (o_159 P) .nil .nil) (.node (o_223 P) .nil .nil))) (.node (o_47 P) (.node (o_79 P) (.node (o_143 P) (.node (o_271 P) .nil .nil) .nil) (.node (o_207 P) .nil .nil)) (.node (o_111 P) (.node (o_175 P) .nil .nil) (.node (o_239 P) .nil .nil)))) (.node (o_23 P) (.node (o_39 P) (.node (o_71 P) (.node (o_135 P) (.node (o_263 P) .nil .nil) .nil) (.node (o_199 P) .nil .nil)) (.node (o_103 P) (.node (o_167 P) .nil .nil) (.node (o_231 P) .nil .nil))) (.node (o_55 P) (.node (o_87 P) (.node (o_151 P) (.node (o_279 P) .nil .nil) .nil) (.node (o_215 P) .nil .nil)) (.node (o_119 P) (.node (o_183 P) .nil .nil) (.node (o_247 P) .nil .nil))))) (.node (o_11 P) (.node (o_19 P) (.node (o_35 P) (.node (o_67 P) (.node (o_131 P) (.node (o_259 P) .nil .nil) .nil) (.node (o_195 P) .nil .nil)) (.node (o_99 P) (.node (o_163 P) .nil .nil) (.node (o_227 P) .nil .nil))) (.node (o_51 P) (.node (o_83 P) (.node (o_147 P) (.node (o_275 P) .nil .nil) .nil) (.node (o_211 P) .nil .nil)) (.node (o_115 P) (.node (o_179 P) .nil .nil) (.node (o_243 P) .nil .nil)))) (.node (o_27 P) (.node (o_43 P) (.node (o_75 P) (.node (o_139 P) (.node (o_267 P) .nil .nil) .nil) (.node (o_203 P) .nil .nil)) (.node (o_107 P) (.node (o_171 P) .nil .nil) (.node (o_235 P) .nil .nil))) (.node (o_59 P) (.node (o_91 P) (.node (o_155 P) .nil .nil) (.node (o_219 P) .nil .nil)) (.node (o_123 P) (.node (o_187 P) .nil .nil) (.node (o_251 P) .nil .nil)))))) (.node (boot_o_5 P) (.node (boot_o_9 P) (.node (o_17 P) (.node (o_33 P) (.node (o_65 P) (.node (o_129 P) (.node (o_257 P) .nil .nil) .nil) (.node (o_193 P) .nil .nil)) (.node (o_97 P) (.node (o_161 P) .nil .nil) (.node (o_225 P) .nil .nil))) (.node (o_49 P) (.node (o_81 P) (.node (o_145 P) (.node (o_273 P) .nil .nil) .nil) (.node (o_209 P) .nil .nil)) (.node (o_113 P) (.node (o_177 P) .nil .nil) (.node (o_241 P) .nil .nil)))) (.node (o_25 P) (.node (o_41 P) (.node (o_73 P) (.node (o_137 P) (.node (o_265 P) .nil .nil) .nil) (.node (o_201 P) .nil .nil)) (.node (o_105 P) (.node (o_169 P) .nil .nil) (.node (o_233 P) .nil .nil))) (.node (o_57 P) (.node (o_89 P) (.node (o_153 P) (.node (o_281 P) .nil .nil) .nil) (.node (o_217 P) .nil .nil)) (.node (o_121 P) (.node (o_185 P) .nil .nil) (.node (o_249 P) .nil .nil))))) (.node (o_13 P) (.node (o_21 P) (.node (o_37 P) (.node (o_69 P) (.node (o_133 P) (.node (o_261 P) .nil .nil) .nil) (.node (o_197 P) .nil .nil)) (.node (o_101 P) (.node (o_165 P) .nil .nil) (.node (o_229 P) .nil .nil))) (.node (o_53 P) (.node (o_85 P) (.node (o_149 P) (.node (o_277 P) .nil .nil) .nil) (.node (o_213 P) .nil .nil)) (.node (o_117 P) (.node (o_181 P) .nil .nil) (.node (o_245 P) .nil .nil)))) (.node (o_29 P) (.node (o_45 P) (.node (o_77 P) (.node (o_141 P) (.node (o_269 P) .nil .nil) .nil) (.node (o_205 P) .nil .nil)) (.node (o_109 P) (.node (o_173 P) .nil .nil) (.node (o_237 P) .nil .nil))) (.node (o_61 P) (.node (o_93 P) (.node (o_157 P) .nil .nil) (.node (o_221 P) .nil .nil)) (.node (o_125 P) (.node (o_189 P) .nil .nil) (.node (o_253 P) .nil .nil))))))) (.node (o_2 P) (.node (boot_o_4 P) (.node (boot_o_8 P) (.node (o_16 P) (.node (o_32 P) (.node (o_64 P) (.node (o_128 P) (.node (o_256 P) .nil .nil) .nil) (.node (o_192 P) .nil .nil)) (.node (o_96 P) (.node (o_160 P) .nil .nil) (.node (o_224 P) .nil .nil))) (.node (o_48 P) (.node (o_80 P) (.node (o_144 P) (.node (o_272 P) .nil .nil) .nil) (.node (o_208 P) .nil .nil)) (.node (o_112 P) (.node (o_176 P) .nil .nil) (.node (o_240 P) .nil .nil)))) (.node (o_24 P) (.node (o_40 P) (.node (o_72 P) (.node (o_136 P) (.node (o_264 P) .nil .nil) .nil) (.node (o_200 P) .nil .nil)) (.node (o_104 P) (.node (o_168 P) .nil .nil) (.node (o_232 P) .nil .nil))) (.node (o_56 P) (.node (o_88 P) (.node (o_152 P) (.node (o_280 P) .nil .nil) .nil) (.node (o_216 P) .nil .nil)) (.node (o_120 P) (.node (o_184 P) .nil .nil) (.node (o_248 P) .nil .nil))))) (.node (o_12_g2 P) (.node (o_20 P) (.node (o_36 P) (.node (o_68 P) (.node (o_132 P) (.node (o_260 P) .nil .nil) .nil) (.node (o_196 P) .nil .nil)) (.node (o_100 P) (.node (o_164 P) .nil .nil) (.node (o_228 P) .nil .nil))) (.node (o_52 P) (.node (o_84 P) (.node (o_148 P) (.node (o_276 P) .nil .nil) .nil) (.node (o_212 P) .nil .nil)) (.node (o_116 P) (.node (o_180 P) .nil .nil) (.node (o_244 P) .nil .nil)))) (.node (o_28 P) (.node (o_44 P) (.node (o_76 P) (.node (o_140 P) (.node (o_268 P) .nil .nil) .nil) (.node (o_204 P) .nil .nil)) (.node (o_108 P) (.node (o_172 P) .nil .nil) (.node (o_236 P) .nil .nil))) (.node (o_60 P) (.node (o_92 P) (.node (o_156 P) .nil .nil) (.node (o_220 P) .nil .nil)) (.node (o_124 P) (.node (o_188 P) .nil .nil) (.node (o_252 P) .nil .nil)))))) (.node (boot_o_6 P) (.node (boot_o_10 P) (.node (o_18 P) (.node (o_34 P) (.node (o_66 P) (.node (o_130 P) (.node (o_258 P) .nil .nil) .nil) (.node (o_194 P) .nil .nil)) (.node (o_98 P) (.node (o_162 P) .nil .nil) (.node (o_226 P) .nil .nil))) (.node (o_50 P) (.node (o_82 P) (.node (o_146 P) (.node (o_274 P) .nil .nil) .nil) (.node (o_210 P) .nil .nil)) (.node (o_114 P) (.node (o_178 P) .nil .nil) (.node (o_242 P) .nil .nil)))) (.node (o_26 P) (.node (o_42 P) (.node (o_74 P) (.node (o_138 P) (.node (o_266 P) .nil .nil) .nil) (.node (o_202 P) .nil .nil)) (.node (o_106 P) (.node (o_170 P) .nil .nil) (.node (o_234 P) .nil .nil))) (.node (o_58 P) (.node (o_90 P) (.node (o_154 P) (.node (o_282 P) .nil .nil) .nil) (.node (o_218 P) .nil .nil)) (.node (o_122 P) (.node (o_186 P) .nil .nil) (.node (o_250 P) .nil .nil))))) (.node (o_14 P) (.node (o_22 P) (.node (o_38 P) (.node (o_70 P) (.node (o_134 P) (.node (o_262 P) .nil .nil) .nil) (.node (o_198 P) .nil .nil)) (.node (o_102 P) (.node (o_166 P) .nil .nil) (.node (o_230 P) .nil .nil))) (.node (o_54 P) (.node (o_86 P) (.node (o_150 P) (.node (o_278 P) .nil .nil) .nil) (.node (o_214 P) .nil .nil)) (.node (o_118 P) (.node (o_182 P) .nil .nil) (.node (o_246 P) .nil .nil)))) (.node (o_30 P) (.node (o_46 P) (.node (o_78 P) (.node (o_142 P) (.node (o_270 P) .nil .nil) .nil) (.node (o_206 P) .nil .nil)) (.node (o_110 P) (.node (o_174 P) .nil .nil) (.node (o_238 P) .nil .nil))) (.node (o_62 P) (.node (o_94 P) (.node (o_158 P) .nil .nil) (.node (o_222 P) .nil .nil)) (.node (o_126 P) (.node (o_190 P) .nil .nil) (.node (o_254 P) .nil .nil))))))))
noncomputable def t3 : Params → BT := fun P => (.node (boot_o_0 P) (.node (boot_o_1 P) (.node (o_3 P) (.node (boot_o_7 P) (.node (o_15 P) (.node (o_31 P) (.node (o_63 P) (.node (o_127 P) (.node (o_255 P) .nil .nil) (.node (o_383 P) .nil .nil)) (.node (o_191 P) (.node (o_319 P) .nil .nil) .nil)) (.node (o_95 P) (.node (o_159 P) (.node (o_287 P) .nil .nil) .nil) (.node (o_223 P) (.node (o_351 P) .nil .nil) .nil))) (.node (o_47 P) (.node (o_79 P) (.node (o_143 P) (.node (o_271 P) .nil .nil) .nil) (.node (o_207 P) (.node (o_335 P) .nil .nil) .nil)) (.node (o_111 P) (.node (o_175 P) (.node (o_303 P) .nil .nil) .nil) (.node (o_239 P) (.node (o_367 P) .nil .nil) .nil)))) (.node (o_23 P) (.node (o_39 P) (.node (o_71 P) (.node (o_135 P) (.node (o_263 P) .nil .nil) (.node (o_391 P) .nil .nil)) (.node (o_199 P) (.node (o_327 P) .nil .nil) .nil)) (.node (o_103 P) (.node (o_167 P) (.node (o_295 P) .nil .nil) .nil) (.node (o_231 P) (.node (o_359 P) .nil .nil) .nil))) (.node (o_55 P) (.node (o_87 P) (.node (o_151 P) (.node (o_279 P) .nil .nil) .nil) (.node (o_215 P) (.node (o_343 P) .nil .nil) .nil)) (.node (o_119 P) (.node (o_183 P) (.node (o_311 P) .nil .nil) .nil) (.node (o_247 P) (.node (o_375 P) .nil .nil) .nil))))) (.node (o_11 P) (.node (o_19 P) (.node (o_35 P) (.node (o_67 P) (.node (o_131 P) (.node (o_259 P) .nil .nil) (.node (o_387 P) .nil .nil)) (.node (o_195 P) (.node (o_323 P) .nil .nil) .nil)) (.node (o_99 P) (.node (o_163 P) (.node (o_291 P) .nil .nil) .nil) (.node (o_227 P) (.node (o_355 P) .nil .nil) .nil))) (.node (o_51 P) (.node (o_83 P) (.node (o_147 P) (.node (o_275 P) .nil .nil) .nil) (.node (o_211 P) (.node (o_339 P) .nil .nil) .nil)) (.node (o_115 P) (.node (o_179 P) (.node (o_307 P) .nil .nil) .nil) (.node (o_243 P) (.node (o_371 P) .nil .nil) .nil)))) (.node (o_27 P) (.node (o_43 P) (.node (o_75 P) (.node (o_139 P) (.node (o_267 P) .nil .nil) .nil) (.node (o_203 P) (.node (o_331 P) .nil .nil) .nil)) (.node (o_107 P) (.node (o_171 P) (.node (o_299 P) .nil .nil) .nil) (.node (o_235 P) (.node (o_363 P) .nil .nil) .nil))) (.node (o_59 P) (.node (o_91 P) (.node (o_155 P) (.node (o_283 P) .nil .nil) .nil) (.node (o_219 P) (.node (o_347 P) .nil .nil) .nil)) (.node (o_123 P) (.node (o_187 P) (.node (o_315 P) .nil .nil) .nil) (.node (o_251 P) (.node (o_379 P) .nil .nil) .nil)))))) (.node (boot_o_5 P) (.node (boot_o_9 P) (.node (o_17 P) (.node (o_33 P) (.node (o_65 P) (.node (o_129 P) (.node (o_257 P) .nil .nil) (.node (o_385 P) .nil .nil)) (.node (o_193 P) (.node (o_321 P) .nil .nil) .nil)) (.node (o_97 P) (.node (o_161 P) (.node (o_289 P) .nil .nil) .nil) (.node (o_225 P) (.node (o_353 P) .nil .nil) .nil))) (.node (o_49 P) (.node (o_81 P) (.node (o_145 P) (.node (o_273 P) .nil .nil) .nil) (.node (o_209 P) (.node (o_337 P) .nil .nil) .nil)) (.node (o_113 P) (.node (o_177 P) (.node (o_305 P) .nil .nil) .nil) (.node (o_241 P) (.node (o_369 P) .nil .nil) .nil)))) (.node (o_25 P) (.node (o_41 P) (.node (o_73 P) (.node (o_137 P) (.node (o_265 P) .nil .nil) (.node (o_393 P) .nil .nil)) (.node (o_201 P) (.node (o_329 P) .nil .nil) .nil)) (.node (o_105 P) (.node (o_169 P) (.node (o_297 P) .nil .nil) .nil) (.node (o_233 P) (.node (o_361 P) .nil .nil) .nil))) (.node (o_57 P) (.node (o_89 P) (.node (o_153 P) (.node (o_281 P) .nil .nil) .nil) (.node (o_217 P) (.node (o_345 P) .nil .nil) .nil)) (.node (o_121 P) (.node (o_185 P) (.node (o_313 P) .nil .nil) .nil) (.node (o_249 P) (.node (o_377 P) .nil .nil) .nil))))) (.node (o_13 P) (.node (o_21 P) (.node (o_37 P) (.node (o_69 P) (.node (o_133 P) (.node (o_261 P) .nil .nil) (.node (o_389 P) .nil .nil)) (.node (o_197 P) (.node (o_325 P) .nil .nil) .nil)) (.node (o_101 P) (.node (o_165 P) (.node (o_293 P) .nil .nil) .nil) (.node (o_229 P) (.node (o_357 P) .nil .nil) .nil))) (.node (o_53 P) (.node (o_85 P) (.node (o_149 P) (.node (o_277 P) .nil .nil) .nil) (.node (o_213 P) (.node (o_341 P) .nil .nil) .nil)) (.node (o_117 P) (.node (o_181 P) (.node (o_309 P) .nil .nil) .nil) (.node (o_245 P) (.node (o_373 P) .nil .nil) .nil)))) (.node (o_29 P) (.node (o_45 P) (.node (o_77 P) (.node (o_141 P) (.node (o_269 P) .nil .nil) .nil) (.node (o_205 P) (.node (o_333 P) .nil .nil) .nil)) (.node (o_109 P) (.node (o_173 P) (.node (o_301 P) .nil .nil) .nil) (.node (o_237 P) (.node (o_365 P) .nil .nil) .nil))) (.node (o_61 P) (.node (o_93 P) (.node (o_157 P) (.node (o_285 P) .nil .nil) .nil) (.node (o_221 P) (.node (o_349 P) .nil .nil) .nil)) (.node (o_125 P) (.node (o_189 P) (.node (o_317 P) .nil .nil) .nil) (.node (o_253 P) (.node (o_381 P) .nil .nil) .nil))))))) (.node (o_2 P) (.node (boot_o_4 P) (.node (boot_o_8 P) (.node (o_16 P) (.node (o_32 P) (.node (o_64 P) (.node (o_128 P) (.node (o_256 P) .nil .nil) (.node (o_384 P) .nil .nil)) (.node (o_192 P) (.node (o_320 P) .nil .nil) .nil)) (.node (o_96 P) (.node (o_160 P) (.node (o_288 P) .nil .nil) .nil) (.node (o_224 P) (.node (o_352 P) .nil .nil) .nil))) (.node (o_48 P) (.node (o_80 P) (.node (o_144 P) (.node (o_272 P) .nil .nil) .nil) (.node (o_208 P) (.node (o_336 P) .nil .nil) .nil)) (.node (o_112 P) (.node (o_176 P) (.node (o_304 P) .nil .nil) .nil) (.node (o_240 P) (.node (o_368 P) .nil .nil) .nil)))) (.node (o_24 P) (.node (o_40 P) (.node (o_72 P) (.node (o_136 P) (.node (o_264 P) .nil .nil) (.node (o_392 P) .nil .nil)) (.node (o_200 P) (.node (o_328 P) .nil .nil) .nil)) (.node (o_104 P) (.node (o_168 P) (.node (o_296 P) .nil .nil) .nil) (.node (o_232 P) (.node (o_360 P) .nil .nil) .nil))) (.node (o_56 P) (.node (o_88 P) (.node (o_152 P) (.node (o_280 P) .nil .nil) .nil) (.node (o_216 P) (.node (o_344 P) .nil .nil) .nil)) (.node (o_120 P) (.node (o_184 P) (.node (o_312 P) .nil .nil) .nil) (.node (o_248 P) (.node (o_376 P) .nil .nil) .nil))))) (.node (o_12 P) (.node (o_20 P) (.node (o_36 P) (.node (o_68 P) (.node (o_132 P) (.node (o_260 P) .nil .nil) (.node (o_388 P) .nil .nil)) (.node (o_196 P) (.node (o_324 P) .nil .nil) .nil)) (.node (o_100 P) (.node (o_164 P) (.node (o_292 P) .nil .nil) .nil) (.node (o_228 P) (.node (o_356 P) .nil .nil) .nil))) (.node (o_52 P) (.node (o_84 P) (.node (o_148 P) (.node (o_276 P) .nil .nil) .nil) (.node (o_212 P) (.node (o_340 P) .nil .nil) .nil)) (.node (o_116 P) (.node (o_180 P) (.node (o_308 P) .nil .nil) .nil) (.node (o_244 P) (.node (o_372 P) .nil .nil) .nil)))) (.node (o_28 P) (.node (o_44 P) (.node (o_76 P) (.node (o_140 P) (.node (o_268 P) .nil .nil) .nil) (.node (o_204 P) (.node (o_332 P) .nil .nil) .nil)) (.node (o_108 P) (.node (o_172 P) (.node (o_300 P) .nil .nil) .nil) (.node (o_236 P) (.node (o_364 P) .nil .nil) .nil))) (.node (o_60 P) (.node (o_92 P) (.node (o_156 P) (.node (o_284 P) .nil .nil) .nil) (.node (o_220 P) (.node (o_348 P) .nil .nil) .nil)) (.node (o_124 P) (.node (o_188 P) (.node (o_316 P) .nil .nil) .nil) (.node (o_252 P) (.node (o_380 P) .nil .nil) .nil)))))) (.node (boot_o_6 P) (.node (boot_o_10 P) (.node (o_18 P) (.node (o_34 P) (.node (o_66 P) (.node (o_130 P) (.node (o_258 P) .nil .nil) (.node (o_386 P) .nil .nil)) (.node (o_194 P) (.node (o_322 P) .nil .nil) .nil)) (.node (o_98 P) (.node (o_162 P) (.node (o_290 P) .nil .nil) .nil) (.node (o_226 P) (.node (o_354 P) .nil .nil) .nil))) (.node (o_50 P) (.node (o_82 P) (.node (o_146 P) (.node (o_274 P) .nil .nil) .nil) (.node (o_210 P) (.node (o_338 P) .nil .nil) .nil)) (.node (o_114 P) (.node (o_178 P) (.node (o_306 P) .nil .nil) .nil) (.node (o_242 P) (.node (o_370 P) .nil .nil) .nil)))) (.node (o_26 P) (.node (o_42 P) (.node (o_74 P) (.node (o_138 P) (.node (o_266 P) .nil .nil) (.node (o_394 P) .nil .nil)) (.node (o_202 P) (.node (o_330 P) .nil .nil) .nil)) (.node (o_106 P) (.node (o_170 P) (.node (o_298 P) .nil .nil) .nil) (.node (o_234 P) (.node (o_362 P) .nil .nil) .nil))) (.node (o_58 P) (.node (o_90 P) (.node (o_154 P) (.node (o_282 P) .nil .nil) .nil) (.node (o_218 P) (.node (o_346 P) .nil .nil) .nil)) (.node (o_122 P) (.node (o_186 P) (.node (o_314 P) .nil .nil) .nil) (.node (o_250 P) (.node (o_378 P) .nil .nil) .nil))))) (.node (o_14 P) (.node (o_22 P) (.node (o_38 P) (.node (o_70 P) (.node (o_134 P) (.node (o_262 P) .nil .nil) (.node (o_390 P) .nil .nil)) (.node (o_198 P) (.node (o_326 P) .nil .nil) .nil)) (.node (o_102 P) (.node (o_166 P) (.node (o_294 P) .nil .nil) .nil) (.node (o_230 P) (.node (o_358 P) .nil .nil) .nil))) (.node (o_54 P) (.node (o_86 P) (.node (o_150 P) (.node (o_278 P) .nil .nil) .nil) (.node (o_214 P) (.node (o_342 P) .nil .nil) .nil)) (.node (o_118 P) (.node (o_182 P) (.node (o_310 P) .nil .nil) .nil) (.node (o_246 P) (.node (o_374 P) .nil .nil) .nil)))) (.node (o_30 P) (.node (o_46 P) (.node (o_78 P) (.node (o_142 P) (.node (o_270 P) .nil .nil) .nil) (.node (o_206 P) (.node (o_334 P) .nil .nil) .nil)) (.node (o_110 P) (.node (o_174 P) (.node (o_302 P) .nil .nil) .nil) (.node (o_238 P) (.node (o_366 P) .nil .nil) .nil))) (.node (o_62 P) (.node (o_94 P) (.node (o_158 P) (.node (o_286 P) .nil .nil) .nil) (.node (o_222 P) (.node (o_350 P) .nil .nil) .nil)) (.node (o_126 P) (.node (o_190 P) (.node (o_318 P) .nil .nil) .nil) (.node (o_254 P) (.node (o_382 P) .nil .nil) .nil))))))))
noncomputable abbrev SB (w : World) (os : OsState) : SharedT := ⟨tB w.params, nat_lit 15, life0, #[], boot_drawn, nat_lit 187, os⟩
noncomputable abbrev S0 (w : World) (os : OsState) : SharedT := ⟨t0 w.params, nat_lit 73, life0, #[], boot_drawn, nat_lit 272, os⟩
noncomputable abbrev S1 (w : World) (os : OsState) : SharedT := ⟨t1 w.params, nat_lit 136, life0, #[], boot_drawn, nat_lit 363, os⟩
noncomputable abbrev S2 (w : World) (os : OsState) : SharedT := ⟨t2 w.params, nat_lit 283, life0, #[], boot_drawn, nat_lit 542, os⟩
noncomputable abbrev S3 (w : World) (os : OsState) : SharedT := ⟨t3 w.params, nat_lit 395, life0, #[], boot_drawn, nat_lit 728, os⟩
noncomputable abbrev Sz (w : World) (os : OsState) : Shared := ⟨boot_heap w.params, #[], boot_drawn, boot_toks, os⟩
noncomputable abbrev SA (w : World) (os : OsState) : Shared := ⟨hA w.params, #[], boot_drawn, nat_lit 187, os⟩
noncomputable abbrev SF (w : World) (os : OsState) : Shared := ⟨hF w.params, #[], boot_drawn, nat_lit 728, os⟩
noncomputable def ann0 : Option Value := some (.ref (nat_lit 6))
noncomputable def pos0 : Pos := ⟨0, 0, 0, 0⟩
noncomputable def env0 : Env := { scope := pw.main.scope, locals := mainNs, globals := mainNs, cells := [], code := .ref (nat_lit 13), frame := some (nat_lit 14) }
noncomputable abbrev bE : List Stmt := behindTheImports pw
noncomputable abbrev cE : Code := .body bE env0
noncomputable abbrev B0 : List Frame := [topFrame pos0]
noncomputable def gs0 : List Stmt := (bE.drop 0).take 4
noncomputable def pos1 : Pos := (Pos.mk 10 0 13 24)
noncomputable def gs1 : List Stmt := (bE.drop 4).take 3
noncomputable def pos2 : Pos := (Pos.mk 22 0 27 22)
noncomputable def gs2 : List Stmt := (bE.drop 7).take 20
noncomputable def pos3 : Pos := (Pos.mk 124 0 130 22)
noncomputable def gs3 : List Stmt := (bE.drop 27).take 23
noncomputable def pos4 : Pos := (Pos.mk 230 0 262 51)
theorem gs_all : bE = gs0 ++ (gs1 ++ (gs2 ++ (gs3 ++ ([])))) := by kernel_rfl
theorem run_pre (w : World) (os : OsState) : topGo treeTable pw w (nat_lit 11) ann0 (nat_lit 12) (Sz w os) (topStub pw) = some (SA w os, Thread.mk (denote treeTable cE) cE pos0 B0) := by kernel_rfl
theorem run_block (w : World) (os : OsState) : segRun treeTable pw w (nat_lit 11) ann0 (nat_lit 1) (nat_lit 1) (SA w os) (blockOf bE env0 cE pos0 B0) = some (.next, (SB w os).abs, cE, pos0) := by kernel_rfl
theorem run0 (w : World) (os : OsState) : segRunT treeTable pw w (nat_lit 11) ann0 (nat_lit 1) (nat_lit 670) (SB w os) (piecesOf gs0 env0 cE pos0 B0) = some (.next, S0 w os, cE, pos1) := by kernel_rfl
theorem run1 (w : World) (os : OsState) : segRunT treeTable pw w (nat_lit 11) ann0 (nat_lit 1) (nat_lit 671) (S0 w os) (piecesOf gs1 env0 cE pos1 B0) = some (.next, S1 w os, cE, pos2) := by kernel_rfl
theorem run2 (w : World) (os : OsState) : segRunT treeTable pw w (nat_lit 11) ann0 (nat_lit 1) (nat_lit 776) (S1 w os) (piecesOf gs2 env0 cE pos2 B0) = some (.next, S2 w os, cE, pos3) := by kernel_rfl
theorem run3 (w : World) (os : OsState) : segRunT treeTable pw w (nat_lit 11) ann0 (nat_lit 1) (nat_lit 730) (S2 w os) (piecesOf gs3 env0 cE pos3 B0) = some (.next, S3 w os, cE, pos4) := by kernel_rfl
theorem run_fin (w : World) (os : OsState) : topRun treeTable pw w (nat_lit 11) ann0 (nat_lit 2) (S3 w os).abs ⟨doneF .next, cE, pos4, B0⟩ = some (SF w os) := by kernel_rfl
theorem run_all (w : World) (os : OsState) : topRun treeTable pw w (nat_lit 11) ann0 (nat_lit 12 + (nat_lit 1 + (nat_lit 670 + (nat_lit 671 + (nat_lit 776 + (nat_lit 730 + (nat_lit 2))))))) (Sz w os) (topStub pw) = some (SF w os) := by
  refine go_top (run_pre w os) (piece_block (run_block w os) ?_)
  rw [gs_all]
  exact piece_app (segRun_of (run0 w os)) (piece_app (segRun_of (run1 w os)) (piece_app (segRun_of (run2 w os)) (piece_app (segRun_of (run3 w os)) (piece_nil (run_fin w os)))))
/-! the view, and what is seen of the top's end -/
noncomputable def topV : Program := { pw with main := { pw.main with body := [((by exact fun x _ => x : (x : Stmt) → x = stOf 1 → Stmt) _ (by conv => rhs; whnf)), ((by exact fun x _ => x : (x : Stmt) → x = stOf 2 → Stmt) _ (by conv => rhs; whnf)), ((by exact fun x _ => x : (x : Stmt) → x = stOf 3 → Stmt) _ (by conv => rhs; whnf)), ((by exact fun x _ => x : (x : Stmt) → x = stOf 4 → Stmt) _ (by conv => rhs; whnf)), ((by exact fun x _ => x : (x : Stmt) → x = stOf 5 → Stmt) _ (by conv => rhs; whnf)), ((by exact fun x _ => x : (x : Stmt) → x = stOf 6 → Stmt) _ (by conv => rhs; whnf)), ((by exact fun x _ => x : (x : Stmt) → x = stOf 7 → Stmt) _ (by conv => rhs; whnf)), ((by exact fun x _ => x : (x : Stmt) → x = stOf 8 → Stmt) _ (by conv => rhs; whnf)), ((by exact fun x _ => x : (x : Stmt) → x = stOf 9 → Stmt) _ (by conv => rhs; whnf)), ((by exact fun x _ => x : (x : Stmt) → x = stOf 10 → Stmt) _ (by conv => rhs; whnf)), ((by exact fun x _ => x : (x : Stmt) → x = stOf 11 → Stmt) _ (by conv => rhs; whnf)), ((by exact fun x _ => x : (x : Stmt) → x = stOf 12 → Stmt) _ (by conv => rhs; whnf)), ((by exact fun x _ => x : (x : Stmt) → x = stOf 13 → Stmt) _ (by conv => rhs; whnf)), ((by exact fun x _ => x : (x : Stmt) → x = stOf 14 → Stmt) _ (by conv => rhs; whnf)), ((by exact fun x _ => x : (x : Stmt) → x = stOf 15 → Stmt) _ (by conv => rhs; whnf)), ((by exact fun x _ => x : (x : Stmt) → x = stOf 16 → Stmt) _ (by conv => rhs; whnf)), ((by exact fun x _ => x : (x : Stmt) → x = stOf 17 → Stmt) _ (by conv => rhs; whnf)), ((by exact fun x _ => x : (x : Stmt) → x = stOf 18 → Stmt) _ (by conv => rhs; whnf)), ((by exact fun x _ => x : (x : Stmt) → x = stOf 19 → Stmt) _ (by conv => rhs; whnf)), ((by exact fun x _ => x : (x : Stmt) → x = stOf 20 → Stmt) _ (by conv => rhs; whnf)), ((by exact fun x _ => x : (x : Stmt) → x = stOf 22 → Stmt) _ (by conv => rhs; whnf)), ((by exact fun x _ => x : (x : Stmt) → x = stOf 23 → Stmt) _ (by conv => rhs; whnf)), ((by exact fun x _ => x : (x : Stmt) → x = stOf 24 → Stmt) _ (by conv => rhs; whnf)), ((by exact fun x _ => x : (x : Stmt) → x = stOf 25 → Stmt) _ (by conv => rhs; whnf)), ((by exact fun x _ => x : (x : Stmt) → x = stOf 26 → Stmt) _ (by conv => rhs; whnf)), ((by exact fun x _ => x : (x : Stmt) → x = stOf 27 → Stmt) _ (by conv => rhs; whnf)), ((by exact fun x _ => x : (x : Stmt) → x = stOf 28 → Stmt) _ (by conv => rhs; whnf)), ((by exact fun x _ => x : (x : Stmt) → x = stOf 29 → Stmt) _ (by conv => rhs; whnf)), ((by exact fun x _ => x : (x : Stmt) → x = stOf 31 → Stmt) _ (by conv => rhs; whnf)), ((by exact fun x _ => x : (x : Stmt) → x = stOf 32 → Stmt) _ (by conv => rhs; whnf)), ((by exact fun x _ => x : (x : Stmt) → x = stOf 33 → Stmt) _ (by conv => rhs; whnf)), ((by exact fun x _ => x : (x : Stmt) → x = stOf 34 → Stmt) _ (by conv => rhs; whnf)), ((by exact fun x _ => x : (x : Stmt) → x = stOf 35 → Stmt) _ (by conv => rhs; whnf)), ((by exact fun x _ => x : (x : Stmt) → x = stOf 36 → Stmt) _ (by conv => rhs; whnf)), ((by exact fun x _ => x : (x : Stmt) → x = stOf 37 → Stmt) _ (by conv => rhs; whnf)), ((by exact fun x _ => x : (x : Stmt) → x = stOf 38 → Stmt) _ (by conv => rhs; whnf)), ((by exact fun x _ => x : (x : Stmt) → x = stOf 39 → Stmt) _ (by conv => rhs; whnf)), ((by exact fun x _ => x : (x : Stmt) → x = stOf 40 → Stmt) _ (by conv => rhs; whnf)), ((by exact fun x _ => x : (x : Stmt) → x = stOf 42 → Stmt) _ (by conv => rhs; whnf)), ((by exact fun x _ => x : (x : Stmt) → x = stOf 43 → Stmt) _ (by conv => rhs; whnf)), ((by exact fun x _ => x : (x : Stmt) → x = stOf 45 → Stmt) _ (by conv => rhs; whnf)), ((by exact fun x _ => x : (x : Stmt) → x = stOf 46 → Stmt) _ (by conv => rhs; whnf)), ((by exact fun x _ => x : (x : Stmt) → x = stOf 48 → Stmt) _ (by conv => rhs; whnf)), ((by exact fun x _ => x : (x : Stmt) → x = stOf 49 → Stmt) _ (by conv => rhs; whnf))], scope := ((by exact fun x _ => x : (x : Scope) → x = pw.main.scope → Scope) _ (by conv => rhs; whnf)) } }
noncomputable abbrev loose0 : List Str := [Str.ofString "SnobolError"]
noncomputable abbrev r0 : OpenRow := PySem.Challenge.rw_tk0107_01.row
noncomputable abbrev XT (s : Shared) : Bool := xlAt topV [] s && recOk (RowW.records r0.toRowW) s
theorem look_size (w : World) : ((boot_heap w.params).isNs mainGlobals && (#[] : Array GenState).size == 0, (boot_heap w.params).objs.size, (boot_heap w.params).nsMap mainGlobals "__annotations__") = (true, nat_lit 11, ann0) := by kernel_rfl
theorem look1 (w : World) (os : OsState) : (staticsOk (importedModules pw.main.body) (boot_heap w.params) (hF w.params) && namesBound pw (hF w.params) && gensDone (SF w os) && laidKept (boot_heap w.params) (hF w.params)) = true := by kernel_rfl
theorem look2_1 (w : World) (os : OsState) : seen ((recsOf topV).map (·.name)) (ownsOf topV) [] { SF w os with gens := #[] } = expectedOf topV := by kernel_rfl
theorem look2_2 (w : World) (os : OsState) : (SF w os).heap.bltView = bltViewBooted := by kernel_rfl
theorem look2_3 (w : World) (os : OsState) : ((SF w os).heap.keysOk (looseW topV loose0) ((recsOf topV).map (·.name)) ((litsOf topV).map (·.1)) ((clssOf topV (looseW topV loose0)).map (·.name)) && (SF w os).heap.accountedOkI (importedModules pw.main.body) && (SF w os).heap.isNs mainGlobals && (SF w os).heap.isNs builtinsNs && tablesOk topV (SF w os).heap && XT (SF w os) && (if (true : Bool) then (SF w os).gens.size == 0 else !leftWithCleanup (SF w os).gens)) = true := by kernel_rfl
theorem look2_4 (w : World) (os : OsState) : tabsOk topV (SF w os) = true := by kernel_rfl
theorem look2_5 (w : World) (os : OsState) : pinSeenD topV (drecsOf topV) (SF w os) = pinGoodD (drecsOf topV) := by kernel_rfl
theorem look2_6 (w : World) (os : OsState) : plainSeenE topV (looseW topV loose0) (SF w os) = plainGoodE topV (looseW topV loose0) := by kernel_rfl
theorem look2_7 (w : World) (os : OsState) : plainSeenD topV loose0 (SF w os) = plainGoodD topV loose0 := by kernel_rfl
theorem look2_8 (w : World) (os : OsState) : wideSeen topV (SF w os) = wideGood topV := by kernel_rfl
theorem look2_9 (w : World) (os : OsState) : clsSeenW topV loose0 (SF w os) = clsGoodW topV loose0 := by kernel_rfl
theorem look2 (w : World) (os : OsState) : openSeen topV loose0 (importedModules pw.main.body) XT true (SF w os) = openGood topV loose0 := by
  unfold openSeen openGood
  exact looks_pair (look2_1 w os) (looks_pair (look2_2 w os) (looks_pair (look2_3 w os) (looks_pair (look2_4 w os) (looks_pair (look2_5 w os) (looks_pair (look2_6 w os) (looks_pair (look2_7 w os) (looks_pair (look2_8 w os) (look2_9 w os))))))))
theorem look3 (w : World) (os : OsState) : kAs.map (SF w os).heap.get? = (topK w.params).map fun p => some p.2 := by kernel_rfl
theorem left0 : LeftO pw topV loose0 XT (fun s => kAs.map s.heap.get?) (fun w => (topK w.params).map fun p => some p.2) 5812 :=
  LeftO.of_pieces (boot_open (by kernel_rfl) (by kernel_rfl) (fun _ => by kernel_rfl)) look_size run_all (by kernel_rfl) fun w => funext fun os => looks_pair (look1 w os) (looks_pair (look2 w os) (look3 w os))
theorem said_3 : namesResolve r0.prog = true := by kernel_rfl
theorem said_4 : r0.prog.boundNames.all (fun n => !worldNames.contains n) = true := by kernel_rfl
theorem said_5 : noRoadLSs { strict := !(importedModules r0.prog.main.body).all cThrough.contains, foot := none, bare := (["vars", "dir", "locals"] : List Str).filter (readsOut r0.prog r0.prog.main.body) } r0.prog.main.body = true := by kernel_rfl
theorem said_6 : (namesMeet r0.prog r0.prog.main.body fun _ n => attrL n) = true := by kernel_rfl
theorem saidR : OpenRow.wellSaid r0 = true := by
  unfold OpenRow.wellSaid OpenRow.partSaid looksOpen
  repeat' with_reducible refine look_both ?_ ?_
  all_goals first | with_reducible exact said_3 | with_reducible exact said_4 | with_reducible exact said_5 | with_reducible exact said_6 | kernel_rfl
theorem said0 : OpenLaw.wellSaid PySem.Challenge.rw_tk0107_01 = true := by
  unfold OpenLaw.wellSaid
  repeat' with_reducible refine look_both ?_ ?_
  all_goals first | with_reducible exact saidR | kernel_rfl
theorem fill0 : PySem.Challenge.rw_tk0107_01 = PySem.Challenge.rw_tk0107_01 ∧ topK = topK := by
  k_fill
  exact ⟨rfl, rfl⟩

/-! the functions: what a call of each gives -/
abbrev TOP (mean : ExcName → Option Value) (mg mb : Str → Option Value) (h : Heap) : Prop := Top topV (looseW topV [Str.ofString "SnobolError"]) mean mg mb h
def Stop (P : Prop) : Prop := P
theorem stop_here {P : Prop} (h : Stop P) : P := h
theorem news2 {h₀ h : Heap} {L : Addr} {news : List (Addr × Obj)} {p q : Addr × Obj} (N : News h₀ L h news) (hp : p ∈ news) (hq : q ∈ news) : News h₀ L h (p :: q :: news) := by
  intro r hr
  rcases List.mem_cons.mp hr with rfl | hr
  · exact N _ hp
  rcases List.mem_cons.mp hr with rfl | hr
  · exact N _ hq
  exact N _ hr
theorem news1 {h₀ h : Heap} {L : Addr} {news : List (Addr × Obj)} {p : Addr × Obj} (N : News h₀ L h news) (hp : p ∈ news) : News h₀ L h (p :: news) := by
  intro r hr
  rcases List.mem_cons.mp hr with rfl | hr
  · exact N _ hp
  exact N _ hr
section
local macro_rules | `(tactic| walk_at "getAttr ref") => `(tactic| (k_here; k_dflt (refine' get_own ?k1 ?k2 ?k3 ?k4 ?k5 ?k6 ?k7 ?k8 ?k9 ?_; (case k1 => k_asm); (case k2 => k_asm); (case k3 => k_inst); (case k4 => k_is); (case k5 => k_is); (case k6 => k_is); (case k7 => k_is); (case k8 => assumption); (case k9 => k_handed); k_whole)))
local macro_rules | `(tactic| walk_at "call ref") => `(tactic| (k_here; k_dflt (refine wpAny_call ?_; refine' code_def ?k1 ?k2 ?k3 ?k4 ?k5 ?kA ?kF ?kK ?k6 ?k7 ?k8 ?k9 ?kB ?_ ?c2 ?c3 ?c4 ?c5; (case kA => exact rfl); (case kF => exact rfl); (case kK => first | exact rfl | assumption); (case k1 => k_asm); (case k2 => k_asm); (case k3 => k_asm); (case k4 => k_asm); (case k5 => k_asm); (case k6 => k_is); (case k7 => k_is); (case k8 => ktr_room); (case k9 => exact BindsTo.of_eq rfl); (case c5 => decide); (case kB => exact locs rfl); (case c2 => exact rfl); (case c3 => exact rfl); (case c4 => exact rfl); k_whole; intro g' L' h' FG' F' N' B' X' T'; (try dsimp only); (try k_lift B'); (try k_fold))))
section
variable {prog : Program} {w : World} {A : Around} {E : Value → Shared → Prop} {s : Shared} {env : Env} {h₀ : Heap} {x : Str} {body : List Stmt} {Q : Flow → Shared → Prop}
theorem rangeKs_at {a₀ k : Int} {n i : Nat} (hk : (rangeKs a₀ n)[i]? = some k) : i < n ∧ k = a₀ + (i : Int) := by
  unfold rangeKs at hk
  rw [List.getElem?_map] at hk
  obtain ⟨j, hj, e⟩ := Option.map_eq_some_iff.mp hk
  have hin : i < n := by
    have := (List.getElem?_eq_some_iff.mp hj).1
    simpa using this
  rw [List.getElem?_range hin] at hj
  cases hj
  exact ⟨hin, e.symm⟩
/-- a loop over a range: the frame but for x and what it stores, a word of the turn's number, the map and the ledger -/
theorem range_inv {r : Addr} {a₀ b₀ : Int} {t₀ u₀ v₀ : Tok} {n : Nat} {m₀ : Str → Option Value} {news : List (Addr × Obj)} (stored : List Str) (P : Nat → (Str → Option Value) → List (Addr × Obj) → Prop)
    (hh : A.handled = none) (hr : IsRange s.heap r a₀ b₀ 1 t₀ u₀ v₀) (hsmall : Builtin.Range.small a₀ b₀ 1 = true) (hn : Builtin.Range.rangeSize a₀ b₀ 1 = (n : Int)) (F : Fr h₀ env.locals s.heap m₀) (N : News h₀ env.locals s.heap news) (hj : P 0 m₀ news)
    (turn : ∀ i t m₁ nx h tk own, i < n → OwnOff own (news.map (·.1)) → P i m₁ nx → (∀ z, z ≠ x → stored.contains z = false → m₁ z = m₀ z) → Fr h₀ env.locals h (fun y => if y = x then some (.int (a₀ + (i : Int)) t) else m₁ y) → News h₀ env.locals h (nx ++ own) →
      wpAny (model prog w) A (execs body env) (InvPostN h₀ env.locals (fun m' nx' => P (i + 1) m' nx' ∧ ∀ z, z ≠ x → stored.contains z = false → m' z = m₀ z) own (news.map (·.1)) { s with heap := h, toks := tk } Q) E { s with heap := h, toks := tk })
    (done : ∀ m₁ nx h tk, P n m₁ nx → (∀ z, z ≠ x → stored.contains z = false → m₁ z = m₀ z) → Fr h₀ env.locals h m₁ → News h₀ env.locals h nx → Q .next { s with heap := h, toks := tk }) :
    wpAny (model prog w) A (pyIter (.ref r)) (fun it s₂ => LoopAtV prog w A h₀ env x body Q E it s₂) E s := by
  refine kpr_invN (fun i m₁ nx => P i m₁ nx ∧ ∀ z, z ≠ x → stored.contains z = false → m₁ z = m₀ z) hh hr hsmall hn F N ⟨hj, fun _ _ _ => rfl⟩ ?_ ?_
  · intro i k t m₁ nx h tk own hk ho hJ F' N'
    obtain ⟨hin, rfl⟩ := rangeKs_at hk
    exact turn i t m₁ nx h tk own hin ho hJ.1 hJ.2 F' N'
  · intro m₁ nx h tk hJ F' N'
    rw [rangeKs_length] at hJ
    exact done m₁ nx h tk hJ.1 hJ.2 F' N'
theorem map_ro {x : Str} {m₁ m₀ : Str → Option Value} {v : Value} (hm : ∀ z, z ≠ x → ([] : List Str).contains z = false → m₁ z = m₀ z) : (fun z => if z = x then some v else m₁ z) = fun z => if z = x then some v else m₀ z := map_none fun z hz => hm z hz rfl

theorem done_ro {x : Str} {m₁ m₀ : Str → Option Value} (hm : ∀ z, z ≠ x → ([] : List Str).contains z = false → m₁ z = m₀ z) : m₁ = fun z => if z = x then m₁ z else m₀ z := (done_none fun z hz => hm z hz rfl).symm
end
section
variable {prog : Program} {w : World} {A : Around} {E : Value → Shared → Prop} {s : Shared} {env : Env} {h₀ : Heap} {x : Str} {body : List Stmt} {Q : Flow → Shared → Prop}
/-- a loop over a text's signs -/
theorem text_inv {ds : List Nat} {xt : Str} {tx : Tok} {m₀ : Str → Option Value} {news : List (Addr × Obj)} (stored : List Str) (P : Nat → (Str → Option Value) → List (Addr × Obj) → Prop) (hx : xt = S ds)
    (hh : A.handled = none) (F : Fr h₀ env.locals s.heap m₀) (N : News h₀ env.locals s.heap news) (hj : P 0 m₀ news)
    (turn : ∀ i c t m₁ nx h tk own, ds[i]? = some c → OwnOff own (news.map (·.1)) → P i m₁ nx → (∀ z, z ≠ x → stored.contains z = false → m₁ z = m₀ z) → Fr h₀ env.locals h (fun y => if y = x then some (.str ⟨#[c]⟩ t) else m₁ y) → News h₀ env.locals h (nx ++ own) →
      wpAny (model prog w) A (execs body env) (InvPostN h₀ env.locals (fun m' nx' => P (i + 1) m' nx' ∧ ∀ z, z ≠ x → stored.contains z = false → m' z = m₀ z) own (news.map (·.1)) { s with heap := h, toks := tk } Q) E { s with heap := h, toks := tk })
    (done : ∀ m₁ nx h tk, P ds.length m₁ nx → (∀ z, z ≠ x → stored.contains z = false → m₁ z = m₀ z) → Fr h₀ env.locals h m₁ → News h₀ env.locals h nx → Q .next { s with heap := h, toks := tk }) :
    wpAny (model prog w) A (pyIter (.str xt tx)) (fun it s₂ => LoopAtV prog w A h₀ env x body Q E it s₂) E s := by
  subst hx
  refine wpAny_pyIter_str fun o St hW hst => ?_
  have W := hW A hh
  have hsz : (S ds).cps.size = ds.length := S_len ds
  refine loop_invN (fun i m₁ nx => P i m₁ nx ∧ ∀ z, z ≠ x → stored.contains z = false → m₁ z = m₀ z) W ?_ ?_ ?_ ?_ hst (F.push _) (fun p hp => ⟨Heap.get?_push_of_some _ (N p hp).1, (N p hp).2⟩) ⟨hj, fun _ _ _ => rfl⟩ ?_ ?_
  · intro hm
    exact absurd F.ns.lt ((List.mem_singleton.mp hm) ▸ Nat.lt_irrefl _)
  · intro b' hb
    rw [List.mem_singleton.mp hb]
    exact next_is_new F
  · intro p hp hI
    exact absurd (Heap.lt_size (N p hp).1) ((List.mem_singleton.mp hI) ▸ Nat.lt_irrefl _)
  · intro p hp hI
    exact absurd (Heap.lt_size (N p hp).1) ((List.mem_singleton.mp hI) ▸ Nat.lt_irrefl _)
  · rintro i v m₁ nx h tk own hi ⟨n, u, hn, rfl⟩ _ hoff ⟨hp, hm⟩ F₁ N₁
    have hn' : ds[i]? = some n := by simpa [S] using hn
    exact turn i n u m₁ nx h tk own hn' hoff hp hm F₁ N₁
  · rintro m₁ nx h tk ⟨hp, hm⟩ F₁ N₁
    rw [hsz] at hp
    exact done m₁ nx h tk hp hm F₁ N₁
end
theorem okAt_is {l : List Nat} {x : Str} {i : Nat} (hx : x = S l) : (Txt.mul (Txt.slice x none (some (1 + (i : Int)))) ((x.length : Int).fdiv (1 + (i : Int))) == x) = okAt l (i + 1) := by
  subst hx
  rw [S_take l _ (by omega), S_mul, S_beq, S_len, Int.fdiv_eq_ediv_of_nonneg _ (by omega)]
  have e1 : (1 + (i : Int)).toNat = i + 1 := by omega
  have e2 : ((l.length : Int) / (1 + (i : Int))).toNat = l.length / (i + 1) := by
    rw [show (1 + (i : Int)) = ((i + 1 : Nat) : Int) by omega, ← Int.natCast_ediv, Int.toNat_natCast]
  rw [e1, e2]
  rfl
theorem slice_is {l : List Nat} {x : Str} {i : Nat} (hx : x = S l) : Txt.slice x none (some (1 + (i : Int))) = S (l.take (i + 1)) := by
  subst hx
  rw [S_take l _ (by omega)]
  have e1 : (1 + (i : Int)).toNat = i + 1 := by omega
  rw [e1]
section
local macro_rules | `(tactic| walk_at "pyIter ref") => `(tactic| ((with_reducible show wpAny _ _ (pyIter (Value.ref _)) _ _ _); refine stop_here ?_))
local macro_rules | `(tactic| walk_at "InvEndN") => `(tactic| (refine stop_here ?_))
local macro_rules | `(tactic| walk_at "call type:range") => `(tactic| ((rename Fr _ _ _ _ => F'); (rename News _ _ _ _ => N'); (with_unfolding_all refine range2_rows F' N' ?_; intro _ _ _ _ _ _ _ _ _)))
theorem root_found {l : List Nat} {i : Nat} (hi : i < l.length) (h : okAt l (i + 1) = true) (hn : ∀ j, j < i → okAt l (j + 1) = false) : root l = l.take (i + 1) := by
  unfold root
  have : (List.range l.length).find? (fun i => okAt l (i + 1)) = some i := by
    rw [List.find?_eq_some_iff_getElem]
    refine ⟨h, i, by simpa using hi, by simp, ?_⟩
    intro j hj
    simp [hn j hj]
  rw [this]
theorem root_none {l : List Nat} (hn : ∀ j, j < l.length → okAt l (j + 1) = false) : root l = l := by
  unfold root
  have : (List.range l.length).find? (fun i => okAt l (i + 1)) = none := by
    rw [List.find?_eq_none]
    intro j hj
    simp [hn j (by simpa using hj)]
  rw [this]
theorem root_c {w : World} {mean : ExcName → Option Value} {mg mb : Str → Option Value} {dp un : Nat} {gd : Option (List Code)} {cn : Str} {cs : Scope} {a : Addr} {ccd : Value} {cl : List (Str × Addr)} {outer : List Env} {A₀ : Around} {base h₀ : Heap} {L : Addr} {m : Str → Option Value} {s : Shared} {Q E : Value → Shared → Prop}
  {news : List (Addr × Obj)} {l : List Nat} {x : Str} {tx : Tok}
  (B : Below A₀ base outer h₀) (F : Fr h₀ L s.heap m) (X : (topK w.params).In h₀) (N : News h₀ L s.heap news) (T : TOP mean mg mb h₀) (hk : cs.kind = .function)
  (hx : x = S l) (hx1 : x.length ≤ 6) (hx0 : 1 ≤ x.length) (hdp : dp + 6 < recursionLimit) (hun : un + 60 < cLine)
  (ret : ∀ z t h' tk', z = S (root l) → Fr h₀ L h' m → News h₀ L h' news → Q (.str z t) { s with heap := h', toks := tk' }) :
  wpAny (model PySem.Challenge.rw_tk0107_01.row.prog w) (ktrTop dp un gd cn cs L a ccd cl outer) (call (.ref 389) [.str x tx]) Q E s := by
  refine wpAny_call ?_
  k_dflt cell_enter
  k_steps
  unfold Stop
  rename IsRange _ _ _ _ _ _ _ _ => R1
  rename (∀ (b : Addr) (o : Obj), Heap.get? _ b = some o → Heap.get? _ b = some o) => K1
  rename Fr _ _ _ _ => F1
  rename News _ _ _ _ => N1
  have hxl : x.length = l.length := by rw [hx]; exact S_len l
  refine range_inv [] (fun i _ nx => nx = news ∧ ∀ j, j < i → okAt l (j + 1) = false) rfl R1 (small_one (by omega) (by omega) (by omega) (by omega)) (rangeSize_nat _ _) F1 N1 ⟨rfl, (fun j hj => absurd hj (Nat.not_lt_zero _))⟩ ?_ ?_
  · intro i t m₁ nx h tk own hin hoff hJ hm F2 N2
    obtain ⟨hnx, hno⟩ := hJ
    replace hnx := hnx.symm
    subst hnx
    rw [map_ro hm] at F2
    clear hm F1 N1 R1 K1
    have hq0 : 0 ≤ (x.length : Int).fdiv (1 + (i : Int)) := Int.fdiv_nonneg (by omega) (by omega)
    have hq1 : (x.length : Int).fdiv (1 + (i : Int)) ≤ 6 := by
      rw [Int.fdiv_eq_ediv_of_nonneg _ (by omega)]
      exact Int.le_trans (Int.ediv_le_self _ (by omega)) (by omega)
    k_steps
    · rename (BEq.beq _ x = true) => hb
      rw [okAt_is hx] at hb
      exact ret _ _ _ _ (by rw [slice_is hx]; exact congrArg S (root_found (by omega) hb hno).symm) (by assumption) (cb_drop (by assumption) fun _ h => List.mem_append.mpr (.inl h))
    · rename (BEq.beq _ x = false) => hb
      rw [okAt_is hx] at hb
      unfold Stop
      refine InvEndN.intro (by assumption) (by assumption) ⟨⟨rfl, ?_⟩, ?_⟩ rfl (fun _ h => List.mem_append.mpr (.inl h)) (fun _ h => List.mem_append.mpr (.inr h))
      · intro j hj
        by_cases e : j = i
        · subst e; exact hb
        · exact hno j (by omega)
      · intro z hz _
        exact if_neg hz
  · intro m₁ nx h tk hJ hm F2 N2
    obtain ⟨hnx, hno⟩ := hJ
    replace hnx := hnx.symm
    subst hnx
    clear F1 N1 R1 K1
    rw [done_ro hm] at F2
    clear hm
    k_steps
    exact ret _ _ _ _ (by rw [hx]; exact congrArg S (root_none fun j hj => hno j (by omega)).symm) (by assumption) (cb_drop (by assumption) (fun _ h => by repeat (first | exact h | refine List.Mem.tail _ ?_)))
end
theorem dupl_c {w : World} {mean : ExcName → Option Value} {mg mb : Str → Option Value} {dp un : Nat} {gd : Option (List Code)} {cn : Str} {cs : Scope} {a : Addr} {ccd : Value} {cl : List (Str × Addr)} {outer : List Env} {A₀ : Around} {base h₀ : Heap} {L : Addr} {m : Str → Option Value} {s : Shared} {Q E : Value → Shared → Prop}
  {news : List (Addr × Obj)} {wx wdx lst : Addr} {es : List DictEntry} {n ne : Nat} {l : List Nat} {x : Str} {tx tn tw tm : Tok} {k : Int}
  (B : Below A₀ base outer h₀) (F : Fr h₀ L s.heap m) (X : (topK w.params).In h₀) (N : News h₀ L s.heap news) (T : TOP mean mg mb h₀) (hk : cs.kind = .function)
  (m1 : (wx, instObj 357 wdx) ∈ news) (m2 : (wdx, dictOf es n) ∈ news) (m3 : (lst, W.listOf #[.str x tx, .int k tn] ne) ∈ news)
  (g1 : getL (Str.ofString "width") es = some (some (.int 32 tw))) (g2 : getL (Str.ofString "most_length") es = some (some (.int 5000 tm)))
  (hx : x = S l) (h0 : 0 ≤ k) (hk2 : k ≤ 100) (hx1 : x.length ≤ 20) (hx2 : (x.length : Int) * k ≤ 1000) (hdp : dp + 6 < recursionLimit) (hun : un + 60 < cLine)
  (ret : ∀ z t h' tk', z = S (rep k.toNat l) → Fr h₀ L h' m → News h₀ L h' news → Q (.str z t) { s with heap := h', toks := tk' }) :
  wpAny (model PySem.Challenge.rw_tk0107_01.row.prog w) (ktrTop dp un gd cn cs L a ccd cl outer) (call (.ref 282) [.ref wx, .ref lst]) Q E s := by
  replace N := news1 (news2 N m1 m2) (.tail _ (.tail _ m3))
  clear m1 m2 m3
  refine wpAny_call ?_
  k_dflt cell_enter
  k_steps
  exact ret _ _ _ _ (by rw [hx]; exact S_mul l k) (by assumption) (cb_drop (by assumption) (fun _ h => by repeat (first | exact h | refine List.Mem.tail _ ?_)))
theorem substr_c {w : World} {mean : ExcName → Option Value} {mg mb : Str → Option Value} {dp un : Nat} {gd : Option (List Code)} {cn : Str} {cs : Scope} {a : Addr} {ccd : Value} {cl : List (Str × Addr)} {outer : List Env} {A₀ : Around} {base h₀ : Heap} {L : Addr} {m : Str → Option Value} {s : Shared} {Q E : Value → Shared → Prop}
  {news : List (Addr × Obj)} {wx wdx lst : Addr} {es : List DictEntry} {n ne : Nat} {l : List Nat} {x : Str} {tx tb tn tw : Tok} {b k : Int}
  (B : Below A₀ base outer h₀) (F : Fr h₀ L s.heap m) (X : (topK w.params).In h₀) (N : News h₀ L s.heap news) (T : TOP mean mg mb h₀) (hk : cs.kind = .function)
  (m1 : (wx, instObj 357 wdx) ∈ news) (m2 : (wdx, dictOf es n) ∈ news) (m3 : (lst, W.listOf #[.str x tx, .int b tb, .int k tn] ne) ∈ news)
  (g1 : getL (Str.ofString "width") es = some (some (.int 32 tw)))
  (hx : x = S l) (h0 : 1 ≤ b) (hk2 : 1 ≤ k) (hx1 : x.length ≤ 40) (hx2 : b - 1 + k ≤ (x.length : Int)) (hdp : dp + 6 < recursionLimit) (hun : un + 60 < cLine)
  (ret : ∀ z t h' tk', z = S ((l.drop (b - 1).toNat).take k.toNat) → Fr h₀ L h' m → News h₀ L h' news → Q (.str z t) { s with heap := h', toks := tk' }) :
  wpAny (model PySem.Challenge.rw_tk0107_01.row.prog w) (ktrTop dp un gd cn cs L a ccd cl outer) (call (.ref 296) [.ref wx, .ref lst]) Q E s := by
  replace N := news1 (news2 N m1 m2) (.tail _ (.tail _ m3))
  clear m1 m2 m3
  refine wpAny_call ?_
  k_dflt cell_enter
  k_steps
  all_goals (try (exfalso; omega))
  exact ret _ _ _ _ (by rw [hx]; rw [S_slice l _ _ (by omega) (by omega)]; exact congrArg S (by congr 1; omega)) (by assumption) (cb_drop (by assumption) (fun _ h => by repeat (first | exact h | refine List.Mem.tail _ ?_)))
theorem rev_c {w : World} {mean : ExcName → Option Value} {mg mb : Str → Option Value} {dp un : Nat} {gd : Option (List Code)} {cn : Str} {cs : Scope} {a : Addr} {ccd : Value} {cl : List (Str × Addr)} {outer : List Env} {A₀ : Around} {base h₀ : Heap} {L : Addr} {m : Str → Option Value} {s : Shared} {Q E : Value → Shared → Prop}
  {news : List (Addr × Obj)} {wx lst : Addr} {ne : Nat} {l : List Nat} {x : Str} {tx : Tok}
  (B : Below A₀ base outer h₀) (F : Fr h₀ L s.heap m) (X : (topK w.params).In h₀) (N : News h₀ L s.heap news) (T : TOP mean mg mb h₀) (hk : cs.kind = .function)
  (m3 : (lst, W.listOf #[.str x tx] ne) ∈ news)
  (hx : x = S l) (hx1 : x.length ≤ 40) (hdp : dp + 6 < recursionLimit) (hun : un + 60 < cLine)
  (ret : ∀ z t h' tk', z = S (l.reverse) → Fr h₀ L h' m → News h₀ L h' news → Q (.str z t) { s with heap := h', toks := tk' }) :
  wpAny (model PySem.Challenge.rw_tk0107_01.row.prog w) (ktrTop dp un gd cn cs L a ccd cl outer) (call (.ref 289) [.ref wx, .ref lst]) Q E s := by
  replace N := news1 N m3
  clear m3
  refine wpAny_call ?_
  k_dflt cell_enter
  k_steps
  exact ret _ _ _ _ (by rw [hx]; exact S_rev l _) (by assumption) (cb_drop (by assumption) (fun _ h => by repeat (first | exact h | refine List.Mem.tail _ ?_)))
theorem size_c {w : World} {mean : ExcName → Option Value} {mg mb : Str → Option Value} {dp un : Nat} {gd : Option (List Code)} {cn : Str} {cs : Scope} {a : Addr} {ccd : Value} {cl : List (Str × Addr)} {outer : List Env} {A₀ : Around} {base h₀ : Heap} {L : Addr} {m : Str → Option Value} {s : Shared} {Q E : Value → Shared → Prop}
  {news : List (Addr × Obj)} {wx lst : Addr} {ne : Nat} {x : Str} {tx : Tok}
  (B : Below A₀ base outer h₀) (F : Fr h₀ L s.heap m) (X : (topK w.params).In h₀) (N : News h₀ L s.heap news) (T : TOP mean mg mb h₀) (hk : cs.kind = .function)
  (m3 : (lst, W.listOf #[.str x tx] ne) ∈ news)
  (hx1 : x.length ≤ 40) (hdp : dp + 6 < recursionLimit) (hun : un + 60 < cLine)
  (ret : ∀ t h' tk', Fr h₀ L h' m → News h₀ L h' news → Q (.int x.length t) { s with heap := h', toks := tk' }) :
  wpAny (model PySem.Challenge.rw_tk0107_01.row.prog w) (ktrTop dp un gd cn cs L a ccd cl outer) (call (.ref 275) [.ref wx, .ref lst]) Q E s := by
  replace N := news1 N m3
  clear m3
  refine wpAny_call ?_
  k_dflt cell_enter
  k_steps
  exact ret _ _ _ (by assumption) (cb_drop (by assumption) (fun _ h => by repeat (first | exact h | refine List.Mem.tail _ ?_)))
theorem join_c {w : World} {mean : ExcName → Option Value} {mg mb : Str → Option Value} {dp un : Nat} {gd : Option (List Code)} {cn : Str} {cs : Scope} {a : Addr} {ccd : Value} {cl : List (Str × Addr)} {outer : List Env} {A₀ : Around} {base h₀ : Heap} {L : Addr} {m : Str → Option Value} {s : Shared} {Q E : Value → Shared → Prop}
  {news : List (Addr × Obj)} {wx wdx : Addr} {es : List DictEntry} {n : Nat} {x y : Str} {tx ty tm : Tok}
  (B : Below A₀ base outer h₀) (F : Fr h₀ L s.heap m) (X : (topK w.params).In h₀) (N : News h₀ L s.heap news) (T : TOP mean mg mb h₀) (hk : cs.kind = .function)
  (m1 : (wx, instObj 357 wdx) ∈ news) (m2 : (wdx, dictOf es n) ∈ news)
  (g2 : getL (Str.ofString "most_length") es = some (some (.int 5000 tm)))
  (hx1 : x.length ≤ 40) (hx2 : y.length ≤ 40) (hx0 : 0 < x.length) (hy0 : 0 < y.length) (ex : (x == Str.ofString "") = false) (ey : (y == Str.ofString "") = false) (hdp : dp + 6 < recursionLimit) (hun : un + 60 < cLine)
  (ret : ∀ t h' tk', Fr h₀ L h' m → News h₀ L h' news → Q (.str (x ++ y) t) { s with heap := h', toks := tk' }) :
  wpAny (model PySem.Challenge.rw_tk0107_01.row.prog w) (ktrTop dp un gd cn cs L a ccd cl outer) (call (.ref 382) [.ref wx, .str x tx, .str y ty]) Q E s := by
  replace N := news2 N m1 m2
  clear m1 m2
  refine wpAny_call ?_
  k_dflt cell_enter
  k_steps
  exact ret _ _ _ (by assumption) (cb_drop (by assumption) (fun _ h => by repeat (first | exact h | refine List.Mem.tail _ ?_)))
theorem ident_c {w : World} {mean : ExcName → Option Value} {mg mb : Str → Option Value} {dp un : Nat} {gd : Option (List Code)} {cn : Str} {cs : Scope} {a : Addr} {ccd : Value} {cl : List (Str × Addr)} {outer : List Env} {A₀ : Around} {base h₀ : Heap} {L : Addr} {m : Str → Option Value} {s : Shared} {Q E : Value → Shared → Prop}
  {news : List (Addr × Obj)} {wx lst : Addr} {ne : Nat} {x y : Str} {tx ty : Tok}
  (B : Below A₀ base outer h₀) (F : Fr h₀ L s.heap m) (X : (topK w.params).In h₀) (N : News h₀ L s.heap news) (T : TOP mean mg mb h₀) (hk : cs.kind = .function)
  (m3 : (lst, W.listOf #[.str x tx, .str y ty] ne) ∈ news)
  (hx1 : x.length ≤ 40) (hx2 : y.length ≤ 40) (hdp : dp + 6 < recursionLimit) (hun : un + 60 < cLine)
  (ret : ∀ t h' tk', (x == y) = true → Fr h₀ L h' m → News h₀ L h' news → Q (.str (Str.ofString "") t) { s with heap := h', toks := tk' }) 
  (ret2 : ∀ f d h' tk', (x == y) = false → Fr h₀ L h' m → News h₀ L h' ((f, instObj 47 d) :: (d, dictOf [] 0) :: news) → Q (.ref f) { s with heap := h', toks := tk' }) :
  wpAny (model PySem.Challenge.rw_tk0107_01.row.prog w) (ktrTop dp un gd cn cs L a ccd cl outer) (call (.ref 303) [.ref wx, .ref lst]) Q E s := by
  replace N := news1 N m3
  clear m3
  refine wpAny_call ?_
  k_dflt cell_enter
  k_steps
  · exact ret _ _ _ (by assumption) (by assumption) (cb_drop (by assumption) (fun _ h => by repeat (first | exact h | refine List.Mem.tail _ ?_)))
  · exact ret2 _ _ _ _ (by assumption) (by assumption) (cb_drop (by assumption) (fun p h => by
      rcases List.mem_cons.mp h with rfl | h
      · exact .head _
      rcases List.mem_cons.mp h with rfl | h
      · exact .tail _ (.head _)
      · exact .tail _ (.tail _ (by repeat (first | exact h | refine List.Mem.tail _ ?_)))))
theorem ident_t {w : World} {mean : ExcName → Option Value} {mg mb : Str → Option Value} {dp un : Nat} {gd : Option (List Code)} {cn : Str} {cs : Scope} {a : Addr} {ccd : Value} {cl : List (Str × Addr)} {outer : List Env} {A₀ : Around} {base h₀ : Heap} {L : Addr} {m : Str → Option Value} {s : Shared} {Q E : Value → Shared → Prop}
  {news : List (Addr × Obj)} {wx lst : Addr} {ne : Nat} {x y : Str} {tx ty : Tok}
  (B : Below A₀ base outer h₀) (F : Fr h₀ L s.heap m) (X : (topK w.params).In h₀) (N : News h₀ L s.heap news) (T : TOP mean mg mb h₀) (hk : cs.kind = .function)
  (m3 : (lst, W.listOf #[.str x tx, .str y ty] ne) ∈ news)
  (hx1 : x.length ≤ 40) (hx2 : y.length ≤ 40) (e : (x == y) = true) (hdp : dp + 6 < recursionLimit) (hun : un + 60 < cLine)
  (ret : ∀ t h' tk', Fr h₀ L h' m → News h₀ L h' news → Q (.str (Str.ofString "") t) { s with heap := h', toks := tk' }) :
  wpAny (model PySem.Challenge.rw_tk0107_01.row.prog w) (ktrTop dp un gd cn cs L a ccd cl outer) (call (.ref 303) [.ref wx, .ref lst]) Q E s := ident_c B F X N T hk m3 hx1 hx2 hdp hun (fun t h' tk' _ F N => ret t h' tk' F N) (fun _ _ _ _ h => absurd (h.symm.trans e) (by decide))
theorem ident_f {w : World} {mean : ExcName → Option Value} {mg mb : Str → Option Value} {dp un : Nat} {gd : Option (List Code)} {cn : Str} {cs : Scope} {a : Addr} {ccd : Value} {cl : List (Str × Addr)} {outer : List Env} {A₀ : Around} {base h₀ : Heap} {L : Addr} {m : Str → Option Value} {s : Shared} {Q E : Value → Shared → Prop}
  {news : List (Addr × Obj)} {wx lst : Addr} {ne : Nat} {x y : Str} {tx ty : Tok}
  (B : Below A₀ base outer h₀) (F : Fr h₀ L s.heap m) (X : (topK w.params).In h₀) (N : News h₀ L s.heap news) (T : TOP mean mg mb h₀) (hk : cs.kind = .function)
  (m3 : (lst, W.listOf #[.str x tx, .str y ty] ne) ∈ news)
  (hx1 : x.length ≤ 40) (hx2 : y.length ≤ 40) (e : (x == y) = false) (hdp : dp + 6 < recursionLimit) (hun : un + 60 < cLine)
  (ret : ∀ f d h' tk', Fr h₀ L h' m → News h₀ L h' ((f, instObj 47 d) :: (d, dictOf [] 0) :: news) → Q (.ref f) { s with heap := h', toks := tk' }) :
  wpAny (model PySem.Challenge.rw_tk0107_01.row.prog w) (ktrTop dp un gd cn cs L a ccd cl outer) (call (.ref 303) [.ref wx, .ref lst]) Q E s := ident_c B F X N T hk m3 hx1 hx2 hdp hun (fun _ _ _ h => absurd (h.symm.trans e) (by decide)) (fun f d h' tk' _ F N => ret f d h' tk' F N)
def valOf (ds : List Nat) : Int := ds.foldl (fun (a : Int) (d : Nat) => 10 * a + (d : Int) - 48) 0
theorem valOf_bound {ds : List Nat} (hd : ∀ d ∈ ds, 48 ≤ d ∧ d ≤ 57) (i : Nat) (hi : i ≤ 2) : 0 ≤ valOf (ds.take i) ∧ valOf (ds.take i) ≤ 99 := by
  have h : (ds.take i).length ≤ 2 := by simp only [List.length_take]; omega
  have hm : ∀ d ∈ ds.take i, 48 ≤ d ∧ d ≤ 57 := fun d h => hd d (List.mem_of_mem_take h)
  generalize ds.take i = l at h hm
  match l, h, hm with
  | [], _, _ => decide
  | [a], _, hm =>
    have := hm a (by simp)
    simp only [valOf, List.foldl_cons, List.foldl_nil]
    omega
  | [a, b], _, hm =>
    have := hm a (by simp)
    have := hm b (by simp)
    simp only [valOf, List.foldl_cons, List.foldl_nil]
    omega
theorem sign_le {c : Nat} (hc : 48 ≤ c ∧ c ≤ 57) : (!decide ((⟨#[c]⟩ : Str).cps.toList < (Str.ofString "0").cps.toList)) = true ∧ (!decide ((Str.ofString "9").cps.toList < (⟨#[c]⟩ : Str).cps.toList)) = true := by
  obtain ⟨h1, h2⟩ := hc
  have : c = 48 ∨ c = 49 ∨ c = 50 ∨ c = 51 ∨ c = 52 ∨ c = 53 ∨ c = 54 ∨ c = 55 ∨ c = 56 ∨ c = 57 := by omega
  rcases this with rfl | rfl | rfl | rfl | rfl | rfl | rfl | rfl | rfl | rfl <;> decide +kernel
section
local macro_rules | `(tactic| walk_at "pyIter str") => `(tactic| ((with_reducible show wpAny _ _ (pyIter (Value.str _ _)) _ _ _); refine stop_here ?_))
local macro_rules | `(tactic| walk_at "InvEndN") => `(tactic| (refine stop_here ?_))
local macro_rules | `(tactic| walk_at "exec For Name Name cons nil") => `(tactic| (k_here; (rename Fr _ _ _ _ => lF'); (with_unfolding_all refine' For_invVF lF' ?k1 ?k2 ?_; (case k1 => exact rfl); (case k2 => exact rfl); k_whole)))
theorem whole_c {w : World} {mean : ExcName → Option Value} {mg mb : Str → Option Value} {dp un : Nat} {gd : Option (List Code)} {cn : Str} {cs : Scope} {a : Addr} {ccd : Value} {cl : List (Str × Addr)} {outer : List Env} {A₀ : Around} {base h₀ : Heap} {L : Addr} {m : Str → Option Value} {s : Shared} {Q E : Value → Shared → Prop}
  {news : List (Addr × Obj)} {ds : List Nat} {x : Str} {tx tw : Tok}
  (B : Below A₀ base outer h₀) (F : Fr h₀ L s.heap m) (X : (topK w.params).In h₀) (N : News h₀ L s.heap news) (T : TOP mean mg mb h₀) (hk : cs.kind = .function)
  (hx : x = S ds) (hx1 : x.length ≤ 2) (hx0 : 1 ≤ x.length) (hd : ∀ d ∈ ds, 48 ≤ d ∧ d ≤ 57) (ex : (x == Str.ofString "") = false) (e1 : (Builtin.Str.occurrences (Str.ofString "+-") (Txt.item x 0) 0 (Str.ofString "+-").length 1).isEmpty = true) (e2 : (Txt.item x 0 == Str.ofString "-") = false)
  (hdp : dp + 6 < recursionLimit) (hun : un + 60 < cLine)
  (ret : ∀ t h' tk', Fr h₀ L h' m → News h₀ L h' news → Q (.int (valOf ds) t) { s with heap := h', toks := tk' }) :
  wpAny (model PySem.Challenge.rw_tk0107_01.row.prog w) (ktrTop dp un gd cn cs L a ccd cl outer) (call (.ref 198) [.str x tx, .int 32 tw]) Q E s := by
  refine wpAny_call ?_
  k_dflt cell_enter
  k_steps
  unfold Stop
  rename Fr _ _ _ _ => F1
  rename News _ _ _ _ => N1
  have hxl : x.length = ds.length := by rw [hx]; exact S_len ds
  refine text_inv [Str.ofString "number"] (fun i m₁ nx => nx = news ∧ ∃ t, m₁ (Str.ofString "number") = some (.int (valOf (ds.take i)) t)) hx rfl F1 N1 ⟨rfl, _, rfl⟩ ?_ ?_
  · intro i c t m₁ nx h tk own hin hoff hJ hm F2 N2
    obtain ⟨hnx, ta, ha⟩ := hJ
    replace hnx := hnx.symm
    subst hnx
    rw [map_one ha (fun z h1 h2 => hm z h1 (by simpa using h2))] at F2
    have hc := hd c (List.mem_of_getElem? hin)
    have hil : i < 2 := by have := (List.getElem?_eq_some_iff.mp hin).1; omega
    have hv := valOf_bound (ds := ds) hd i (by omega)
    generalize hw : valOf (ds.take i) = v at F2 hv
    have hc1 := (sign_le hc).1
    have hc2 := (sign_le hc).2
    clear hm ha F1 N1
    k_steps
    unfold Stop
    refine' InvEndN.intro ?F ?N ⟨⟨rfl, ?tk, ?v⟩, ?u⟩ rfl ?a ?b
    case F => assumption
    case N => assumption
    case a => exact fun _ h => List.mem_append.mpr (.inl h)
    case b => exact fun _ h => List.mem_append.mpr (.inr h)
    case v =>
      have e : valOf (ds.take (i + 1)) = 10 * v + (c : Int) - 48 := by
        rw [← hw, List.take_add_one, hin]
        simp [valOf]
      rw [e]
      rfl
    case u =>
      intro z hz hz2
      have hz3 : z ≠ Str.ofString "number" := by simpa using hz2
      simp only [if_neg hz, if_neg hz3]
  · intro m₁ nx h tk hJ hm F2 N2
    obtain ⟨hnx, ta, ha⟩ := hJ
    replace hnx := hnx.symm
    subst hnx
    rw [List.take_length] at ha
    have hv := valOf_bound (ds := ds) hd ds.length (by omega)
    rw [List.take_length] at hv
    rw [← done_one ha (fun z h1 h2 => hm z h1 (by simpa using h2))] at F2
    generalize hw : valOf ds = v at F2 hv ret
    clear hm ha F1 N1
    have hb : (1 : Int) * 2 ^ ((32 : Int) - 1).toNat = 2147483648 := by decide
    have hb1 : -((1 : Int) * 2 ^ ((32 : Int) - 1).toNat) ≤ v := by rw [hb]; omega
    have hb2 : v < (1 : Int) * 2 ^ ((32 : Int) - 1).toNat := by rw [hb]; omega
    clear hb
    k_steps
    all_goals first | (exfalso; contradiction) | exact ret _ _ _ (by assumption) (cb_drop (by assumption) (fun _ h => by repeat (first | exact h | refine List.Mem.tail _ ?_)))
end
section
local macro_rules | `(tactic| walk_at "call ref") => `(tactic| (k_here; (with_reducible show wpAny _ _ (call (Value.ref 198) _) _ _ _); k_dflt (refine' whole_c ?B ?F ?X ?N ?T ?hk ?hx ?hx1 ?hx0 ?hd ?ex ?e1 ?e2 ?hdp ?hun ?_; (case B => k_asm); (case F => k_asm); (case X => k_asm); (case N => k_asm); (case T => k_asm); (case hk => first | exact rfl | assumption); (case hx => assumption); (case hx1 => assumption); (case hx0 => assumption); (case hd => assumption); (case ex => assumption); (case e1 => assumption); (case e2 => assumption); (case hdp => ktr_room); (case hun => ktr_units); intro t9 h9 tk9 F9 N9; (try dsimp only); (try k_fold))))
theorem dupls_c {w : World} {mean : ExcName → Option Value} {mg mb : Str → Option Value} {dp un : Nat} {gd : Option (List Code)} {cn : Str} {cs : Scope} {a : Addr} {ccd : Value} {cl : List (Str × Addr)} {outer : List Env} {A₀ : Around} {base h₀ : Heap} {L : Addr} {m : Str → Option Value} {s : Shared} {Q E : Value → Shared → Prop}
  {news : List (Addr × Obj)} {wx wdx lst : Addr} {es : List DictEntry} {n ne : Nat} {l ds : List Nat} {x y : Str} {tx tn tw tm : Tok} {k : Int}
  (B : Below A₀ base outer h₀) (F : Fr h₀ L s.heap m) (X : (topK w.params).In h₀) (N : News h₀ L s.heap news) (T : TOP mean mg mb h₀) (hk : cs.kind = .function)
  (m1 : (wx, instObj 357 wdx) ∈ news) (m2 : (wdx, dictOf es n) ∈ news) (m3 : (lst, W.listOf #[.str x tx, .str y tn] ne) ∈ news)
  (g1 : getL (Str.ofString "width") es = some (some (.int 32 tw))) (g2 : getL (Str.ofString "most_length") es = some (some (.int 5000 tm)))
  (hx : x = S l) (hv : valOf ds = k) (h0 : 0 ≤ k) (hk2 : k ≤ 100) (hx1 : x.length ≤ 20) (hx2 : (x.length : Int) * k ≤ 1000)
  (hy : y = S ds) (hy1 : y.length ≤ 2) (hy0 : 1 ≤ y.length) (hd : ∀ d ∈ ds, 48 ≤ d ∧ d ≤ 57) (ex : (y == Str.ofString "") = false) (e1 : (Builtin.Str.occurrences (Str.ofString "+-") (Txt.item y 0) 0 (Str.ofString "+-").length 1).isEmpty = true) (e2 : (Txt.item y 0 == Str.ofString "-") = false)
  (hdp : dp + 12 < recursionLimit) (hun : un + 90 < cLine)
  (ret : ∀ z t h' tk', z = S (rep k.toNat l) → Fr h₀ L h' m → News h₀ L h' news → Q (.str z t) { s with heap := h', toks := tk' }) :
  wpAny (model PySem.Challenge.rw_tk0107_01.row.prog w) (ktrTop dp un gd cn cs L a ccd cl outer) (call (.ref 282) [.ref wx, .ref lst]) Q E s := by
  replace N := news1 (news2 N m1 m2) (.tail _ (.tail _ m3))
  clear m1 m2 m3
  subst hv
  refine wpAny_call ?_
  k_dflt cell_enter
  k_steps
  exact ret _ _ _ _ (by rw [hx]; exact S_mul l _) (by assumption) (cb_drop (by assumption) (fun _ h => by repeat (first | exact h | refine List.Mem.tail _ ?_)))
end
end

/-! cuts, cells, words, the least length, facts -/
set_option maxRecDepth 100000
set_option maxHeartbeats 0
def CutEnd (P : Shared → Prop) (f : Flow) (s : Shared) : Prop := f = .next ∧ P s
theorem execs_append (env : Env) (l₂ : List Stmt) : ∀ l₁ : List Stmt, execs (l₁ ++ l₂) env = (execs l₁ env >>= fun f => match f with | .next => execs l₂ env | f => pure f)
  | [] => rfl
  | st :: r => by
    show execs (st :: (r ++ l₂)) env = _
    rw [execs_cons, execs_cons, bind_assoc]
    congr 1
    funext f
    cases f with
    | next => exact execs_append env l₂ r
    | brk => rfl
    | cont => rfl
    | ret v => rfl
theorem cutN {M : Model} {A : Around} {E : Value → Shared → Prop} {s : Shared} {env : Env} {Q : Flow → Shared → Prop} (P : Shared → Prop) (l₁ l₂ : List Stmt) (h1 : wpAny M A (execs l₁ env) (CutEnd P) E s) (h2 : ∀ s', P s' → wpAny M A (execs l₂ env) Q E s') : wpAny M A (execs (l₁ ++ l₂) env) Q E s := by
  rw [execs_append]
  refine wpAny_bind (wpAny_mono h1 (fun f s' h => ?_) fun _ _ e => e)
  obtain ⟨rfl, h⟩ := h
  exact h2 s' h
theorem fr_keep {h₀ h : Heap} {L : Addr} {m : Str → Option Value} {x : Str} {v : Value} (F : Fr h₀ L h m) (e : m x = some v) : Fr h₀ L h (fun y => if y = x then some v else m y) := by
  have : (fun y => if y = x then some v else m y) = m := by
    funext y
    by_cases hy : y = x
    · subst hy; rw [if_pos rfl]; exact e.symm
    · rw [if_neg hy]
  rw [this]; exact F
theorem item_at {prog : Program} {w : World} {A : Around} {E : Value → Shared → Prop} {s : Shared} {value slice : PySem.Expr} {h₀ : Heap} {L D : Addr} {news : List (Addr × Obj)} {vs : List Value} {ne : Nat} {k : Int} {u : Tok} {v : Value} {Q : Value → Shared → Prop}
    (N : News h₀ L s.heap news) (hm : (D, W.listOf vs.toArray ne) ∈ news) (h0 : 0 ≤ k) (hk : k < 2 ^ 63) (hv : vs[k.toNat]? = some v) (h : Q v s)
    (hs : subscripted slice false (.ref D) (.int k u) = operate [.ref D, .int k u] (getItem (.ref D) (.int k u))) :
    wpAny (model prog w) A (subscriptTail value slice (.ref D) (.int k u)) Q E s := by
  have hl : s.heap.IsList D vs.toArray := News.isList N hm
  exact tail_any hl.typeIs slot_list_getitem.lookup (wpAny_getItem_list hl h0 hk (by simpa using hv) h) hs
theorem sub_cons {a : Addr × Obj} {r l : List (Addr × Obj)} (h : a ∈ l) (h' : ∀ p ∈ r, p ∈ l) : ∀ p ∈ a :: r, p ∈ l := by
  intro p hp
  rcases List.mem_cons.mp hp with rfl | hp
  · exact h
  · exact h' p hp
theorem sub_nil {l : List (Addr × Obj)} : ∀ p ∈ ([] : List (Addr × Obj)), p ∈ l := fun _ h => nomatch h
theorem cells_form {ys : List Value} {ns : List Int} {a b c d : Tok} (hI : IntsAre ys (List.map (fun k' => if k' < 0 then -k' else k') (List.take 4 ns))) : ∃ (c0 c1 c2 c3 : Int) (t0 t1 t2 t3 : Tok), (ys ++ (slicePick #[Value.int 10 a, Value.int 3 b, Value.int 2 c, Value.int 1 d] (some ((List.take 4 ns).length : Int)) none none).toList).toArray = #[Value.int c0 t0, Value.int c1 t1, Value.int c2 t2, Value.int c3 t3] ∧ 0 ≤ c0 ∧ 0 ≤ c1 ∧ 0 ≤ c2 ∧ 0 ≤ c3 := by
  have ab : ∀ k : Int, 0 ≤ (if k < 0 then -k else k) := by intro k; split <;> omega
  match ns, hI with
  | [], hI =>
    cases hI
    exact ⟨10, 3, 2, 1, a, b, c, d, by rw [kms_pick_eq]; rfl, by decide, by decide, by decide, by decide⟩
  | [x], hI =>
    cases hI with
    | cons i t h =>
      cases h
      exact ⟨_, 3, 2, 1, _, b, c, d, by rw [kms_pick_eq]; rfl, ab x, by decide, by decide, by decide⟩
  | [x, y], hI =>
    cases hI with
    | cons i t h =>
      cases h with
      | cons i t h =>
        cases h
        exact ⟨_, _, 2, 1, _, _, c, d, by rw [kms_pick_eq]; rfl, ab x, ab y, by decide, by decide⟩
  | [x, y, z], hI =>
    cases hI with
    | cons i t h =>
      cases h with
      | cons i t h =>
        cases h with
        | cons i t h =>
          cases h
          exact ⟨_, _, _, 1, _, _, _, d, by rw [kms_pick_eq]; rfl, ab x, ab y, ab z, by decide⟩
  | x :: y :: z :: v :: r, hI =>
    simp only [List.take_succ_cons, List.take_zero] at hI ⊢
    cases hI with
    | cons i t h =>
      cases h with
      | cons i t h =>
        cases h with
        | cons i t h =>
          cases h with
          | cons i t h =>
            cases h
            exact ⟨_, _, _, _, _, _, _, _, by rw [kms_pick_eq]; rfl, ab x, ab y, ab z, ab v⟩
def bitOf (c : Int) (k : Int) : Str := Txt.item (Str.ofString "ab") ((c.fdiv (2 ^ k.toNat)).fmod 2)
theorem fmod6 (c : Int) : 0 ≤ 1 + c.fmod 6 ∧ 1 + c.fmod 6 ≤ 6 := by
  have h1 := Int.fmod_nonneg_of_pos c (b := 6) (by decide)
  have h2 := Int.fmod_lt_of_pos c (b := 6) (by decide)
  omega
theorem word_k {a k : Int} (h : 0 ≤ a ∧ a ≤ 6) (hh : k < 0 + ((a - 0).toNat : Int)) : k ≤ 5 := by omega
theorem two_pow_ne (k : Int) : (2 : Int) ^ k.toNat ≠ 0 := Int.pow_ne_zero (by decide)
/-- a word of the law: one to six signs a, b -/
def W (l : List Nat) : Prop := 1 ≤ l.length ∧ l.length ≤ 6 ∧ ∀ a ∈ l, a = 97 ∨ a = 98
def bitN (c : Int) (k : Int) : Nat := if (c.fdiv (2 ^ k.toNat)).fmod 2 = 0 then 97 else 98
theorem bit_is (c k : Int) : bitOf c k = S [bitN c k] := by
  unfold bitOf bitN
  have h1 := Int.fmod_nonneg_of_pos (c.fdiv (2 ^ k.toNat)) (b := 2) (by decide)
  have h2 := Int.fmod_lt_of_pos (c.fdiv (2 ^ k.toNat)) (b := 2) (by decide)
  generalize (c.fdiv (2 ^ k.toNat)).fmod 2 = b at h1 h2
  have : b = 0 ∨ b = 1 := by omega
  rcases this with rfl | rfl <;> decide +kernel
theorem join_is (g : Int → Str) (f : Int → Nat) (hg : ∀ k, g k = S [f k]) : ∀ L : List Int, Str.join (Str.ofString "") (L.map g) = S (L.map f)
  | [] => rfl
  | [k] => hg k
  | k :: k' :: r => by
    have ih := join_is g f hg (k' :: r)
    show g k ++ Str.ofString "" ++ Str.join (Str.ofString "") ((k' :: r).map g) = _
    rw [ih, hg k, show Str.ofString "" = S [] from by decide +kernel, S_app, S_app]
    rfl
theorem word_ex (c e : Int) : ∃ l, Txt.join (Str.ofString "") ((rangeKs 0 (1 + e.fmod 6 - 0).toNat).map (bitOf c)) = S l ∧ W l := by
  refine ⟨(rangeKs 0 (1 + e.fmod 6 - 0).toNat).map (bitN c), ?_, ?_⟩
  · show Builtin.Str.glued _ _ = _
    rw [StrLaws.glued_eq_join]
    exact join_is _ _ (bit_is c) _
  · have h := fmod6 e
    refine ⟨?_, ?_, ?_⟩
    · rw [List.length_map, rangeKs_length]
      have h1 := Int.fmod_nonneg_of_pos e (b := 6) (by decide)
      omega
    · rw [List.length_map, rangeKs_length]; omega
    · intro a ha
      obtain ⟨k, _, rfl⟩ := List.mem_map.mp ha
      unfold bitN
      split <;> simp
def pick (p q : Int) (l : List Int) (k : Int) : List Int := if k.fmod p = 0 ∧ k.fmod q = 0 then l ++ [k] else l
theorem pick_grows (p q : Int) : KPfGrows (pick p q) := by
  intro l k
  unfold pick
  split <;> simp
theorem pick_mem {p q M : Int} : ∀ (L acc : List Int), M ∈ L.foldl (pick p q) acc → M ∈ acc ∨ (M ∈ L ∧ M.fmod p = 0 ∧ M.fmod q = 0)
  | [], acc, h => .inl h
  | k :: r, acc, h => by
    rcases pick_mem r (pick p q acc k) h with h1 | ⟨h1, h2⟩
    · unfold pick at h1
      split at h1
      · rename_i hc
        rcases List.mem_append.mp h1 with h3 | h3
        · exact .inl h3
        · rw [List.mem_singleton.mp h3]
          exact .inr ⟨.head _, hc⟩
      · exact .inl h1
    · exact .inr ⟨.tail _ h1, h2⟩
theorem pick_keeps {p q M : Int} : ∀ (L acc : List Int), M ∈ acc → M ∈ L.foldl (pick p q) acc
  | [], acc, h => h
  | k :: r, acc, h => by
    refine pick_keeps r (pick p q acc k) ?_
    unfold pick
    split
    · exact List.mem_append.mpr (.inl h)
    · exact h
theorem pick_has {p q M : Int} (hp : M.fmod p = 0) (hq : M.fmod q = 0) : ∀ (L acc : List Int), M ∈ L → M ∈ L.foldl (pick p q) acc
  | k :: r, acc, h => by
    rcases List.mem_cons.mp h with rfl | h
    · refine pick_keeps r _ ?_
      unfold pick
      rw [if_pos ⟨hp, hq⟩]
      simp
    · exact pick_has hp hq r _ h
theorem pick_ne {p q : Nat} (hp : 1 ≤ p) (hp6 : p ≤ 6) (hq : 1 ≤ q) (hq6 : q ≤ 6) : 0 < ((rangeKs 1 (37 - 1 : Int).toNat).foldl (pick p q) []).length := by
  refine List.length_pos_of_mem (a := (p : Int) * q) (pick_has ?_ ?_ _ _ ?_)
  · rw [Int.fmod_eq_emod_of_nonneg _ (by omega)]; exact Int.mul_emod_right ..
  · rw [Int.fmod_eq_emod_of_nonneg _ (by omega)]; exact Int.mul_emod_left ..
  · have h1 : 1 ≤ p * q := Nat.mul_pos hp hq
    have h2 : p * q ≤ 6 * 6 := Nat.mul_le_mul hp6 hq6
    unfold rangeKs
    refine List.mem_map.mpr ⟨p * q - 1, ?_, ?_⟩
    · rw [List.mem_range]
      show p * q - 1 < 36
      omega
    · have : ((p * q : Nat) : Int) = (p : Int) * q := Int.natCast_mul p q
      omega
theorem pick_got {p q : Nat} {M : Int} (h : M ∈ (rangeKs 1 (37 - 1 : Int).toNat).foldl (pick p q) []) : (1 ≤ M ∧ M ≤ 36) ∧ M.fmod p = 0 ∧ M.fmod q = 0 := by
  rcases pick_mem _ _ h with h | ⟨h, h2⟩
  · cases h
  · have := mem_rangeKs h
    have e : (((37 - 1 : Int).toNat : Nat) : Int) = 36 := by decide
    rw [e] at this
    exact ⟨by omega, h2⟩
theorem div_facts {p : Nat} {M : Int} (hp : 1 ≤ p) (hp6 : p ≤ 6) (hM : 1 ≤ M ∧ M ≤ 36) : 0 ≤ M.fdiv p ∧ M.fdiv p ≤ 36 ∧ (p : Int) * M.fdiv p ≤ 216 := by
  have h1 : 0 ≤ M.fdiv p := Int.fdiv_nonneg (by omega) (by omega)
  have h2 : M.fdiv p ≤ 36 := by
    rw [Int.fdiv_eq_ediv_of_nonneg _ (by omega)]
    exact Int.le_trans (Int.ediv_le_self _ (by omega)) hM.2
  refine ⟨h1, h2, ?_⟩
  exact Int.le_trans (Int.mul_le_mul (show (p : Int) ≤ 6 by omega) h2 h1 (by decide)) (by decide)
theorem ne2 {prog : Program} {w : World} {A : Around} {E : Value → Shared → Prop} {s : Shared} {h₀ : Heap} {L a b : Addr} {news : List (Addr × Obj)} {x1 x2 y1 y2 : Str} {t1 t2 v1 v2 : Tok} {ka kb : Nat} {Q : Value → Shared → Prop}
    (N : News h₀ L s.heap news) (ma : (a, W.listOf #[.str x1 t1, .str x2 t2] ka) ∈ news) (mb : (b, W.listOf #[.str y1 v1, .str y2 v2] kb) ∈ news) (k1 : PyData.strOk x1 = true) (k2 : PyData.strOk x2 = true) (e1 : x1 = y1) (e2 : x2 = y2) (hu : A.units + 64 < cLine) (h : Q (.bool false) s) :
    wpAny (model prog w) A (compareOp .NotEq (.ref a) (.ref b)) Q E s := by
  subst e1 e2
  have ok : ∀ d ∈ [Dat.str x1, Dat.str x2], kqdOk 8 d = true := by
    intro d hd
    simp only [List.mem_cons, List.not_mem_nil, or_false] at hd
    rcases hd with rfl | rfl
    · exact k1
    · exact k2
  refine kqd_ne (ds := [Dat.str x1, Dat.str x2]) (es := [Dat.str x1, Dat.str x2]) (xs := [.str x1 t1, .str x2 t2]) (ys := [.str x1 v1, .str x2 v2]) N ma rfl rfl (.cons (.str _ _) (.cons (.str _ _) .nil)) (fun _ h => h) mb rfl rfl (.cons (.str _ _) (.cons (.str _ _) .nil)) (fun _ h => h) ok ok hu ?_
  simpa using h
theorem strOk_S {l : List Nat} (h : ∀ a ∈ l, a = 97 ∨ a = 98) : PyData.strOk (S l) = true := by
  unfold PyData.strOk S
  rw [List.all_toArray, List.all_eq_true]
  intro a ha
  rcases h a ha with rfl | rfl <;> decide
theorem rep_mem {n : Nat} {l : List Nat} (h : ∀ a ∈ l, a = 97 ∨ a = 98) : ∀ a ∈ rep n l, a = 97 ∨ a = 98 := by
  intro a ha
  unfold rep at ha
  obtain ⟨b, hb, ha⟩ := List.mem_flatten.mp ha
  rw [(List.mem_replicate.mp hb).2] at ha
  exact h a ha
theorem pow_len {l : List Nat} {p : Nat} {M : Int} (hl : p = l.length) (h1 : 1 ≤ p) (h6 : p ≤ 6) (hM : 1 ≤ M ∧ M ≤ 36) (hMx : M.fmod p = 0) : (M.fdiv p).toNat * l.length ≤ 40 := by
  subst hl
  have e : M.fdiv l.length * (l.length : Int) = M := by
    have h := Int.fmod_def M l.length
    rw [hMx] at h
    have := Int.mul_comm (l.length : Int) (M.fdiv l.length)
    omega
  have h0 : 0 ≤ M.fdiv l.length := Int.fdiv_nonneg (by omega) (by omega)
  have e2 : (((M.fdiv l.length).toNat * l.length : Nat) : Int) = M := by
    rw [Int.natCast_mul, Int.toNat_of_nonneg h0]; exact e
  omega
theorem pow_exact {p : Nat} {M : Int} (h1 : 1 ≤ p) (hM : 1 ≤ M ∧ M ≤ 36) (hMx : M.fmod p = 0) : (((M.fdiv p).toNat * p : Nat) : Int) = M := by
  have e : M.fdiv p * (p : Int) = M := by
    have h := Int.fmod_def M p
    rw [hMx] at h
    have := Int.mul_comm (p : Int) (M.fdiv p)
    omega
  have h0 : 0 ≤ M.fdiv p := Int.fdiv_nonneg (by omega) (by omega)
  rw [Int.natCast_mul, Int.toNat_of_nonneg h0]; exact e
theorem pow_law {l m : List Nat} {p q : Nat} {M : Int} (hl1 : 1 ≤ l.length) (hm1 : 1 ≤ m.length) (hl : p = l.length) (hm : q = m.length) (hM : 1 ≤ M ∧ M ≤ 36) (hMx : M.fmod p = 0) (hMy : M.fmod q = 0) : (rep (M.fdiv p).toNat l == rep (M.fdiv q).toNat m) = (root l == root m) := by
  subst hl hm
  have e1 := pow_exact hl1 hM hMx
  have e2 := pow_exact hm1 hM hMy
  refine pow_iff hl1 hm1 ?_ (by omega)
  refine Nat.pos_of_ne_zero fun h => ?_
  rw [h] at e1
  simp at e1
  omega
theorem S_ne_nil {l : List Nat} (h : 1 ≤ l.length) : (S l == Str.ofString "") = false := by
  rw [show Str.ofString "" = S [] from by decide +kernel, S_beq]
  cases l with
  | nil => simp at h
  | cons a r => rfl
theorem app_mem {l m : List Nat} (h : ∀ a ∈ l, a = 97 ∨ a = 98) (h' : ∀ a ∈ m, a = 97 ∨ a = 98) : ∀ a ∈ l ++ m, a = 97 ∨ a = 98 := by
  intro a ha
  rcases List.mem_append.mp ha with ha | ha
  · exact h a ha
  · exact h' a ha
/-- the digits of a small number -/
theorem digits {k : Int} (h0 : 0 ≤ k) (h1 : k ≤ 12) : ∃ ds : List Nat, Str.ofString (toString k) = S ds ∧ valOf ds = k ∧ ds.length ≤ 2 ∧ 1 ≤ ds.length ∧ (∀ d ∈ ds, 48 ≤ d ∧ d ≤ 57) ∧ (S ds == Str.ofString "") = false ∧ (Builtin.Str.occurrences (Str.ofString "+-") (Txt.item (S ds) 0) 0 (Str.ofString "+-").length 1).isEmpty = true ∧ (Txt.item (S ds) 0 == Str.ofString "-") = false := by
  have : k = 0 ∨ k = 1 ∨ k = 2 ∨ k = 3 ∨ k = 4 ∨ k = 5 ∨ k = 6 ∨ k = 7 ∨ k = 8 ∨ k = 9 ∨ k = 10 ∨ k = 11 ∨ k = 12 := by omega
  rcases this with rfl | rfl | rfl | rfl | rfl | rfl | rfl | rfl | rfl | rfl | rfl | rfl | rfl
  · exact ⟨[48], by decide +kernel⟩
  · exact ⟨[49], by decide +kernel⟩
  · exact ⟨[50], by decide +kernel⟩
  · exact ⟨[51], by decide +kernel⟩
  · exact ⟨[52], by decide +kernel⟩
  · exact ⟨[53], by decide +kernel⟩
  · exact ⟨[54], by decide +kernel⟩
  · exact ⟨[55], by decide +kernel⟩
  · exact ⟨[56], by decide +kernel⟩
  · exact ⟨[57], by decide +kernel⟩
  · exact ⟨[49, 48], by decide +kernel⟩
  · exact ⟨[49, 49], by decide +kernel⟩
  · exact ⟨[49, 50], by decide +kernel⟩
theorem kk_facts {l m : List Nat} {p q d : Nat} (Wl : W l) (Wm : W m) (hp : p = l.length) (hq : q = m.length) (hd : d = (root l).length) : 0 ≤ ((p : Int) + q).fdiv d ∧ ((p : Int) + q).fdiv d ≤ 12 ∧ (d : Int) * ((p : Int) + q).fdiv d ≤ 1000 ∧ d ≤ 6 ∧ (((p : Int) + q).fdiv d).toNat = (l.length + m.length) / (root l).length := by
  subst hp hq hd
  obtain ⟨a1, a2, a3, a4, a5, a6⟩ := root_len Wl.1
  have hl6 := Wl.2.1
  have hm6 := Wm.2.1
  have e : ((l.length : Int) + m.length).fdiv (root l).length = (((l.length + m.length) / (root l).length : Nat) : Int) := by
    rw [Int.fdiv_eq_ediv_of_nonneg _ (by omega)]
    rfl
  have h1 : (l.length + m.length) / (root l).length ≤ l.length + m.length := Nat.div_le_self _ _
  have h2 : (root l).length * ((l.length + m.length) / (root l).length) ≤ l.length + m.length := Nat.mul_div_le _ _
  rw [e]
  clear e
  generalize (l.length + m.length) / (root l).length = qq at h1 h2 ⊢
  refine ⟨by omega, by omega, ?_, by omega, Int.toNat_natCast _⟩
  rw [← Int.natCast_mul]
  omega
def SeenAre (vs : List Value) (L : List (List Nat)) : Prop := DatAll [] vs (L.map fun l => Dat.str (S l))
theorem SeenAre.len {vs : List Value} {L : List (List Nat)} (h : SeenAre vs L) : vs.length = L.length := by
  have := DatAll.length h
  simpa using this
theorem SeenAre.snoc {vs : List Value} {L : List (List Nat)} {l : List Nat} {t : Tok} (h : SeenAre vs L) : SeenAre (vs ++ [.str (S l) t]) (L ++ [l]) := by
  unfold SeenAre
  rw [List.map_append]
  exact DatAll.append h (.cons (.str _ _) .nil)
section
variable {prog : Program} {w : World} {A : Around} {E : Value → Shared → Prop} {s : Shared} {h₀ : Heap} {L a : Addr} {news : List (Addr × Obj)} {vs : List Value} {ka : Nat} {l : List Nat} {t : Tok} {Ls : List (List Nat)} {Q : Value → Shared → Prop}
theorem notIn_t (N : News h₀ L s.heap news) (ma : (a, W.listOf vs.toArray ka) ∈ news) (hs : SeenAre vs Ls) (ok : ∀ m ∈ Ls, PyData.strOk (S m) = true) (k : PyData.strOk (S l) = true) (hn : l ∉ Ls) (hu : A.units + 64 < cLine) (h : Q (.bool true) s) :
    wpAny (model prog w) A (compareOp .NotIn (.str (S l) t) (.ref a)) Q E s := by
  refine kqd_notIn (n₁ := []) (n₂ := []) (d := Dat.str (S l)) N ma rfl rfl hs (fun _ h => nomatch h) (.str _ _) (fun _ h => nomatch h) ?_ k hu ?_
  · intro d hd
    obtain ⟨m, hm, rfl⟩ := List.mem_map.mp hd
    exact ok m hm
  · have : Dat.str (S l) ∉ Ls.map fun l => Dat.str (S l) := by
      intro hd
      obtain ⟨m, hm, e⟩ := List.mem_map.mp hd
      exact hn (S_inj (Dat.str.inj e) ▸ hm)
    simpa [this] using h
theorem notIn_f (N : News h₀ L s.heap news) (ma : (a, W.listOf vs.toArray ka) ∈ news) (hs : SeenAre vs Ls) (ok : ∀ m ∈ Ls, PyData.strOk (S m) = true) (k : PyData.strOk (S l) = true) (hn : l ∈ Ls) (hu : A.units + 64 < cLine) (h : Q (.bool false) s) :
    wpAny (model prog w) A (compareOp .NotIn (.str (S l) t) (.ref a)) Q E s := by
  refine kqd_notIn (n₁ := []) (n₂ := []) (d := Dat.str (S l)) N ma rfl rfl hs (fun _ h => nomatch h) (.str _ _) (fun _ h => nomatch h) ?_ k hu ?_
  · intro d hd
    obtain ⟨m, hm, rfl⟩ := List.mem_map.mp hd
    exact ok m hm
  · have : Dat.str (S l) ∈ Ls.map fun l => Dat.str (S l) := List.mem_map.mpr ⟨l, hn, rfl⟩
    simpa [this] using h
theorem seen_append {m : Str → Option Value} {rest : List (Addr × Obj)} {x : Value} {Q : Value → Shared → Prop} (F : Fr h₀ L s.heap m) (N : News h₀ L s.heap ((a, W.listOf vs.toArray ka) :: rest)) (hU : ∀ p ∈ rest, p.1 ≠ a) (hv : vs.length ≤ 10)
    (h : ∀ h', Fr h₀ L h' m → News h₀ L h' ((a, W.listOf (vs ++ [x]).toArray (ka + 1)) :: rest) → Q .none { s with heap := h' }) : wpAny (model prog w) A (call (.builtin "list.append") [.ref a, x]) Q E s := by
  refine append_K F N (Upd.head hU) (fun h' F' N' => h h' F' ?_) (by rw [sizeLine_eq, List.size_toArray]; omega)
  rw [List.push_toArray] at N'
  exact N'
end
theorem rot_mem {l : List Nat} {t : Nat} (h : ∀ a ∈ l, a = 97 ∨ a = 98) : ∀ a ∈ rot l t, a = 97 ∨ a = 98 := by
  intro a ha
  rcases List.mem_append.mp ha with ha | ha
  · exact h a (List.mem_of_mem_drop ha)
  · exact h a (List.mem_of_mem_take ha)
theorem seen_ok {l : List Nat} (h : ∀ a ∈ l, a = 97 ∨ a = 98) (i : Nat) : ∀ m ∈ seenAt l i, PyData.strOk (S m) = true := by
  intro m hm
  obtain ⟨t, _, rfl⟩ := List.mem_map.mp hm
  exact strOk_S (rot_mem h)
theorem seen_le {l : List Nat} (h : W l) (i : Nat) : (seenAt l i).length ≤ 6 := by
  unfold seenAt
  rw [List.length_map, List.length_range]
  have := (root_len h.1).2.1
  have := h.2.1
  omega
theorem map_tb {x y z : Str} {m₁ m₀ : Str → Option Value} {k v : Value} (ha : m₁ y = some v) (hm : ∀ q, q ≠ x → ([y, z] : List Str).contains q = false → m₁ q = m₀ q) :
    (fun q => if q = x then some k else m₁ q) = fun q => if q = x then some k else if q = y then some v else if q = z then m₁ z else m₀ q := by
  funext q
  by_cases h1 : q = x
  · simp [h1]
  · simp only [if_neg h1]
    by_cases h2 : q = y
    · subst h2; simp [ha]
    · simp only [if_neg h2]
      by_cases h3 : q = z
      · subst h3; simp
      · simp only [if_neg h3]
        exact hm q h1 (by simp [h2, h3])
theorem len_of {z : Str} {l : List Nat} (h : z = S l) : z.length = l.length := by rw [h]; exact S_len l
theorem turn_sl {l : List Nat} {x : Str} {i : Nat} (hx : x = S l) : Txt.slice x (some (1 + (i : Int))) none ++ Txt.slice x none (some (1 + (i : Int))) = S (rot l (i + 1)) := by
  subst hx
  rw [S_drop l _ (by omega), S_take l _ (by omega), S_app]
  have e : (1 + (i : Int)).toNat = i + 1 := by omega
  rw [e]
  rfl
theorem step_is {l : List Nat} {n : Nat} {i : Nat} (hn : n = l.length) (hi : i < l.length) : ((rep (2 : Int).toNat (rot l i)).drop ((2 : Int) - 1).toNat).take (n : Int).toNat = rot l (i + 1) := by
  subst hn
  exact rot_step hi
theorem back_is {l : List Nat} {n : Nat} {i : Nat} (hn : n = l.length) (hi : i < l.length) : ((rep (2 : Int).toNat l.reverse).drop (1 + ((n : Int) - (1 + (i : Int))) - 1).toNat).take (n : Int).toNat = (rot l (i + 1)).reverse := by
  subst hn
  have e : (1 + ((l.length : Int) - (1 + (i : Int))) - 1).toNat = l.length - (i + 1) := by omega
  rw [e]
  exact rot_back (by omega)
theorem turn_q {l : List Nat} {x z r : Str} {i : Nat} (hl : 1 ≤ l.length) (hi : i < l.length) (hx : x = S l) (hz : z = S (rot l (i + 1))) (hr : r = S (root l)) : ((z == x) != ((1 + (i : Int)).fmod (r.length : Int) == 0)) = false := by
  subst hx hz hr
  rw [S_beq, rot_self hl (by omega), S_len, Int.fmod_eq_emod_of_nonneg _ (by omega), show (1 + (i : Int)) = ((i + 1 : Nat) : Int) by omega, ← Int.natCast_emod]
  have e : ((((i + 1) % (root l).length : Nat) : Int) == 0) = ((i + 1) % (root l).length == 0) := by
    rw [Bool.eq_iff_iff, beq_iff_eq, beq_iff_eq]
    omega
  rw [e]
  simp

/-! the law, statement by statement -/
section
local macro_rules | `(tactic| walk_at "subscriptTail Name Slice ref ref") => `(tactic| (k_here; (with_reducible show wpAny _ _ (subscriptTail _ (PySem.Expr.Slice (some _) none none _) (Value.ref _) (Value.ref _)) _ _ _); k_dflt (refine' kmk_slice ?F ?N ?l ?p ?q ?_ ?s ?t ?z; (case F => k_asm); (case N => k_asm); (case l => kmk_list); (case p => kmk_part); (case q => kmk_part); (case s => with_unfolding_all rfl); (case t => kmk_pure); (case z => kmk_size)); intro D' h' F' N' l1; (try k_lt l1); (try k_sweep)))
theorem cells_sz {ys : List Value} {its : Array Value} {lo hi st : Option Int} {l : List Int} (h : ys.length = (List.map (fun k' => if k' < 0 then -k' else k') (List.take 4 l)).length) (hi' : its.size ≤ 10) : (ys.toArray).toList.length + (slicePick its lo hi st).toList.length ≤ sizeLine := by
  have q := slicePick_size_le its lo hi st
  have e1 : ys.toArray.toList.length = ys.length := by simp
  have e2 : (slicePick its lo hi st).toList.length = (slicePick its lo hi st).size := by simp
  rw [e1, e2, h, List.length_map, List.length_take, sizeLine_eq]
  omega
local macro_rules | `(tactic| walk_at "binaryOp Add ref ref") => `(tactic| (k_here; (with_reducible show wpAny _ _ (binaryOp _ (Value.ref _) (Value.ref _)) _ _ _); k_dflt (refine' kmk_add_lit ?F ?N ?ka ?kb rfl ?_ ?z; (case F => k_asm); (case N => k_asm); (case ka => kmk_list); (case kb => kmk_list); (case z => exact cells_sz (by assumption) (Nat.le_of_ble_eq_true rfl))); intro D' h' F' N' l1; (try k_lt l1); (try k_sweep)))
def MarkS : Prop := (7 : Nat) = 7
local macro_rules | `(tactic| walk_at "CompSrc") => `(tactic| ((rename MarkS => mk9); refine stop_here ?_))
local macro_rules | `(tactic| walk_at "CompSrcT") => `(tactic| ((rename MarkS => mk9); refine stop_here ?_))
local macro_rules | `(tactic| walk_at "CompEnd") => `(tactic| ((rename MarkS => mk9); refine stop_here ?_))
local macro_rules | `(tactic| walk_at "KPfDone") => `(tactic| ((rename MarkS => mk9); refine stop_here ?_))
local macro_rules | `(tactic| walk_at "CutEnd") => `(tactic| (refine stop_here ?_))
local macro_rules | `(tactic| walk_at "callWith builtin:list.append") => `(tactic| k_dflt (refine callWith_method1 ?_))
local macro_rules | `(tactic| walk_at "binaryOp Pow int int") => `(tactic| ((with_reducible refine pow_int_small ?kb1 ?kb2 ?kb3 ?_); (case kb1 => assumption); (case kb2 => omega); (case kb3 => decide)))
local macro_rules | `(tactic| walk_at "binaryOp FloorDiv int int") => `(tactic| ((with_reducible refine floordiv_int ?kb1 ?_); (case kb1 => assumption)))
local macro_rules | `(tactic| walk_at "call ref") => `(tactic| (k_here; (with_reducible show wpAny _ _ (call (Value.ref 389) _) _ _ _); k_dflt (refine' root_c ?B ?F ?X ?N ?T ?hk ?hx ?hx1 ?hx0 ?hdp ?hun ?_; (case B => k_asm); (case F => k_asm); (case X => k_asm); (case N => k_asm); (case T => k_asm); (case hk => first | exact rfl | assumption); (case hx => assumption); (case hx1 => assumption); (case hx0 => assumption); (case hdp => ktr_room); (case hun => ktr_units); intro z9 t9 h9 tk9 e9 F9 N9; (try dsimp only); (try k_fold))))
local macro_rules | `(tactic| walk_at "call builtin:min") => `(tactic| (refine stop_here ?_))
local macro_rules | `(tactic| walk_at "call ref") => `(tactic| (k_here; (with_reducible show wpAny _ _ (call (Value.ref 282) _) _ _ _); k_dflt (refine' dupl_c ?B ?F ?X ?N ?T ?hk ?m1 ?m2 ?m3 ?g1 ?g2 ?hx ?h0 ?hk2 ?hx1 ?hx2 ?hdp ?hun ?_; (case B => k_asm); (case F => k_asm); (case X => k_asm); (case N => k_asm); (case T => k_asm); (case hk => first | exact rfl | assumption); (case m1 => k_mem); (case m2 => k_mem); (case m3 => k_mem); (case g1 => assumption); (case g2 => assumption); (case hx => assumption); (case h0 => assumption); (case hk2 => omega); (case hx1 => omega); (case hx2 => omega); (case hdp => ktr_room); (case hun => ktr_units); intro z9 t9 h9 tk9 e9 F9 N9; (have l9 := len_of e9); (try dsimp only); (try k_fold))))
local macro_rules | `(tactic| walk_at "compareOp NotEq ref ref") => `(tactic| (k_here; (with_reducible show wpAny _ _ (compareOp CmpOp.NotEq (Value.ref _) (Value.ref _)) _ _ _); k_dflt (refine' ne2 ?N ?ma ?mb ?k1 ?k2 ?e1 ?e2 ?hu ?_; (case N => k_asm); (case ma => k_mem); (case mb => k_mem); (case k1 => assumption); (case k2 => assumption); (case e1 => first | assumption | rfl); (case e2 => first | assumption | rfl); (case hu => ke_room))))
local macro_rules | `(tactic| walk_at "call ref") => `(tactic| (k_here; (with_reducible show wpAny _ _ (call (Value.ref 303) _) _ _ _); k_dflt (refine' ident_t ?B ?F ?X ?N ?T ?hk ?m3 ?hx1 ?hx2 ?e ?hdp ?hun ?_; (case B => k_asm); (case F => k_asm); (case X => k_asm); (case N => k_asm); (case T => k_asm); (case hk => first | exact rfl | assumption); (case m3 => k_mem); (case hx1 => assumption); (case hx2 => assumption); (case e => assumption); (case hdp => ktr_room); (case hun => ktr_units); intro t9 h9 tk9 F9 N9; (try dsimp only); (try k_fold))))
local macro_rules | `(tactic| walk_at "call ref") => `(tactic| (k_here; (with_reducible show wpAny _ _ (call (Value.ref 303) _) _ _ _); k_dflt (refine' ident_f ?B ?F ?X ?N ?T ?hk ?m3 ?hx1 ?hx2 ?e ?hdp ?hun ?_; (case B => k_asm); (case F => k_asm); (case X => k_asm); (case N => k_asm); (case T => k_asm); (case hk => first | exact rfl | assumption); (case m3 => k_mem); (case hx1 => assumption); (case hx2 => assumption); (case e => assumption); (case hdp => ktr_room); (case hun => ktr_units); intro f9 d9 h9 tk9 F9 N9; (try dsimp only); (try k_fold))))
local macro_rules | `(tactic| walk_at "call ref") => `(tactic| (k_here; (with_reducible show wpAny _ _ (call (Value.ref 382) _) _ _ _); k_dflt (refine' join_c ?B ?F ?X ?N ?T ?hk ?m1 ?m2 ?g2 ?hx1 ?hx2 ?hx0 ?hy0 ?ex ?ey ?hdp ?hun ?_; (case B => k_asm); (case F => k_asm); (case X => k_asm); (case N => k_asm); (case T => k_asm); (case hk => first | exact rfl | assumption); (case m1 => k_mem); (case m2 => k_mem); (case g2 => assumption); (case hx1 => omega); (case hx2 => omega); (case hx0 => omega); (case hy0 => omega); (case ex => assumption); (case ey => assumption); (case hdp => ktr_room); (case hun => ktr_units); intro t9 h9 tk9 F9 N9; (try dsimp only); (try k_fold))))
local macro_rules | `(tactic| walk_at "subscriptTail Name Constant ref int") => `(tactic| (k_here; (with_reducible show wpAny _ _ (subscriptTail _ _ (Value.ref _) (Value.int _ _)) _ _ _); k_dflt (refine' item_at ?N ?m ?k0 ?k1 ?kv ?_ ?s; (case N => k_asm); (case m => k_mem); (case k0 => decide); (case k1 => decide); (case kv => exact rfl); (case s => with_unfolding_all rfl))))
local macro_rules | `(tactic| walk_at "call ref") => `(tactic| (k_here; (with_reducible show wpAny _ _ (call (Value.ref 282) _) _ _ _); k_dflt (refine' dupls_c ?B ?F ?X ?N ?T ?hk ?m1 ?m2 ?m3 ?g1 ?g2 ?hx ?hv ?h0 ?hk2 ?hx1 ?hx2 ?hy ?hy1 ?hy0 ?hd ?ex ?e1 ?e2 ?hdp ?hun ?_; (case B => k_asm); (case F => k_asm); (case X => k_asm); (case N => k_asm); (case T => k_asm); (case hk => first | exact rfl | assumption); (case m1 => k_mem); (case m2 => k_mem); (case m3 => k_mem); (case g1 => assumption); (case g2 => assumption); (case hx => assumption); (case hv => assumption); (case h0 => assumption); (case hk2 => omega); (case hx1 => omega); (case hx2 => assumption); (case hy => assumption); (case hy1 => omega); (case hy0 => omega); (case hd => assumption); (case ex => assumption); (case e1 => assumption); (case e2 => assumption); (case hdp => ktr_room); (case hun => ktr_units); intro z9 t9 h9 tk9 e9 F9 N9; (try dsimp only); (try k_fold))))
local macro_rules | `(tactic| walk_at "call ref") => `(tactic| (k_here; (with_reducible show wpAny _ _ (call (Value.ref 275) _) _ _ _); k_dflt (refine' size_c ?B ?F ?X ?N ?T ?hk ?m3 ?hx1 ?hdp ?hun ?_; (case B => k_asm); (case F => k_asm); (case X => k_asm); (case N => k_asm); (case T => k_asm); (case hk => first | exact rfl | assumption); (case m3 => k_mem); (case hx1 => omega); (case hdp => ktr_room); (case hun => ktr_units); intro t9 h9 tk9 F9 N9; (try dsimp only); (try k_fold))))
local macro_rules | `(tactic| walk_at "exec For Name Call cons nil") => `(tactic| (k_here; (rename Fr _ _ _ _ => lF'); (with_unfolding_all refine' For_invVF lF' ?k1 ?k2 ?_; (case k1 => exact rfl); (case k2 => exact rfl); k_whole)))
local macro_rules | `(tactic| walk_at "call type:range") => `(tactic| ((rename Fr _ _ _ _ => F'); (rename News _ _ _ _ => N'); (with_unfolding_all refine range2_rows F' N' ?_; intro _ _ _ _ _ _ _ _ _)))
local macro_rules | `(tactic| walk_at "pyIter ref") => `(tactic| ((with_reducible show wpAny _ _ (pyIter (Value.ref _)) (fun it s₂ => LoopAtV _ _ _ _ _ _ _ _ _ it s₂) _ _); refine stop_here ?_))
local macro_rules | `(tactic| walk_at "InvEndN") => `(tactic| (refine stop_here ?_))
local macro_rules | `(tactic| walk_at "compareOp NotIn str ref") => `(tactic| (k_here; k_dflt (first
  | (refine' notIn_t ?N ?ma ?hs ?ok ?k ?hn ?hu ?_; (case N => k_asm); (case ma => k_mem); (case hs => assumption); (case ok => assumption); (case k => assumption); (case hn => assumption); (case hu => ke_room))
  | (refine' notIn_f ?N ?ma ?hs ?ok ?k ?hn ?hu ?_; (case N => k_asm); (case ma => k_mem); (case hs => assumption); (case ok => assumption); (case k => assumption); (case hn => assumption); (case hu => ke_room)))))
local macro_rules | `(tactic| walk_at "call builtin:list.append") => `(tactic| (k_here; k_dflt (refine' seen_append ?F ?N ?hU ?hv ?_; (case F => k_asm); (case N => k_asm); (case hU => assumption); (case hv => omega)); intro h' F' N'))
local macro_rules | `(tactic| walk_at "call ref") => `(tactic| (k_here; (with_reducible show wpAny _ _ (call (Value.ref 296) _) _ _ _); k_dflt (refine' substr_c ?B ?F ?X ?N ?T ?hk ?m1 ?m2 ?m3 ?g1 ?hx ?h0 ?hk2 ?hx1 ?hx2 ?hdp ?hun ?_; (case B => k_asm); (case F => k_asm); (case X => k_asm); (case N => k_asm); (case T => k_asm); (case hk => first | exact rfl | assumption); (case m1 => k_mem); (case m2 => k_mem); (case m3 => k_mem); (case g1 => assumption); (case hx => assumption); (case h0 => omega); (case hk2 => omega); (case hx1 => omega); (case hx2 => omega); (case hdp => ktr_room); (case hun => ktr_units); intro z9 t9 h9 tk9 e9 F9 N9; (try dsimp only); (try k_fold))))
local macro_rules | `(tactic| walk_at "call ref") => `(tactic| (k_here; (with_reducible show wpAny _ _ (call (Value.ref 289) _) _ _ _); k_dflt (refine' rev_c ?B ?F ?X ?N ?T ?hk ?m3 ?hx ?hx1 ?hdp ?hun ?_; (case B => k_asm); (case F => k_asm); (case X => k_asm); (case N => k_asm); (case T => k_asm); (case hk => first | exact rfl | assumption); (case m3 => k_mem); (case hx => assumption); (case hx1 => omega); (case hdp => ktr_room); (case hun => ktr_units); intro z9 t9 h9 tk9 e9 F9 N9; (have l9 := len_of e9); (try dsimp only); (try k_fold))))
theorem m1 : PySem.Challenge.rw_tk0107_01.Holds := by
  refine holds_law said0 fun said => ?_
  clear said
  refine holds_open (q := topV) (loose := [Str.ofString "SnobolError"]) (Xt := XT) (XP := XL topV []) (Yf := Hook.obs (kHook topK kAs kAs_ok)) (Ya := Hook.val (kHook topK kAs kAs_ok)) (YP := Hook.says (kHook topK kAs kAs_ok)) (N := 5812) left0 (Hook.of (kHook topK kAs kAs_ok)) (Hook.keeps (kHook topK kAs kAs_ok)) (fun s e => xl_of s (Bool.and_eq_true_iff.mp e).1) XL.keeps (by rfl) (by rfl) (by rfl) (fun s e => recFacts_of (Bool.and_eq_true_iff.mp e).2) (by rfl) (by decide +kernel) (by decide +kernel) ⟨rfl, rfl, rfl, rfl, rfl, by decide +kernel⟩ ?hwu1 ?hcu1
  case hwu1 => w_witness2
  k_fill
  intro w s₀ s₁ mg mb G Y fa o pm cd doc dV kV ho hd hcd hD hmg hg args vals as hpre hlay hrd hwl hlo
  have KX := kIn_of Y
  have XM := (Ground.X G).1
  have VL := (Ground.X G).2
  refine Ground.open G ?_
  intro T B D TE TW
  try (refine guard_noD D (by decide +kernel) ?_; clear D)
  obtain ⟨_, _, MB⟩ := bmod_of_top T
  have TA := at_of_top T
  try (obtain ⟨_, _, he, B0⟩ := based_of_top T rfl hmg ho hd; have he' : cd = _ := he; subst he'; clear he)
  clear hmg
  wrow_args hpre hlay hrd hwl hlo
  all_goals (
    first | refine callC_kw (enter_call ?_) | refine enter_call ?_ | refine callC_kw (enter_callW ?_) | refine enter_callW ?_ | w_how
    w_top off
    try refine codeAny_mono ?_ (fun _ _ g => GoodW.toG g)
    have K0 := below_caller (Top.heap T)
    w_call any ho hd hcd hD T F
    clear hd TA
    k_drop
    skip)
  rename_i aw bw cv cw ns hs hlay0 hL1 hr1 hl2 la lb sa vs lc hLs ra w1 r0 hI hr hc1 hc2 h₁ tk₁ o6 o5 o4 o3 o2 o1 d6 d5 d4 d3 d2 d1 N0 X0
  clear G Y hcd hD X0 B ho XM VL TE TW MB
  all_goals try k_fold
  dsimp only
  refine cutN (fun s' => ∃ (h' : Heap) (tk : Nat) (D : Addr) (oC : Obj) (u : Str → Option Value) (c0 c1 c2 c3 : Int) (t0 t1 t2 t3 : Tok), s' = { s₁ with heap := h', toks := tk } ∧ Fr s₁.heap s₁.heap.objs.size h' (u) ∧ News s₁.heap s₁.heap.objs.size h' [(D, W.listOf #[.int c0 t0, .int c1 t1, .int c2 t2, .int c3 t3] 0), (s₁.heap.objs.size + 1 + 1 + 1 + 1 + 1 + 1, o6), (s₁.heap.objs.size + 1 + 1 + 1 + 1 + 1, o5), (s₁.heap.objs.size + 1 + 1 + 1 + 1, o4), (s₁.heap.objs.size + 1 + 1 + 1, o3), (s₁.heap.objs.size + 1 + 1, oC), (s₁.heap.objs.size + 1, o1)] ∧ oC.data = .cell (some (.ref D)) ∧ (0 ≤ c0 ∧ 0 ≤ c1 ∧ 0 ≤ c2 ∧ 0 ≤ c3) ∧ @LT.lt Nat _ (s₁.heap.objs.size + 1 + 1 + 1 + 1 + 1 + 1) D) [_, _] _ ?_ ?_
  · k_steps
    rename Fr _ _ _ _ => Fz
    rename News _ _ _ _ => Nz
    rename (Obj.data _ = Data.cell (some (Value.ref _))) => dz
    obtain ⟨c0, c1, c2, c3, t0, t1, t2, t3, e, hc⟩ := cells_form (by assumption)
    rw [e] at Nz
    refine ⟨rfl, _, _, _, _, _, c0, c1, c2, c3, t0, t1, t2, t3, rfl, Fz, cb_drop Nz ?_, dz, hc, by omega⟩
    exact sub_cons (by k_mem) (sub_cons (by k_mem) (sub_cons (by k_mem) (sub_cons (by k_mem) (sub_cons (by k_mem) (sub_cons (by k_mem) (sub_cons (by k_mem) sub_nil))))))
  clear F N0 d2 o2 hI hLs r0 ra w1 hs hL1 hc1 hc2
  rintro s' ⟨h', tk, D, oC, u, c0, c1, c2, c3, t0, t1, t2, t3, rfl, F, N, dC, hc, lt0⟩
  obtain ⟨hc0, hc1, hc2, hc3⟩ := hc
  have mkS : MarkS := rfl
  refine cutN (fun s' => ∃ (h' : Heap) (tk : Nat) (wx wdx wl : Addr) (es : List DictEntry) (n : Nat) (oW : Obj) (u : Str → Option Value), s' = { s₁ with heap := h', toks := tk } ∧ Fr s₁.heap s₁.heap.objs.size h' (fun y => if y = Str.ofString "words" then some (.ref wl) else u y) ∧ News s₁.heap s₁.heap.objs.size h' [(wl, W.listOf #[] 0), (wx, instObj 357 wdx), (wdx, dictOf es n), (D, W.listOf #[.int c0 t0, .int c1 t1, .int c2 t2, .int c3 t3] 0), (s₁.heap.objs.size + 1 + 1 + 1 + 1 + 1 + 1, o6), (s₁.heap.objs.size + 1 + 1 + 1 + 1 + 1, o5), (s₁.heap.objs.size + 1 + 1 + 1 + 1, o4), (s₁.heap.objs.size + 1 + 1 + 1, oW), (s₁.heap.objs.size + 1 + 1, oC), (s₁.heap.objs.size + 1, o1)] ∧ oW.data = .cell (some (.ref wx)) ∧ (∃ tw, getL (Str.ofString "width") es = some (some (.int 32 tw))) ∧ (∃ tm, getL (Str.ofString "most_length") es = some (some (.int 5000 tm))) ∧ (@LT.lt Nat _ D wx ∧ @LT.lt Nat _ wdx wx ∧ @LT.lt Nat _ D wdx ∧ @LT.lt Nat _ wx wl)) [_] _ ?_ ?_
  · k_steps
    rename Fr _ _ _ _ => Fz
    rename News _ _ _ _ => Nz
    rename (Obj.data _ = Data.cell (some (Value.ref _))) => dz
    refine' ⟨rfl, _, _, _, _, _, _, _, _, _, rfl, Fz, cb_drop Nz ?n1u2, dz, ?n2u2, ?n3u2, ?n4u2⟩
    case n1u2 => exact sub_cons (by k_mem) (sub_cons (by k_mem) (sub_cons (by k_mem) (sub_cons (by k_mem) (sub_cons (by k_mem) (sub_cons (by k_mem) (sub_cons (by k_mem) (sub_cons (by k_mem) (sub_cons (by k_mem) (sub_cons (by k_mem) sub_nil)))))))))
    case n2u2 => exact ⟨_, rfl⟩
    case n3u2 => exact ⟨_, rfl⟩
    case n4u2 => refine ⟨?_, ?_, ?_, ?_⟩ <;> omega
  clear F N d3 o3
  rintro s' ⟨h', tk, wx, wdx, wl, es, n, oW, u, rfl, F, N, dW, ⟨tw, g1⟩, ⟨tm, g2⟩, lt1⟩
  refine cutN (fun s' => ∃ (h' : Heap) (tk : Nat) (p5 p4 p1 : Obj) (u : Str → Option Value) (x y : Str) (t1 t2 : Tok) (k : Nat), s' = { s₁ with heap := h', toks := tk } ∧ Fr s₁.heap s₁.heap.objs.size h' (fun y => if y = Str.ofString "words" then some (.ref wl) else u y) ∧ News s₁.heap s₁.heap.objs.size h' [(wl, W.listOf #[.str x t1, .str y t2] k), (wx, instObj 357 wdx), (wdx, dictOf es n), (s₁.heap.objs.size + 1 + 1 + 1 + 1 + 1 + 1, o6), (s₁.heap.objs.size + 1 + 1 + 1 + 1 + 1, p5), (s₁.heap.objs.size + 1 + 1 + 1 + 1, p4), (s₁.heap.objs.size + 1 + 1 + 1, oW), (s₁.heap.objs.size + 1 + 1, oC), (s₁.heap.objs.size + 1, p1)] ∧ p1.data = .cell (some (.str x t1)) ∧ p5.data = .cell (some (.str y t2)) ∧ (∃ l, x = S l ∧ W l) ∧ (∃ l, y = S l ∧ W l)) [_, _] _ ?_ ?_
  · k_steps
    unfold Stop
    rename IsRange _ _ _ _ _ _ _ _ => Ra
    rename Fr _ _ _ _ => Fa
    rename News _ _ _ _ => Na
    rename (∀ (b : Addr) (o : Obj), Heap.get? _ b = some o → Heap.get? _ b = some o) => Ka
    have hb0 := fmod6 (c1)
    refine LCg.CompSrc.range rfl Fa Na Ra (small_one (by decide) (by decide) (by exact Int.le_trans (by decide) hb0.1) (by exact Int.lt_of_le_of_lt hb0.2 (by decide))) (rangeSize_nat _ _) (by exact Nat.le_trans (Int.toNat_le_toNat (Int.sub_le_sub_right hb0.2 0)) (by decide)) ?_
    intro g'
    refine kct_range (bitOf (c0)) (fun k t I oI C oC D' m₂ ys h tk E' hlo hhi hC hx F1 N1 off ne mark => ?_) ?_
    · have hk6 : k ≤ 5 := word_k hb0 hhi
      have hp2 := two_pow_ne k
      clear Fa Na Ra Ka hhi
      k_steps
      unfold Stop
      refine' LCg.CompEnd.intro ?Fu3 ?Nu3 _ ?subu3 off trivial ?ru3
      case Fu3 => assumption
      case Nu3 => assumption
      case subu3 => exact fun _ h => h
      case ru3 => exact kct_el (by with_unfolding_all rfl) rfl rfl
    · unfold KPfDone
      intro ys hCar hlen
      unfold LCg.FinE
      clear Fa Na Ra Ka
      intro D' h' tk' F' N' o1
      (try simp only [LCg.Off1, and_true] at o1)
      (try simp only [List.nil_append, List.cons_append] at N')
      k_steps
      unfold Stop
      rename IsRange _ _ _ _ _ _ _ _ => Ra
      rename Fr _ _ _ _ => Fa
      rename News _ _ _ _ => Na
      rename (∀ (b : Addr) (o : Obj), Heap.get? _ b = some o → Heap.get? _ b = some o) => Ka
      have hb0 := fmod6 (c3)
      refine LCg.CompSrc.range rfl Fa Na Ra (small_one (by decide) (by decide) (by exact Int.le_trans (by decide) hb0.1) (by exact Int.lt_of_le_of_lt hb0.2 (by decide))) (rangeSize_nat _ _) (by exact Nat.le_trans (Int.toNat_le_toNat (Int.sub_le_sub_right hb0.2 0)) (by decide)) ?_
      intro g'
      refine kct_range (bitOf (c2)) (fun k t I oI C oC D' m₂ ys h tk E' hlo hhi hC hx F1 N1 off ne mark => ?_) ?_
      · have hk6 : k ≤ 5 := word_k hb0 hhi
        have hp2 := two_pow_ne k
        clear Fa Na Ra Ka hhi
        k_steps
        unfold Stop
        refine' LCg.CompEnd.intro ?Fu4 ?Nu4 _ ?subu4 off trivial ?ru4
        case Fu4 => assumption
        case Nu4 => assumption
        case subu4 => exact fun _ h => h
        case ru4 => exact kct_el (by with_unfolding_all rfl) rfl rfl
      · unfold KPfDone
        intro ys hCar hlen
        unfold LCg.FinE
        clear Fa Na Ra Ka
        intro D' h' tk' F' N' o1
        (try simp only [LCg.Off1, and_true] at o1)
        (try simp only [List.nil_append, List.cons_append] at N')
        k_steps
        rename Fr _ _ _ _ => Fz
        rename News _ _ _ _ => Nz
        refine' ⟨rfl, _, _, _, _, _, _, _, _, _, _, _, rfl, fr_keep Fz ?n0u5, cb_drop Nz ?n1u5, ?n2u5, ?n3u5, ?n4u5, ?n5u5⟩
        case n0u5 => exact rfl
        case n1u5 => exact sub_cons (by k_mem) (sub_cons (by k_mem) (sub_cons (by k_mem) (sub_cons (by k_mem) (sub_cons (by k_mem) (sub_cons (by k_mem) (sub_cons (by k_mem) (sub_cons (by k_mem) (sub_cons (by k_mem) sub_nil))))))))
        case n2u5 => assumption
        case n3u5 => assumption
        case n4u5 => exact word_ex c0 c1
        case n5u5 => exact word_ex c2 c3
  clear F N d5 d1 o5 o1 o4 d4 dC hc0 hc1 hc2 hc3
  rintro s' ⟨h', tk, o5, o4, o1, u, x, y, t1, t2, k, rfl, F, N, d1, d5, ⟨lx, hx, Wx⟩, ⟨ly, hy, Wy⟩⟩
  have hxl : x.length = lx.length := by rw [hx]; exact S_len lx
  have hyl : y.length = ly.length := by rw [hy]; exact S_len ly
  have hx6 : x.length ≤ 6 := by rw [hxl]; exact Wx.2.1
  have hy6 : y.length ≤ 6 := by rw [hyl]; exact Wy.2.1
  have hx1 : 1 ≤ x.length := by rw [hxl]; exact Wx.1
  have hy1 : 1 ≤ y.length := by rw [hyl]; exact Wy.1
  refine cutN (fun s' => ∃ (h' : Heap) (tk : Nat) (u : Str → Option Value) (r : Str) (tr : Tok), s' = { s₁ with heap := h', toks := tk } ∧ Fr s₁.heap s₁.heap.objs.size h' (fun y => if y = Str.ofString "root" then some (.str r tr) else if y = Str.ofString "words" then some (.ref wl) else u y) ∧ News s₁.heap s₁.heap.objs.size h' [(wl, W.listOf #[.str x t1, .str y t2] k), (wx, instObj 357 wdx), (wdx, dictOf es n), (s₁.heap.objs.size + 1 + 1 + 1 + 1 + 1 + 1, o6), (s₁.heap.objs.size + 1 + 1 + 1 + 1 + 1, o5), (s₁.heap.objs.size + 1 + 1 + 1 + 1, o4), (s₁.heap.objs.size + 1 + 1 + 1, oW), (s₁.heap.objs.size + 1 + 1, oC), (s₁.heap.objs.size + 1, o1)] ∧ r = S (root lx)) [_] _ ?_ ?_
  · k_steps
    rename Fr _ _ _ _ => Fz
    rename News _ _ _ _ => Nz
    exact ⟨rfl, _, _, _, _, _, rfl, Fz, cb_drop Nz (fun p h => h), by assumption⟩
  clear F N
  rintro s' ⟨h', tk, u, r, tr, rfl, F, N, hr⟩
  refine cutN (fun s' => ∃ (h' : Heap) (tk : Nat) (u : Str → Option Value) (p6 : Obj) (M : Int) (tM : Tok), s' = { s₁ with heap := h', toks := tk } ∧ Fr s₁.heap s₁.heap.objs.size h' (fun y => if y = Str.ofString "root" then some (.str r tr) else if y = Str.ofString "words" then some (.ref wl) else u y) ∧ News s₁.heap s₁.heap.objs.size h' [(wl, W.listOf #[.str x t1, .str y t2] k), (wx, instObj 357 wdx), (wdx, dictOf es n), (s₁.heap.objs.size + 1 + 1 + 1 + 1 + 1 + 1, p6), (s₁.heap.objs.size + 1 + 1 + 1 + 1 + 1, o5), (s₁.heap.objs.size + 1 + 1 + 1 + 1, o4), (s₁.heap.objs.size + 1 + 1 + 1, oW), (s₁.heap.objs.size + 1 + 1, oC), (s₁.heap.objs.size + 1, o1)] ∧ p6.data = .cell (some (.int M tM)) ∧ (1 ≤ M ∧ M ≤ 36) ∧ M.fmod x.length = 0 ∧ M.fmod y.length = 0) [_] _ ?_ ?_
  · k_steps
    unfold Stop
    rename IsRange _ _ _ _ _ _ _ _ => Ra
    rename Fr _ _ _ _ => Fa
    rename News _ _ _ _ => Na
    rename (∀ (b : Addr) (o : Obj), Heap.get? _ b = some o → Heap.get? _ b = some o) => Ka
    refine LCt.CompSrcT.range rfl Fa Na Ra (by decide) (rangeSize_nat _ _) (by decide) ?_
    intro g'
    refine kci_range (pick x.length y.length) (fun k9 t I oI C oC D' m₂ ys l h tk E' hlo hhi hI hC hxx F1 N1 off ne mark => ?_) ?_ (pick_grows _ _)
    · clear Fa Na Ra Ka hhi
      k_steps
      all_goals unfold Stop
      · refine' LCg.CompEnd.intro ?Fu6 ?Nu6 _ ?subu6 off trivial ?ru6
        case Fu6 => assumption
        case Nu6 => assumption
        case subu6 => exact fun _ h => h
        case ru6 => exact kci_el (if_pos ⟨by assumption, by assumption⟩) rfl rfl
      · refine' LCg.CompEnd.intro ?Fu7 ?Nu7 _ ?subu7 off trivial ?ru7
        case Fu7 => assumption
        case Nu7 => assumption
        case subu7 => exact fun _ h => h
        case ru7 => exact kci_no (if_neg (fun h => absurd h.2 (by assumption))) rfl
      · refine' LCg.CompEnd.intro ?Fu8 ?Nu8 _ ?subu8 off trivial ?ru8
        case Fu8 => assumption
        case Nu8 => assumption
        case subu8 => exact fun _ h => h
        case ru8 => exact kci_no (if_neg (fun h => absurd h.1 (by assumption))) rfl
    · unfold KPfDone
      intro ys hI hlen
      unfold LCg.FinE
      clear Fa Na Ra Ka
      intro D' h' tk' F' N' o1
      (try simp only [LCg.Off1, and_true] at o1)
      (try simp only [List.nil_append, List.cons_append] at N')
      k_steps
      unfold Stop
      rename Fr _ _ _ _ => Fa
      rename News _ _ _ _ => Na
      refine kso_min Fa Na (News.isList Na (by k_mem)) hI (pick_ne hx1 hx6 hy1 hy6) rfl ?_
      intro h9 M tM tk9 F9 N9 hM hleast
      clear Fa Na hleast
      have hMg := pick_got hM
      k_steps
      rename Fr _ _ _ _ => Fz
      rename News _ _ _ _ => Nz
      refine' ⟨rfl, _, _, _, _, _, _, rfl, Fz, cb_drop Nz ?n1u9, ?n2u9, hMg⟩
      case n1u9 => exact sub_cons (by k_mem) (sub_cons (by k_mem) (sub_cons (by k_mem) (sub_cons (by k_mem) (sub_cons (by k_mem) (sub_cons (by k_mem) (sub_cons (by k_mem) (sub_cons (by k_mem) (sub_cons (by k_mem) sub_nil))))))))
      case n2u9 => assumption
  clear F N d6 o6
  rintro s' ⟨h', tk, u, o6, M, tM, rfl, F, N, d6, hM, hMx, hMy⟩
  refine cutN (fun s' => ∃ (h' : Heap) (tk : Nat) (u : Str → Option Value) (lp : Addr) (p1 p2 : Str) (u1 u2 : Tok), s' = { s₁ with heap := h', toks := tk } ∧ Fr s₁.heap s₁.heap.objs.size h' (fun y => if y = Str.ofString "powers" then some (.ref lp) else if y = Str.ofString "root" then some (.str r tr) else if y = Str.ofString "words" then some (.ref wl) else u y) ∧ News s₁.heap s₁.heap.objs.size h' [(lp, W.listOf #[.str p1 u1, .str p2 u2] 2), (wl, W.listOf #[.str x t1, .str y t2] k), (wx, instObj 357 wdx), (wdx, dictOf es n), (s₁.heap.objs.size + 1 + 1 + 1 + 1 + 1 + 1, o6), (s₁.heap.objs.size + 1 + 1 + 1 + 1 + 1, o5), (s₁.heap.objs.size + 1 + 1 + 1 + 1, o4), (s₁.heap.objs.size + 1 + 1 + 1, oW), (s₁.heap.objs.size + 1 + 1, oC), (s₁.heap.objs.size + 1, o1)] ∧ p1 = S (rep (M.fdiv x.length).toNat lx) ∧ p2 = S (rep (M.fdiv y.length).toNat ly) ∧ (@Ne Nat lp wl ∧ @Ne Nat lp wx ∧ @Ne Nat lp wdx)) [_] _ ?_ ?_
  · k_steps
    unfold Stop
    rename Fr _ _ _ _ => Fa
    rename News _ _ _ _ => Na
    obtain ⟨hdx0, hdx1, hdx2⟩ := div_facts hx1 hx6 hM
    obtain ⟨hdy0, hdy1, hdy2⟩ := div_facts hy1 hy6 hM
    refine LCg.CompSrc.ledger rfl Fa Na (by k_mem) (Nat.le_of_ble_eq_true rfl) ?_
    intro g'
    refine LCg.CompRest.succ ?_
    intro v I oI C oC D9 m₂ h8 tk8 E' hv hC hxx F1 N1 off ne
    have hve : v = Value.str x t1 := by simpa using hv.symm
    subst hve
    clear hv
    k_steps
    unfold Stop
    refine' LCg.CompEnd.intro ?F1u10 ?N1u10 _ ?sub1u10 off ?hS1u10 ?r1u10
    case F1u10 => assumption
    case N1u10 => assumption
    case sub1u10 => exact sub_cons (by k_mem) (sub_cons (by k_mem) (sub_cons (by k_mem) (fun p h => by repeat (first | exact h | refine List.Mem.tail _ ?_))))
    case hS1u10 => exact .inr ⟨_, .head _, rfl, _, rfl⟩
    refine LCg.CompRest.succ ?_
    intro v I oI C oC D9 m₂ h8 tk8 E' hv hC hxx F1 N1 off ne
    have hve : v = Value.str y t2 := by simpa using hv.symm
    subst hve
    clear hv
    k_steps
    unfold Stop
    refine' LCg.CompEnd.intro ?F2u11 ?N2u11 _ ?sub2u11 off ?hS2u11 ?r2u11
    case F2u11 => assumption
    case N2u11 => assumption
    case sub2u11 => exact sub_cons (by k_mem) (sub_cons (by k_mem) (sub_cons (by k_mem) (fun p h => by repeat (first | exact h | refine List.Mem.tail _ ?_))))
    case hS2u11 => exact .inr ⟨_, .head _, rfl, _, rfl⟩
    refine LCg.CompRest.zero ?_
    unfold LCg.FinA
    intro D' h' tk' F' N' o1
    (try simp only [LCg.Off1, and_true] at o1)
    (try simp only [List.nil_append, List.cons_append] at N')
    k_steps
    rename Fr _ _ _ _ => Fz
    rename News _ _ _ _ => Nz
    refine' ⟨rfl, _, _, _, _, _, _, _, _, rfl, Fz, cb_drop Nz ?n1u12, ?n2u12, ?n3u12, ?n4u12⟩
    case n1u12 => exact sub_cons (by k_mem) (fun p h => by repeat (first | exact h | refine List.Mem.tail _ ?_))
    case n2u12 => assumption
    case n3u12 => assumption
    case n4u12 => exact ⟨Ne.symm o1.1, Ne.symm o1.2.1, Ne.symm o1.2.2.1⟩
  clear F N
  rintro s' ⟨h', tk, u, lp, p1, p2, u1, u2, rfl, F, N, hp1, hp2, ltp⟩
  refine cutN (fun s' => ∃ (h' : Heap) (tk : Nat) (u : Str → Option Value), s' = { s₁ with heap := h', toks := tk } ∧ Fr s₁.heap s₁.heap.objs.size h' (fun y => if y = Str.ofString "powers" then some (.ref lp) else if y = Str.ofString "root" then some (.str r tr) else if y = Str.ofString "words" then some (.ref wl) else u y) ∧ News s₁.heap s₁.heap.objs.size h' [(lp, W.listOf #[.str p1 u1, .str p2 u2] 2), (wl, W.listOf #[.str x t1, .str y t2] k), (wx, instObj 357 wdx), (wdx, dictOf es n), (s₁.heap.objs.size + 1 + 1 + 1 + 1 + 1 + 1, o6), (s₁.heap.objs.size + 1 + 1 + 1 + 1 + 1, o5), (s₁.heap.objs.size + 1 + 1 + 1 + 1, o4), (s₁.heap.objs.size + 1 + 1 + 1, oW), (s₁.heap.objs.size + 1 + 1, oC), (s₁.heap.objs.size + 1, o1)]) [_] _ ?_ ?_
  · k_steps
    unfold Stop
    rename Fr _ _ _ _ => Fa
    rename News _ _ _ _ => Na
    obtain ⟨hdx0, hdx1, hdx2⟩ := div_facts hx1 hx6 hM
    obtain ⟨hdy0, hdy1, hdy2⟩ := div_facts hy1 hy6 hM
    have hk1 : PyData.strOk p1 = true := by rw [hp1]; exact strOk_S (rep_mem Wx.2.2)
    have hk2 : PyData.strOk p2 = true := by rw [hp2]; exact strOk_S (rep_mem Wy.2.2)
    have he1 : p1 = Txt.mul x (M.fdiv x.length) := by rw [hp1]; conv => rhs; rw [hx, S_mul, ← hx]
    have he2 : p2 = Txt.mul y (M.fdiv y.length) := by rw [hp2]; conv => rhs; rw [hy, S_mul, ← hy]
    refine LCg.CompSrc.ledger rfl Fa Na (by k_mem) (Nat.le_of_ble_eq_true rfl) ?_
    intro g'
    refine LCg.CompRest.succ ?_
    intro v I oI C oC D9 m₂ h8 tk8 E' hv hC hxx F1 N1 off ne
    have hve : v = Value.str x t1 := by simpa using hv.symm
    subst hve
    clear hv
    k_steps
    unfold Stop
    refine' LCg.CompEnd.intro ?F1u13 ?N1u13 _ ?sub1u13 off ?hS1u13 ?r1u13
    case F1u13 => assumption
    case N1u13 => assumption
    case sub1u13 => exact sub_cons (by k_mem) (sub_cons (by k_mem) (sub_cons (by k_mem) (fun p h => by repeat (first | exact h | refine List.Mem.tail _ ?_))))
    case hS1u13 => exact .inr ⟨_, .tail _ (.head _), rfl, _, rfl⟩
    refine LCg.CompRest.succ ?_
    intro v I oI C oC D9 m₂ h8 tk8 E' hv hC hxx F1 N1 off ne
    have hve : v = Value.str y t2 := by simpa using hv.symm
    subst hve
    clear hv
    k_steps
    unfold Stop
    refine' LCg.CompEnd.intro ?F2u14 ?N2u14 _ ?sub2u14 off ?hS2u14 ?r2u14
    case F2u14 => assumption
    case N2u14 => assumption
    case sub2u14 => exact sub_cons (by k_mem) (sub_cons (by k_mem) (sub_cons (by k_mem) (fun p h => by repeat (first | exact h | refine List.Mem.tail _ ?_))))
    case hS2u14 => exact .inr ⟨_, .tail _ (.head _), rfl, _, rfl⟩
    refine LCg.CompRest.zero ?_
    unfold LCg.FinE
    intro D' h' tk' F' N' o1
    (try simp only [LCg.Off1, and_true] at o1)
    (try simp only [List.nil_append, List.cons_append] at N')
    k_steps
    rename Fr _ _ _ _ => Fz
    rename News _ _ _ _ => Nz
    refine' ⟨rfl, _, _, _, rfl, Fz, cb_drop Nz ?n1u15⟩
    case n1u15 => exact fun p h => by repeat (first | exact h | refine List.Mem.tail _ ?_)
  clear F N
  rintro s' ⟨h', tk, u, rfl, F, N⟩
  refine cutN (fun s' => ∃ (h' : Heap) (tk : Nat) (u : Str → Option Value) (b : Bool), s' = { s₁ with heap := h', toks := tk } ∧ Fr s₁.heap s₁.heap.objs.size h' (fun y => if y = Str.ofString "commute" then some (.bool b) else if y = Str.ofString "powers" then some (.ref lp) else if y = Str.ofString "root" then some (.str r tr) else if y = Str.ofString "words" then some (.ref wl) else u y) ∧ News s₁.heap s₁.heap.objs.size h' [(lp, W.listOf #[.str p1 u1, .str p2 u2] 2), (wl, W.listOf #[.str x t1, .str y t2] k), (wx, instObj 357 wdx), (wdx, dictOf es n), (s₁.heap.objs.size + 1 + 1 + 1 + 1 + 1 + 1, o6), (s₁.heap.objs.size + 1 + 1 + 1 + 1 + 1, o5), (s₁.heap.objs.size + 1 + 1 + 1 + 1, o4), (s₁.heap.objs.size + 1 + 1 + 1, oW), (s₁.heap.objs.size + 1 + 1, oC), (s₁.heap.objs.size + 1, o1)] ∧ b = (root lx == root ly)) [_] _ ?_ ?_
  · k_steps
    rename Fr _ _ _ _ => Fz
    rename News _ _ _ _ => Nz
    rename (_ = S (root ly)) => ez
    refine' ⟨rfl, _, _, _, _, rfl, Fz, cb_drop Nz ?n1u16, ?n2u16⟩
    case n1u16 => exact fun p h => by repeat (first | exact h | refine List.Mem.tail _ ?_)
    case n2u16 => rw [hr, ez, S_beq]
  clear F N
  rintro s' ⟨h', tk, u, b, rfl, F, N, hb⟩
  refine cutN (fun s' => ∃ (h' : Heap) (tk : Nat) (u : Str → Option Value), s' = { s₁ with heap := h', toks := tk } ∧ Fr s₁.heap s₁.heap.objs.size h' (fun y => if y = Str.ofString "commute" then some (.bool b) else if y = Str.ofString "powers" then some (.ref lp) else if y = Str.ofString "root" then some (.str r tr) else if y = Str.ofString "words" then some (.ref wl) else u y) ∧ News s₁.heap s₁.heap.objs.size h' [(lp, W.listOf #[.str p1 u1, .str p2 u2] 2), (wl, W.listOf #[.str x t1, .str y t2] k), (wx, instObj 357 wdx), (wdx, dictOf es n), (s₁.heap.objs.size + 1 + 1 + 1 + 1 + 1 + 1, o6), (s₁.heap.objs.size + 1 + 1 + 1 + 1 + 1, o5), (s₁.heap.objs.size + 1 + 1 + 1 + 1, o4), (s₁.heap.objs.size + 1 + 1 + 1, oW), (s₁.heap.objs.size + 1 + 1, oC), (s₁.heap.objs.size + 1, o1)]) [_] _ ?_ ?_
  · have hpl : p1.length ≤ 40 := by rw [hp1, S_len, rep_len]; exact pow_len hxl hx1 hx6 hM hMx
    have hql : p2.length ≤ 40 := by rw [hp2, S_len, rep_len]; exact pow_len hyl hy1 hy6 hM hMy
    have hpq : (p1 == p2) = b := by rw [hp1, hp2, S_beq, hb]; exact pow_law Wx.1 Wy.1 hxl hyl hM hMx hMy
    cases b
    all_goals k_steps
    all_goals unfold Stop
    all_goals rename Fr _ _ _ _ => Fz
    all_goals rename News _ _ _ _ => Nz
    all_goals exact ⟨rfl, _, _, _, rfl, Fz, cb_drop Nz (fun p h => by repeat (first | exact h | refine List.Mem.tail _ ?_))⟩
  clear F N
  rintro s' ⟨h', tk, u, rfl, F, N⟩
  refine cutN (fun s' => ∃ (h' : Heap) (tk : Nat) (u : Str → Option Value) (lb : Addr) (v1 v2 : Tok), s' = { s₁ with heap := h', toks := tk } ∧ Fr s₁.heap s₁.heap.objs.size h' (fun y => if y = Str.ofString "both" then some (.ref lb) else if y = Str.ofString "commute" then some (.bool b) else if y = Str.ofString "powers" then some (.ref lp) else if y = Str.ofString "root" then some (.str r tr) else if y = Str.ofString "words" then some (.ref wl) else u y) ∧ News s₁.heap s₁.heap.objs.size h' [(lb, W.listOf #[.str (x ++ y) v1, .str (y ++ x) v2] 0), (lp, W.listOf #[.str p1 u1, .str p2 u2] 2), (wl, W.listOf #[.str x t1, .str y t2] k), (wx, instObj 357 wdx), (wdx, dictOf es n), (s₁.heap.objs.size + 1 + 1 + 1 + 1 + 1 + 1, o6), (s₁.heap.objs.size + 1 + 1 + 1 + 1 + 1, o5), (s₁.heap.objs.size + 1 + 1 + 1 + 1, o4), (s₁.heap.objs.size + 1 + 1 + 1, oW), (s₁.heap.objs.size + 1 + 1, oC), (s₁.heap.objs.size + 1, o1)]) [_] _ ?_ ?_
  · have ex : (x == Str.ofString "") = false := by rw [hx]; exact S_ne_nil Wx.1
    have ey : (y == Str.ofString "") = false := by rw [hy]; exact S_ne_nil Wy.1
    k_steps
    rename Fr _ _ _ _ => Fz
    rename News _ _ _ _ => Nz
    exact ⟨rfl, _, _, _, _, _, _, rfl, Fz, cb_drop Nz (fun p h => by repeat (first | exact h | refine List.Mem.tail _ ?_))⟩
  clear F N
  rintro s' ⟨h', tk, u, lb, v1, v2, rfl, F, N⟩
  have hxy : x ++ y = S (lx ++ ly) := by rw [hx, hy, S_app]
  have hyx : y ++ x = S (ly ++ lx) := by rw [hx, hy, S_app]
  refine cutN (fun s' => ∃ (h' : Heap) (tk : Nat) (u : Str → Option Value), s' = { s₁ with heap := h', toks := tk } ∧ Fr s₁.heap s₁.heap.objs.size h' (fun y => if y = Str.ofString "both" then some (.ref lb) else if y = Str.ofString "commute" then some (.bool b) else if y = Str.ofString "powers" then some (.ref lp) else if y = Str.ofString "root" then some (.str r tr) else if y = Str.ofString "words" then some (.ref wl) else u y) ∧ News s₁.heap s₁.heap.objs.size h' [(lb, W.listOf #[.str (x ++ y) v1, .str (y ++ x) v2] 0), (lp, W.listOf #[.str p1 u1, .str p2 u2] 2), (wl, W.listOf #[.str x t1, .str y t2] k), (wx, instObj 357 wdx), (wdx, dictOf es n), (s₁.heap.objs.size + 1 + 1 + 1 + 1 + 1 + 1, o6), (s₁.heap.objs.size + 1 + 1 + 1 + 1 + 1, o5), (s₁.heap.objs.size + 1 + 1 + 1 + 1, o4), (s₁.heap.objs.size + 1 + 1 + 1, oW), (s₁.heap.objs.size + 1 + 1, oC), (s₁.heap.objs.size + 1, o1)]) [_] _ ?_ ?_
  · have hk1 : PyData.strOk (x ++ y) = true := by rw [hxy]; exact strOk_S (app_mem Wx.2.2 Wy.2.2)
    have hk2 : PyData.strOk (y ++ x) = true := by rw [hyx]; exact strOk_S (app_mem Wy.2.2 Wx.2.2)
    have hc : (x ++ y == y ++ x) = b := by rw [hxy, hyx, S_beq, hb]; exact comm_iff Wx.1 Wy.1
    have hc2 : ((x ++ y == y ++ x) != b) = false := by rw [hc]; cases b <;> rfl
    clear hc
    k_steps
    all_goals first
      | (rename Fr _ _ _ _ => Fz; rename News _ _ _ _ => Nz; exact ⟨rfl, _, _, _, rfl, Fz, cb_drop Nz (fun p h => by repeat (first | exact h | refine List.Mem.tail _ ?_))⟩)
      | (exfalso; exact Bool.false_ne_true (hc2.symm.trans (by assumption)))
  clear F N
  rintro s' ⟨h', tk, u, rfl, F, N⟩
  refine cutN (fun s' => ∃ (h' : Heap) (tk : Nat) (u : Str → Option Value), s' = { s₁ with heap := h', toks := tk } ∧ Fr s₁.heap s₁.heap.objs.size h' (fun y => if y = Str.ofString "root" then some (.str r tr) else u y) ∧ News s₁.heap s₁.heap.objs.size h' [(wx, instObj 357 wdx), (wdx, dictOf es n), (s₁.heap.objs.size + 1 + 1 + 1 + 1 + 1 + 1, o6), (s₁.heap.objs.size + 1 + 1 + 1 + 1 + 1, o5), (s₁.heap.objs.size + 1 + 1 + 1 + 1, o4), (s₁.heap.objs.size + 1 + 1 + 1, oW), (s₁.heap.objs.size + 1 + 1, oC), (s₁.heap.objs.size + 1, o1)]) [_] _ ?_ ?_
  · have hrl : r.length = (root lx).length := by rw [hr]; exact S_len _
    obtain ⟨hk0, hk12, hkr, hr6, hkk⟩ := kk_facts Wx Wy hxl hyl hrl
    obtain ⟨ds, f1, f2, f3, f4, f5, f6, f7, f8⟩ := digits hk0 hk12
    rw [← f1] at f6 f7 f8
    have hr1 : 1 ≤ r.length := by rw [hrl]; exact (root_len Wx.1).1
    have hrne : (r.length : Int) ≠ 0 := by omega
    have f9 : (Str.ofString (toString (((x.length : Int) + y.length).fdiv r.length))).length = ds.length := by rw [f1]; exact S_len ds
    cases b
    · k_steps
      rename Fr _ _ _ _ => Fz
      rename News _ _ _ _ => Nz
      exact ⟨rfl, _, _, _, rfl, fr_keep Fz rfl, cb_drop Nz (fun p h => by repeat (first | exact h | refine List.Mem.tail _ ?_))⟩
    · have hrr : root lx = root ly := by simpa using hb.symm
      have hone : lx ++ ly = rep (((x.length : Int) + y.length).fdiv r.length).toNat (root lx) := by rw [hkk]; exact app_root Wx.1 Wy.1 hrr
      k_steps
      · exfalso
        rename (bne _ _ = true) => hbne
        rename (_ = S (rep (Int.toNat _) (root lx))) => ez
        rw [ez, hxy, hone] at hbne
        simp at hbne
      · rename Fr _ _ _ _ => Fz
        rename News _ _ _ _ => Nz
        exact ⟨rfl, _, _, _, rfl, fr_keep Fz rfl, cb_drop Nz (fun p h => by repeat (first | exact h | refine List.Mem.tail _ ?_))⟩
  clear F N
  rintro s' ⟨h', tk, u, rfl, F, N⟩
  refine cutN (fun s' => ∃ (h' : Heap) (tk : Nat) (u : Str → Option Value) (sl : Addr) (ts tt : Tok), s' = { s₁ with heap := h', toks := tk } ∧ Fr s₁.heap s₁.heap.objs.size h' (fun y => if y = Str.ofString "size" then some (.int x.length ts) else if y = Str.ofString "turned" then some (.str x tt) else if y = Str.ofString "seen" then some (.ref sl) else if y = Str.ofString "root" then some (.str r tr) else u y) ∧ News s₁.heap s₁.heap.objs.size h' [(sl, W.listOf #[] 0), (wx, instObj 357 wdx), (wdx, dictOf es n), (s₁.heap.objs.size + 1 + 1 + 1 + 1 + 1 + 1, o6), (s₁.heap.objs.size + 1 + 1 + 1 + 1 + 1, o5), (s₁.heap.objs.size + 1 + 1 + 1 + 1, o4), (s₁.heap.objs.size + 1 + 1 + 1, oW), (s₁.heap.objs.size + 1 + 1, oC), (s₁.heap.objs.size + 1, o1)] ∧ @LT.lt Nat _ wx sl) [_] _ ?_ ?_
  · have hr1 : 1 ≤ r.length := by rw [hr, S_len]; exact (root_len Wx.1).1
    k_steps
    rename Fr _ _ _ _ => Fz
    rename News _ _ _ _ => Nz
    refine' ⟨rfl, _, _, _, _, _, _, rfl, fr_keep (fr_keep (fr_keep (fr_keep Fz ?n4u17) ?n3u17) ?n2u17) ?n1u17, cb_drop Nz ?n5u17, ?n6u17⟩
    case n1u17 => exact rfl
    case n2u17 => exact rfl
    case n3u17 => exact rfl
    case n4u17 => exact rfl
    case n5u17 => exact sub_cons (by k_mem) (fun p h => by repeat (first | exact h | refine List.Mem.tail _ ?_))
    case n6u17 => omega
  clear F N hp1 hp2 hb hxy hyx ltp
  rintro s' ⟨h', tk, u, sl, ts, tt, rfl, F, N, ltS⟩
  refine cutN (fun s' => ∃ (h' : Heap) (tk : Nat) (u : Str → Option Value) (tt ts : Tok), s' = { s₁ with heap := h', toks := tk } ∧ Fr s₁.heap s₁.heap.objs.size h' (fun y => if y = Str.ofString "size" then some (.int x.length ts) else if y = Str.ofString "turned" then some (.str x tt) else if y = Str.ofString "seen" then some (.ref sl) else if y = Str.ofString "root" then some (.str r tr) else u y) ∧ News s₁.heap s₁.heap.objs.size h' [(sl, W.listOf #[] 0), (wx, instObj 357 wdx), (wdx, dictOf es n), (s₁.heap.objs.size + 1 + 1 + 1 + 1 + 1 + 1, o6), (s₁.heap.objs.size + 1 + 1 + 1 + 1 + 1, o5), (s₁.heap.objs.size + 1 + 1 + 1 + 1, o4), (s₁.heap.objs.size + 1 + 1 + 1, oW), (s₁.heap.objs.size + 1 + 1, oC), (s₁.heap.objs.size + 1, o1)]) [_] _ ?_ ?_
  · k_steps
    all_goals first
      | (rename Fr _ _ _ _ => Fz; rename News _ _ _ _ => Nz; exact ⟨rfl, _, _, _, _, _, rfl, Fz, cb_drop Nz (fun p h => by repeat (first | exact h | refine List.Mem.tail _ ?_))⟩)
      | (exfalso; omega)
  clear F N
  rintro s' ⟨h', tk, u, tt0, ts, rfl, F, N⟩
  refine cutN (fun s' => ∃ (h' : Heap) (tk : Nat) (u : Str → Option Value) (vs : List Value) (ne : Nat) (tt : Tok), s' = { s₁ with heap := h', toks := tk } ∧ Fr s₁.heap s₁.heap.objs.size h' (fun y => if y = Str.ofString "turned" then some (.str x tt) else if y = Str.ofString "seen" then some (.ref sl) else if y = Str.ofString "root" then some (.str r tr) else u y) ∧ News s₁.heap s₁.heap.objs.size h' [(sl, W.listOf vs.toArray ne), (wx, instObj 357 wdx), (wdx, dictOf es n), (s₁.heap.objs.size + 1 + 1 + 1 + 1 + 1 + 1, o6), (s₁.heap.objs.size + 1 + 1 + 1 + 1 + 1, o5), (s₁.heap.objs.size + 1 + 1 + 1 + 1, o4), (s₁.heap.objs.size + 1 + 1 + 1, oW), (s₁.heap.objs.size + 1 + 1, oC), (s₁.heap.objs.size + 1, o1)] ∧ vs.length = (root lx).length) [_] _ ?_ ?_
  · have hr1 : 1 ≤ r.length := by rw [hr, S_len]; exact (root_len Wx.1).1
    have hr6 : r.length ≤ 6 := by rw [hr, S_len]; exact Nat.le_trans (root_len Wx.1).2.1 Wx.2.1
    k_steps
    unfold Stop
    rename IsRange _ _ _ _ _ _ _ _ => Ra
    rename Fr _ _ _ _ => Fa
    rename News _ _ _ _ => Na
    refine range_inv [Str.ofString "turned", Str.ofString "back"] (fun i m₁ nx => (∃ tt, m₁ (Str.ofString "turned") = some (.str (S (rot lx i)) tt)) ∧ ∃ (vs : List Value) (ne : Nat), nx = (sl, W.listOf vs.toArray ne) :: [(wx, instObj 357 wdx), (wdx, dictOf es n), (s₁.heap.objs.size + 1 + 1 + 1 + 1 + 1 + 1, o6), (s₁.heap.objs.size + 1 + 1 + 1 + 1 + 1, o5), (s₁.heap.objs.size + 1 + 1 + 1 + 1, o4), (s₁.heap.objs.size + 1 + 1 + 1, oW), (s₁.heap.objs.size + 1 + 1, oC), (s₁.heap.objs.size + 1, o1)] ∧ SeenAre vs (seenAt lx i)) rfl Ra (small_one (by decide) (by decide) (by omega) (by omega)) (rangeSize_nat _ _) Fa Na ⟨⟨tt0, by rw [rot_zero, ← hx]; rfl⟩, [], 0, rfl, by rw [seen_zero]; exact .nil⟩ ?_ ?_
    · intro i t m₁ nx h9 tk9 own hin hoff hP hm F2 N2
      obtain ⟨⟨tt, ha⟩, vs, ne, hnx, hse⟩ := hP
      subst hnx
      rw [map_tb ha hm] at F2
      simp only [List.cons_append, List.nil_append] at N2
      have hil : i < lx.length := by omega
      clear hm Ra Fa Na
      have hU : ∀ p ∈ ((wx, instObj 357 wdx) :: (wdx, dictOf es n) :: (s₁.heap.objs.size + 1 + 1 + 1 + 1 + 1 + 1, o6) :: (s₁.heap.objs.size + 1 + 1 + 1 + 1 + 1, o5) :: (s₁.heap.objs.size + 1 + 1 + 1 + 1, o4) :: (s₁.heap.objs.size + 1 + 1 + 1, oW) :: (s₁.heap.objs.size + 1 + 1, oC) :: (s₁.heap.objs.size + 1, o1) :: own), p.1 ≠ sl := by
        intro p hp
        have hown := fun q hq => hoff q hq sl (by simp)
        simp only [List.mem_cons] at hp
        rcases hp with rfl | rfl | rfl | rfl | rfl | rfl | rfl | rfl | hp
        all_goals first | exact hown p hp | (refine neN ?_; dsimp only; omega)
      have hsl6 : vs.length ≤ 10 := by rw [hse.len]; have := seen_le Wx i; omega
      have hoks := seen_ok Wx.2.2 i
      have hok := strOk_S (rot_mem (t := i) Wx.2.2)
      refine cutN (fun s' => ∃ (h' : Heap) (tk : Nat) (vs' : List Value) (ne' : Nat), s' = { s₁ with heap := h', toks := tk } ∧ Fr s₁.heap s₁.heap.objs.size h' (fun q => if q = Str.ofString "turn" then some (.int (1 + (i : Int)) t) else if q = Str.ofString "turned" then some (.str (S (rot lx i)) tt) else if q = Str.ofString "back" then m₁ (Str.ofString "back") else if q = Str.ofString "size" then some (.int x.length ts) else if q = Str.ofString "turned" then some (.str x tt0) else if q = Str.ofString "seen" then some (.ref sl) else if q = Str.ofString "root" then some (.str r tr) else u q) ∧ News s₁.heap s₁.heap.objs.size h' ((sl, W.listOf vs'.toArray ne') :: (wx, instObj 357 wdx) :: (wdx, dictOf es n) :: (s₁.heap.objs.size + 1 + 1 + 1 + 1 + 1 + 1, o6) :: (s₁.heap.objs.size + 1 + 1 + 1 + 1 + 1, o5) :: (s₁.heap.objs.size + 1 + 1 + 1 + 1, o4) :: (s₁.heap.objs.size + 1 + 1 + 1, oW) :: (s₁.heap.objs.size + 1 + 1, oC) :: (s₁.heap.objs.size + 1, o1) :: own) ∧ SeenAre vs' (seenAt lx (i + 1))) [_] _ ?_ ?_
      · by_cases hc : i < (root lx).length
        · obtain ⟨hn1, hn2⟩ := seen_new Wx.1 hil hc
          k_steps
          rename Fr _ _ _ _ => Fz
          rename News _ _ _ _ => Nz
          exact ⟨rfl, _, _, vs ++ [Value.str (S (rot lx i)) tt], ne + 1, rfl, Fz, Nz, by rw [hn2]; exact hse.snoc⟩
        · obtain ⟨hn1, hn2⟩ := seen_old Wx.1 hil hc
          k_steps
          rename Fr _ _ _ _ => Fz
          rename News _ _ _ _ => Nz
          exact ⟨rfl, _, _, vs, ne, rfl, Fz, Nz, by rw [hn2]; exact hse⟩
      · clear F2 N2 hse hoks hok hU hsl6 ha hoff
        rintro s' ⟨h', tk, vs', ne', rfl, F, N, hse⟩
        have hR : S (rot lx i) = S (rot lx i) := rfl
        have hRl : (S (rot lx i)).length = lx.length := by rw [S_len, rot_len (by omega)]
        have hR2 : (rep (2 : Int).toNat (rot lx i)).length = 2 * lx.length := by rw [rep_len, rot_len (by omega)]; rfl
        have h02 : (0 : Int) ≤ 2 := by decide
        refine cutN (fun s' => ∃ (h' : Heap) (tk : Nat) (z : Str) (tz : Tok), s' = { s₁ with heap := h', toks := tk } ∧ Fr s₁.heap s₁.heap.objs.size h' (fun q9 => if q9 = Str.ofString "turned" then some (.str z tz) else (fun q => if q = Str.ofString "turn" then some (.int (1 + (i : Int)) t) else if q = Str.ofString "turned" then some (.str (S (rot lx i)) tt) else if q = Str.ofString "back" then m₁ (Str.ofString "back") else if q = Str.ofString "size" then some (.int x.length ts) else if q = Str.ofString "turned" then some (.str x tt0) else if q = Str.ofString "seen" then some (.ref sl) else if q = Str.ofString "root" then some (.str r tr) else u q) q9) ∧ News s₁.heap s₁.heap.objs.size h' ((sl, W.listOf vs'.toArray ne') :: (wx, instObj 357 wdx) :: (wdx, dictOf es n) :: (s₁.heap.objs.size + 1 + 1 + 1 + 1 + 1 + 1, o6) :: (s₁.heap.objs.size + 1 + 1 + 1 + 1 + 1, o5) :: (s₁.heap.objs.size + 1 + 1 + 1 + 1, o4) :: (s₁.heap.objs.size + 1 + 1 + 1, oW) :: (s₁.heap.objs.size + 1 + 1, oC) :: (s₁.heap.objs.size + 1, o1) :: own) ∧ z = S (rot lx (i + 1))) [_] _ ?_ ?_
        · k_steps
          rename Fr _ _ _ _ => Fz
          rename News _ _ _ _ => Nz
          rename (_ = S (List.take _ _)) => ez
          rw [step_is hxl hil] at ez
          exact ⟨rfl, _, _, _, _, rfl, Fz, cb_drop Nz (fun p h => by repeat (first | exact h | refine List.Mem.tail _ ?_)), ez⟩
        clear F N hR hRl hR2
        rintro s' ⟨h', tk, z, tz, rfl, F, N, hz⟩
        have hzl : z.length = lx.length := by rw [len_of hz, rot_len (by omega)]
        refine cutN (fun s' => ∃ (h' : Heap) (tk : Nat) (tz : Tok), s' = { s₁ with heap := h', toks := tk } ∧ Fr s₁.heap s₁.heap.objs.size h' (fun q9 => if q9 = Str.ofString "turned" then some (.str z tz) else (fun q => if q = Str.ofString "turn" then some (.int (1 + (i : Int)) t) else if q = Str.ofString "turned" then some (.str (S (rot lx i)) tt) else if q = Str.ofString "back" then m₁ (Str.ofString "back") else if q = Str.ofString "size" then some (.int x.length ts) else if q = Str.ofString "turned" then some (.str x tt0) else if q = Str.ofString "seen" then some (.ref sl) else if q = Str.ofString "root" then some (.str r tr) else u q) q9) ∧ News s₁.heap s₁.heap.objs.size h' ((sl, W.listOf vs'.toArray ne') :: (wx, instObj 357 wdx) :: (wdx, dictOf es n) :: (s₁.heap.objs.size + 1 + 1 + 1 + 1 + 1 + 1, o6) :: (s₁.heap.objs.size + 1 + 1 + 1 + 1 + 1, o5) :: (s₁.heap.objs.size + 1 + 1 + 1 + 1, o4) :: (s₁.heap.objs.size + 1 + 1 + 1, oW) :: (s₁.heap.objs.size + 1 + 1, oC) :: (s₁.heap.objs.size + 1, o1) :: own)) [_] _ ?_ ?_
        · have hsl := turn_sl (i := i) hx
          have hn : (z != (Txt.slice x (some (1 + (i : Int))) none ++ Txt.slice x none (some (1 + (i : Int))))) = false := by rw [hsl, hz]; simp
          have hq := turn_q Wx.1 hil hx hz hr
          k_steps
          all_goals first
            | (rename Fr _ _ _ _ => Fz; rename News _ _ _ _ => Nz; exact ⟨rfl, _, _, _, rfl, Fz, cb_drop Nz (fun p h => by repeat (first | exact h | refine List.Mem.tail _ ?_))⟩)
            | (exfalso; exact Bool.false_ne_true (hn.symm.trans (by assumption)))
            | (exfalso; exact Bool.false_ne_true (hq.symm.trans (by assumption)))
        clear F N
        rintro s' ⟨h', tk, tz, rfl, F, N⟩
        have hrv : lx.reverse.length = lx.length := List.length_reverse
        have hrv2 : (rep (2 : Int).toNat lx.reverse).length = 2 * lx.length := by rw [rep_len, List.length_reverse]; rfl
        refine cutN (fun s' => ∃ (h' : Heap) (tk : Nat) (zb : Str) (tb tz : Tok), s' = { s₁ with heap := h', toks := tk } ∧ Fr s₁.heap s₁.heap.objs.size h' (fun p9 => if p9 = Str.ofString "back" then some (.str zb tb) else (fun q9 => if q9 = Str.ofString "turned" then some (.str z tz) else (fun q => if q = Str.ofString "turn" then some (.int (1 + (i : Int)) t) else if q = Str.ofString "turned" then some (.str (S (rot lx i)) tt) else if q = Str.ofString "back" then m₁ (Str.ofString "back") else if q = Str.ofString "size" then some (.int x.length ts) else if q = Str.ofString "turned" then some (.str x tt0) else if q = Str.ofString "seen" then some (.ref sl) else if q = Str.ofString "root" then some (.str r tr) else u q) q9) p9) ∧ News s₁.heap s₁.heap.objs.size h' ((sl, W.listOf vs'.toArray ne') :: (wx, instObj 357 wdx) :: (wdx, dictOf es n) :: (s₁.heap.objs.size + 1 + 1 + 1 + 1 + 1 + 1, o6) :: (s₁.heap.objs.size + 1 + 1 + 1 + 1 + 1, o5) :: (s₁.heap.objs.size + 1 + 1 + 1 + 1, o4) :: (s₁.heap.objs.size + 1 + 1 + 1, oW) :: (s₁.heap.objs.size + 1 + 1, oC) :: (s₁.heap.objs.size + 1, o1) :: own) ∧ zb = S (rot lx (i + 1)).reverse) [_] _ ?_ ?_
        · k_steps
          rename Fr _ _ _ _ => Fz
          rename News _ _ _ _ => Nz
          rename (_ = S (List.take _ _)) => ez
          rw [back_is hxl hil] at ez
          exact ⟨rfl, _, _, _, _, _, rfl, Fz, cb_drop Nz (fun p h => by repeat (first | exact h | refine List.Mem.tail _ ?_)), ez⟩
        clear F N hrv hrv2
        rintro s' ⟨h', tk, zb, tb, tz, rfl, F, N, hzb⟩
        k_steps
        · exfalso
          rename (bne _ _ = true) => hbne
          rename (_ = S (List.reverse _)) => ez
          rw [ez, hzb] at hbne
          simp at hbne
        · unfold Stop
          rename Fr _ _ _ _ => Fz
          rename News _ _ _ _ => Nz
          refine InvEndN.intro Fz Nz ⟨⟨⟨tz, by rw [hz]; rfl⟩, vs', ne', rfl, hse⟩, ?_⟩ rfl (sub_cons (by k_mem) (sub_cons (by k_mem) (sub_cons (by k_mem) (sub_cons (by k_mem) (sub_cons (by k_mem) (sub_cons (by k_mem) (sub_cons (by k_mem) (sub_cons (by k_mem) (sub_cons (by k_mem) sub_nil))))))))) (fun p h => by repeat (first | exact h | refine List.Mem.tail _ ?_))
          intro q h1 h2
          have h3 : q ≠ Str.ofString "turned" := by intro e; rw [e] at h2; exact absurd h2 (by decide +kernel)
          have h4 : q ≠ Str.ofString "back" := by intro e; rw [e] at h2; exact absurd h2 (by decide +kernel)
          simp only [if_neg h4, if_neg h3, if_neg h1]
    · intro m₁ nx h9 tk9 hP hm F2 N2
      obtain ⟨⟨tt, ha⟩, vs, ne, hnx, hse⟩ := hP
      subst hnx
      have hn : (((x.length : Int) + 1 - 1).toNat) = lx.length := by omega
      rw [hn] at hse
      rw [hn, rot_full, ← hx] at ha
      have hroot : m₁ (Str.ofString "root") = some (.str r tr) := (hm _ (by decide) (by decide +kernel)).trans rfl
      have hseen : m₁ (Str.ofString "seen") = some (.ref sl) := (hm _ (by decide) (by decide +kernel)).trans rfl
      clear Ra Fa Na hm
      k_steps
      exact ⟨rfl, _, _, _, vs, ne, tt, rfl, fr_keep (fr_keep (fr_keep F2 hroot) ((if_neg (by decide)).trans hseen)) ((if_neg (by decide)).trans ((if_neg (by decide)).trans ha)), N2, by rw [hse.len]; exact seen_len Wx.1⟩
  clear F N
  rintro s' ⟨h', tk, u, vs, ne, tt, rfl, F, N, hvl⟩
  have hr1 : 1 ≤ r.length := by rw [hr, S_len]; exact (root_len Wx.1).1
  have hr6 : r.length ≤ 6 := by rw [hr, S_len]; exact Nat.le_trans (root_len Wx.1).2.1 Wx.2.1
  have hrl : r.length = (root lx).length := by rw [hr]; exact S_len _
  have hvs : vs.toArray.size = r.length := by rw [List.size_toArray, hvl, hrl]
  have hxx : (x == x) = true := by simp
  k_steps
end
end Mine

theorem PySem.Challenge.cw_tk0107_01_holds : PySem.Challenge.rw_tk0107_01.Holds := by
  exact Mine.m1
