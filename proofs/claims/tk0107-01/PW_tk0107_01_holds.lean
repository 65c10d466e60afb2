import PyProof.Rows.All
import Wide.All
import OpenK.AllK
import Wide.FinOn
import Lean
import PySem.Challenge.RW_tk0107_01
open PySem PySem.W PyProof.Rows
set_option Elab.async false
set_option maxRecDepth 100000
set_option maxHeartbeats 0
namespace Mine

/-! the plain law: texts as lists of signs -/
/-- a text by the list of its signs -/
def S (l : List Nat) : Str := ⟨l.toArray⟩
theorem S_len (l : List Nat) : (S l).length = l.length := by simp [S, Str.length]
theorem S_inj {a b : List Nat} (h : S a = S b) : a = b := by
  have := congrArg (fun x : Str => x.cps.toList) h
  simpa [S] using this
theorem S_beq (a b : List Nat) : (S a == S b) = (a == b) := by
  by_cases h : a = b
  · subst h; simp
  · have h2 : S a ≠ S b := fun e => h (S_inj e)
    rw [beq_eq_false_iff_ne.mpr h, beq_eq_false_iff_ne.mpr h2]
theorem S_app (a b : List Nat) : S a ++ S b = S (a ++ b) := by
  apply Str.ext'
  show (S a).cps ++ (S b).cps = _
  simp [S]
theorem S_of (x : Str) : x = S x.cps.toList := by
  apply Str.ext'
  simp [S]
theorem S_nil : Str.empty = S [] := rfl

def rep (n : Nat) (l : List Nat) : List Nat := (List.replicate n l).flatten
theorem rep_zero (l : List Nat) : rep 0 l = [] := rfl
theorem rep_succ (n : Nat) (l : List Nat) : rep (n + 1) l = l ++ rep n l := by
  simp [rep, List.replicate_succ]
theorem rep_len (n : Nat) (l : List Nat) : (rep n l).length = n * l.length := by
  simp [rep]

theorem foldl_app (l : List (Array Nat)) : ∀ a : Array Nat, (l.foldl (· ++ ·) a).toList = a.toList ++ (l.map Array.toList).flatten := by
  induction l with
  | nil => intro a; simp
  | cons x r ih => intro a; simp [ih]

theorem S_mul (l : List Nat) (k : Int) : Txt.mul (S l) k = S (rep k.toNat l) := by
  unfold Txt.mul
  by_cases h1 : k < 1
  · rw [if_pos h1]
    have : k.toNat = 0 := by omega
    rw [this]; rfl
  · rw [if_neg h1]
    by_cases h2 : (k == 1 || (S l).length == 0) = true
    · rw [if_pos h2]
      rcases Bool.or_eq_true_iff.mp h2 with h | h
      · have : k = 1 := by simpa using h
        subst this
        apply congrArg S
        simp [rep]
      · have : l = [] := by
          rw [S_len] at h
          exact List.length_eq_zero_iff.mp (by simpa using h)
        subst this
        apply congrArg S
        simp [rep]
    · rw [if_neg h2]
      apply Str.ext'
      apply Array.ext'
      show (List.foldl (· ++ ·) #[] (List.replicate k.toNat (S l).cps)).toList = (rep k.toNat l).toArray.toList
      rw [foldl_app]
      simp [rep, S]

theorem filterMap_pick (l : List Nat) (a b : Nat) : (((List.range b).map (a + ·)).filterMap (l.toArray[·]?)) = (l.drop a).take b := by
  have := pick_run l.toArray a b
  simpa using this

theorem slice_idx (l : List Nat) (a b : Int) (ha : 0 ≤ a) (hb : 0 ≤ b) : Builtin.Str.strSliceIndices (some a) (some b) 1 l.length = (List.range (min b.toNat l.length - min a.toNat l.length)).map (min a.toNat l.length + ·) := by
  unfold Builtin.Str.strSliceIndices sliceRange
  have ha' : ¬ a < 0 := by omega
  have hb' : ¬ b < 0 := by omega
  simp only [show (1 : Int) > 0 by decide, if_true, if_neg ha', if_neg hb']
  have e1 : (if max 0 (min a (l.length : Int)) < max 0 (min b (l.length : Int)) then (max 0 (min b (l.length : Int)) - max 0 (min a (l.length : Int)) + 1 - 1) / 1 else 0).toNat = min b.toNat l.length - min a.toNat l.length := by
    split
    · rw [Int.ediv_one]; omega
    · omega
  rw [e1]
  apply List.map_congr_left
  intro k hk
  omega

theorem slice_core (x : Str) (I : List Nat) (r : List Nat) (hI : I.filterMap (x.cps[·]?) = r) (hfull : I.length = x.length → r = x.cps.toList) :
    (if ((1 : Int) == 1 && I.length == x.length) = true then x else ⟨(I.filterMap (x.cps[·]?)).toArray⟩) = S r := by
  split
  · rename_i h
    have h2 : I.length = x.length := by simpa using h
    rw [hfull h2]; exact S_of x
  · rw [hI]; rfl

theorem S_slice (l : List Nat) (a b : Int) (ha : 0 ≤ a) (hb : 0 ≤ b) : Txt.slice (S l) (some a) (some b) = S ((l.drop a.toNat).take (b.toNat - a.toNat)) := by
  unfold Txt.slice
  rw [S_len]
  have e := slice_idx l a b ha hb
  refine Eq.trans (b := S ((l.drop (min a.toNat l.length)).take (min b.toNat l.length - min a.toNat l.length))) ?_ ?_
  · rw [← S_len l] at e ⊢
    refine slice_core (S l) _ _ ?_ ?_
    · rw [S_len] at e ⊢; rw [e]; exact filterMap_pick l _ _
    · intro h
      rw [S_len] at e h
      rw [e] at h
      simp only [List.length_map, List.length_range] at h
      show _ = l
      simp only [S_len]
      rw [show min a.toNat l.length = 0 by omega, show min b.toNat l.length = l.length by omega]
      simp
  · apply congrArg S
    apply List.ext_getElem?
    intro i
    simp only [List.getElem?_take, List.getElem?_drop]
    split <;> split
    · congr 1; omega
    · omega
    · rename_i h1 h2
      symm
      apply List.getElem?_eq_none
      omega
    · rfl

theorem slice_none_lo (x : Str) (b : Option Int) : Txt.slice x none b = Txt.slice x (some 0) b := by
  unfold Txt.slice
  have : Builtin.Str.strSliceIndices none b 1 x.length = Builtin.Str.strSliceIndices (some 0) b 1 x.length := by
    unfold Builtin.Str.strSliceIndices
    have h : ¬ (0 : Int) < 0 := by omega
    have e : max (0 : Int) (min 0 (x.length : Int)) = 0 := by omega
    simp only [show (1 : Int) > 0 by decide, if_true, if_neg h, e]
  rw [this]
theorem slice_none_hi (x : Str) (a : Option Int) : Txt.slice x a none = Txt.slice x a (some (x.length : Int)) := by
  unfold Txt.slice
  have : Builtin.Str.strSliceIndices a none 1 x.length = Builtin.Str.strSliceIndices a (some (x.length : Int)) 1 x.length := by
    unfold Builtin.Str.strSliceIndices
    have h : ¬ (x.length : Int) < 0 := by omega
    have e : max (0 : Int) (min (x.length : Int) (x.length : Int)) = (x.length : Int) := by omega
    simp only [show (1 : Int) > 0 by decide, if_true, if_neg h, e]
  rw [this]
theorem S_take (l : List Nat) (b : Int) (hb : 0 ≤ b) : Txt.slice (S l) none (some b) = S (l.take b.toNat) := by
  rw [slice_none_lo, S_slice l 0 b (by decide) hb]
  simp
theorem S_drop (l : List Nat) (a : Int) (ha : 0 ≤ a) : Txt.slice (S l) (some a) none = S (l.drop a.toNat) := by
  rw [slice_none_hi, S_slice l a _ ha (by omega), S_len]
  apply congrArg S
  apply List.take_of_length_le
  simp only [List.length_drop]; omega

theorem S_rev (l : List Nat) (u : Tok) : Txt.sliceBy (S l) none none (-1, u) = S l.reverse := by
  unfold Txt.sliceBy slicePicked
  simp only [Option.map_none, Option.map_some, Option.getD_some]
  rw [if_neg (by simp)]
  have e : Builtin.Str.strSliceIndices none none (-1) (S l).length = (List.range l.length).map fun k => l.length - 1 - k := by
    rw [S_len]
    unfold Builtin.Str.strSliceIndices
    simp only [show ¬ ((-1 : Int) > 0) by decide, if_false]
    exact krv_sliceRange l.length
  rw [e, krv_range]
  show Str.mk _ = Str.mk _
  congr 1
  rw [List.filterMap_reverse]
  have h := krv_all l.toArray
  simp only [List.size_toArray] at h
  show ((List.filterMap (fun x => l.toArray[x]?) (List.range l.length)).reverse).toArray = _
  rw [h]
def okAt (l : List Nat) (d : Nat) : Bool := rep (l.length / d) (l.take d) == l
def root (l : List Nat) : List Nat := match (List.range l.length).find? (fun i => okAt l (i + 1)) with
  | some i => l.take (i + 1)
  | none => l

/-! roots, powers, words joined either way -/
/-- the sign at i of l, again and again -/
def cyc (l : List Nat) (i : Nat) : Option Nat := l[i % l.length]?
theorem rep_get (l : List Nat) (h0 : 1 ≤ l.length) : ∀ (n i : Nat), i < n * l.length → (rep n l)[i]? = cyc l i
  | 0, i, h => by omega
  | n + 1, i, h => by
    rw [rep_succ]
    by_cases hi : i < l.length
    · rw [List.getElem?_append_left hi]
      unfold cyc
      rw [Nat.mod_eq_of_lt hi]
    · rw [List.getElem?_append_right (by omega)]
      rw [Nat.succ_mul] at h
      rw [rep_get l h0 n (i - l.length) (by omega)]
      unfold cyc
      congr 1
      rw [← Nat.mod_eq_sub_mod (by omega)]
theorem rep_eq_of_cyc {l m : List Nat} {a b : Nat} (hl : 1 ≤ l.length) (hm : 1 ≤ m.length) (hab : a * l.length = b * m.length) (h : ∀ i, cyc l i = cyc m i) : rep a l = rep b m := by
  apply List.ext_getElem?
  intro i
  by_cases hi : i < a * l.length
  · rw [rep_get l hl a i hi, rep_get m hm b i (by omega), h]
  · rw [List.getElem?_eq_none (by rw [rep_len]; omega), List.getElem?_eq_none (by rw [rep_len]; omega)]
theorem cyc_of_rep_eq {l m : List Nat} {a b : Nat} (hl : 1 ≤ l.length) (hm : 1 ≤ m.length) (ha : 1 ≤ a) (hab : a * l.length = b * m.length) (h : rep a l = rep b m) : ∀ i, cyc l i = cyc m i := by
  intro i
  have hN : 0 < a * l.length := Nat.mul_pos ha hl
  have e1 : cyc l i = cyc l (i % (a * l.length)) := by
    unfold cyc; congr 1
    rw [Nat.mul_comm, Nat.mod_mul_right_mod]
  have e2 : cyc m i = cyc m (i % (a * l.length)) := by
    unfold cyc; congr 1
    rw [hab, Nat.mul_comm, Nat.mod_mul_right_mod]
  have hlt := Nat.mod_lt i hN
  rw [e1, e2, ← rep_get l hl a _ hlt, ← rep_get m hm b _ (by omega), h]
/-- the period d of a cycle -/
def per (f : Nat → Option Nat) (d : Nat) : Prop := ∀ i, f (i + d) = f i
theorem cyc_per (l : List Nat) : per (cyc l) l.length := by
  intro i
  unfold cyc
  rw [Nat.add_mod_right]
theorem per_mul {f : Nat → Option Nat} {d : Nat} (h : per f d) : ∀ k, per f (k * d)
  | 0 => fun i => by simp
  | k + 1 => fun i => by
    rw [Nat.succ_mul, ← Nat.add_assoc, h, per_mul h k i]
theorem per_gcd {f : Nat → Option Nat} : ∀ (a b : Nat), per f a → per f b → per f (Nat.gcd a b) := by
  intro a b
  induction a, b using Nat.gcd.induction with
  | H0 n => intro _ h; simpa using h
  | H1 m n hm ih =>
    intro h1 h2
    rw [Nat.gcd_rec]
    refine ih ?_ h1
    intro i
    have e : i + n % m + n / m * m = i + n := by
      have := Nat.mod_add_div' n m
      omega
    have h3 := per_mul h1 (n / m) (i + n % m)
    rw [e, h2] at h3
    exact h3.symm
/-- a prefix whose powers are the word: its length divides, and it is a period -/
theorem okAt_iff {l : List Nat} {d : Nat} (hl : 1 ≤ l.length) (hd : 1 ≤ d) (hdl : d ≤ l.length) : okAt l d = true ↔ d ∣ l.length ∧ per (cyc l) d := by
  have ht : (l.take d).length = d := by rw [List.length_take]; omega
  unfold okAt
  rw [beq_iff_eq]
  constructor
  · intro h
    have hlen := congrArg List.length h
    rw [rep_len, ht] at hlen
    have hdvd : d ∣ l.length := ⟨l.length / d, by rw [Nat.mul_comm]; exact hlen.symm⟩
    refine ⟨hdvd, ?_⟩
    have hr : rep 1 l = rep (l.length / d) (l.take d) := by
      rw [h]; simp [rep]
    have hc := cyc_of_rep_eq (l := l) (m := l.take d) hl (by omega) (Nat.le_refl 1) (by rw [ht]; omega) hr
    intro i
    rw [hc, hc]
    have := cyc_per (l.take d) i
    rw [ht] at this
    exact this
  · rintro ⟨hdvd, hp⟩
    have he : l.length / d * d = l.length := Nat.div_mul_cancel hdvd
    have hc : ∀ i, cyc (l.take d) i = cyc l i := by
      intro i
      have e : cyc l i = cyc l (i % d) := by
        have := per_mul hp (i / d) (i % d)
        rw [Nat.mod_add_div' i d] at this
        exact this
      rw [e]
      unfold cyc
      rw [ht, List.getElem?_take, if_pos (Nat.mod_lt i hd)]
      congr 1
      exact (Nat.mod_eq_of_lt (Nat.lt_of_lt_of_le (Nat.mod_lt i hd) hdl)).symm
    have := rep_eq_of_cyc (l := l.take d) (m := l) (a := l.length / d) (b := 1) (by omega) hl (by rw [ht]; omega) hc
    rw [this]; simp [rep]
theorem okAt_full {l : List Nat} (hl : 1 ≤ l.length) : okAt l l.length = true := (okAt_iff hl hl (Nat.le_refl _)).mpr ⟨Nat.dvd_refl _, cyc_per l⟩
/-- the root: its length is the least that does -/
theorem root_spec {l : List Nat} (hl : 1 ≤ l.length) : ∃ d, 1 ≤ d ∧ d ≤ l.length ∧ root l = l.take d ∧ okAt l d = true ∧ ∀ e, 1 ≤ e → e < d → okAt l e = false := by
  unfold root
  cases hf : (List.range l.length).find? (fun i => okAt l (i + 1)) with
  | none =>
    exfalso
    rw [List.find?_eq_none] at hf
    have := hf (l.length - 1) (by rw [List.mem_range]; omega)
    rw [show l.length - 1 + 1 = l.length by omega] at this
    exact this (okAt_full hl)
  | some i =>
    rw [List.find?_eq_some_iff_getElem] at hf
    obtain ⟨h1, j, hj, hji, hlt⟩ := hf
    simp only [List.length_range] at hj
    simp only [List.getElem_range] at hji
    subst hji
    refine ⟨j + 1, by omega, by omega, rfl, h1, ?_⟩
    intro e he1 hed
    have := hlt (e - 1) (by omega)
    simp only [List.getElem_range] at this
    rw [show e - 1 + 1 = e by omega] at this
    simpa using this
theorem root_len {l : List Nat} (hl : 1 ≤ l.length) : 1 ≤ (root l).length ∧ (root l).length ≤ l.length ∧ (root l).length ∣ l.length ∧ per (cyc l) (root l).length ∧ (∀ e, 1 ≤ e → e ∣ l.length → per (cyc l) e → (root l).length ≤ e) ∧ root l = l.take (root l).length := by
  obtain ⟨d, h1, h2, h3, h4, h5⟩ := root_spec hl
  have hlen : (root l).length = d := by rw [h3, List.length_take]; omega
  rw [hlen]
  obtain ⟨h6, h7⟩ := (okAt_iff hl h1 h2).mp h4
  refine ⟨h1, h2, h6, h7, ?_, h3⟩
  intro e he hdv hp
  refine Nat.le_of_not_lt fun hlt => ?_
  have := h5 e he hlt
  rw [(okAt_iff hl he (by omega)).mpr ⟨hdv, hp⟩] at this
  cases this
theorem root_of_cyc {l m : List Nat} (hl : 1 ≤ l.length) (hm : 1 ≤ m.length) (h : ∀ i, cyc l i = cyc m i) : root l = root m := by
  obtain ⟨a1, a2, a3, a4, a5, a6⟩ := root_len hl
  obtain ⟨b1, b2, b3, b4, b5, b6⟩ := root_len hm
  have hf : cyc l = cyc m := funext h
  have hg := per_gcd _ _ a4 (hf ▸ b4)
  have hg1 : 1 ≤ Nat.gcd (root l).length (root m).length := Nat.gcd_pos_of_pos_left _ a1
  have e1 := a5 _ hg1 (Nat.dvd_trans (Nat.gcd_dvd_left _ _) a3) hg
  have e2 := b5 _ hg1 (Nat.dvd_trans (Nat.gcd_dvd_right _ _) b3) (hf ▸ hg)
  have g1 := Nat.gcd_le_left (root m).length (show 0 < (root l).length from a1)
  have g2 := Nat.gcd_le_right (root l).length (show 0 < (root m).length from b1)
  have hlen : (root l).length = (root m).length := by omega
  rw [a6, b6, ← hlen]
  apply List.ext_getElem?
  intro i
  rw [List.getElem?_take, List.getElem?_take]
  split
  · have := h i
    unfold cyc at this
    rwa [Nat.mod_eq_of_lt (by omega), Nat.mod_eq_of_lt (by omega)] at this
  · rfl
theorem root_pow {l : List Nat} (hl : 1 ≤ l.length) : rep (l.length / (root l).length) (root l) = l := by
  obtain ⟨a1, a2, a3, a4, a5, a6⟩ := root_len hl
  have := (okAt_iff hl a1 a2).mpr ⟨a3, a4⟩
  unfold okAt at this
  rw [← a6, beq_iff_eq] at this
  exact this
theorem cyc_root {l : List Nat} (hl : 1 ≤ l.length) : ∀ i, cyc (root l) i = cyc l i := by
  obtain ⟨a1, a2, a3, a4, a5, a6⟩ := root_len hl
  have h := root_pow hl
  have hd : 1 ≤ l.length / (root l).length := Nat.div_pos a2 a1
  refine cyc_of_rep_eq (a := l.length / (root l).length) (b := 1) a1 hl hd ?_ ?_
  · rw [Nat.div_mul_cancel a3]; omega
  · rw [h]; simp [rep]
theorem cyc_of_root {l m : List Nat} (hl : 1 ≤ l.length) (hm : 1 ≤ m.length) (h : root l = root m) : ∀ i, cyc l i = cyc m i := by
  intro i
  rw [← cyc_root hl, ← cyc_root hm, h]
theorem pow_iff {l m : List Nat} {a b : Nat} (hl : 1 ≤ l.length) (hm : 1 ≤ m.length) (ha : 1 ≤ a) (hab : a * l.length = b * m.length) : (rep a l == rep b m) = (root l == root m) := by
  rw [Bool.eq_iff_iff, beq_iff_eq, beq_iff_eq]
  exact ⟨fun h => root_of_cyc hl hm (cyc_of_rep_eq hl hm ha hab h), fun h => rep_eq_of_cyc hl hm hab (cyc_of_root hl hm h)⟩
/-- two words joined either way are the same just when their cycles are -/
theorem app_get {l m : List Nat} (hl : 1 ≤ l.length) (hm : 1 ≤ m.length) (h : ∀ i, cyc l i = cyc m i) : ∀ i, i < l.length + m.length → (l ++ m)[i]? = cyc l i := by
  intro i hi
  by_cases h1 : i < l.length
  · rw [List.getElem?_append_left h1]
    unfold cyc
    rw [Nat.mod_eq_of_lt h1]
  · rw [List.getElem?_append_right (by omega)]
    have e := cyc_per l (i - l.length)
    rw [Nat.sub_add_cancel (by omega)] at e
    rw [e, h]
    unfold cyc
    rw [Nat.mod_eq_of_lt (by omega)]
theorem comm_of_cyc {l m : List Nat} (hl : 1 ≤ l.length) (hm : 1 ≤ m.length) (h : ∀ i, cyc l i = cyc m i) : l ++ m = m ++ l := by
  apply List.ext_getElem?
  intro i
  by_cases hi : i < l.length + m.length
  · rw [app_get hl hm h i hi, app_get hm hl (fun i => (h i).symm) i (by omega), h]
  · rw [List.getElem?_eq_none (by rw [List.length_append]; omega), List.getElem?_eq_none (by rw [List.length_append]; omega)]
theorem rep_comm {l m : List Nat} (h : l ++ m = m ++ l) : ∀ n, rep n l ++ m = m ++ rep n l
  | 0 => by simp [rep]
  | n + 1 => by rw [rep_succ, List.append_assoc, rep_comm h n, ← List.append_assoc, h, List.append_assoc]
theorem cyc_of_comm {l m : List Nat} (hl : 1 ≤ l.length) (hm : 1 ≤ m.length) (h : l ++ m = m ++ l) : ∀ i, cyc l i = cyc m i := by
  have hp : per (cyc l) m.length := by
    intro i
    have hN : i + m.length + 1 ≤ (i + m.length + 1) * l.length := Nat.le_mul_of_pos_right _ hl
    have h1 := rep_comm h (i + m.length + 1)
    have h2 := congrArg (fun z : List Nat => z[i + m.length]?) h1
    (try simp only at h2)
    rw [List.getElem?_append_left (by rw [rep_len]; omega), List.getElem?_append_right (by omega), rep_get l hl _ _ (by omega), rep_get l hl _ _ (by omega)] at h2
    rw [h2]
    congr 1
    omega
  have hpre : ∀ i, i < m.length → cyc l i = m[i]? := by
    intro i hi
    have hN : i + 1 ≤ (i + 1) * l.length := Nat.le_mul_of_pos_right _ hl
    have h1 := rep_comm h (i + 1)
    have h2 := congrArg (fun z : List Nat => z[i]?) h1
    (try simp only at h2)
    rw [List.getElem?_append_left (by rw [rep_len]; omega), List.getElem?_append_left hi, rep_get l hl _ _ (by omega)] at h2
    exact h2
  intro i
  have e : cyc l i = cyc l (i % m.length) := by
    have := per_mul hp (i / m.length) (i % m.length)
    rw [Nat.mod_add_div' i m.length] at this
    exact this
  rw [e, hpre _ (Nat.mod_lt i hm)]
  rfl
theorem comm_iff {l m : List Nat} (hl : 1 ≤ l.length) (hm : 1 ≤ m.length) : (l ++ m == m ++ l) = (root l == root m) := by
  rw [Bool.eq_iff_iff, beq_iff_eq, beq_iff_eq]
  exact ⟨fun h => root_of_cyc hl hm (cyc_of_comm hl hm h), fun h => comm_of_cyc hl hm (cyc_of_root hl hm h)⟩
theorem app_root {l m : List Nat} (hl : 1 ≤ l.length) (hm : 1 ≤ m.length) (h : root l = root m) : l ++ m = rep ((l.length + m.length) / (root l).length) (root l) := by
  obtain ⟨a1, a2, a3, a4, a5, a6⟩ := root_len hl
  obtain ⟨b1, b2, b3, b4, b5, b6⟩ := root_len hm
  rw [← h] at b3
  have hd : (root l).length ∣ l.length + m.length := Nat.dvd_add a3 b3
  apply List.ext_getElem?
  intro i
  by_cases hi : i < l.length + m.length
  · rw [app_get hl hm (cyc_of_root hl hm h) i hi, rep_get (root l) a1 _ _ (by rw [Nat.div_mul_cancel hd]; exact hi), cyc_root hl]
  · rw [List.getElem?_eq_none (by rw [List.length_append]; omega), List.getElem?_eq_none (by rw [rep_len, Nat.div_mul_cancel hd]; omega)]

/-! turns -/
def rot (l : List Nat) (t : Nat) : List Nat := l.drop t ++ l.take t
theorem rot_len {l : List Nat} {t : Nat} (ht : t ≤ l.length) : (rot l t).length = l.length := by
  unfold rot; rw [List.length_append, List.length_drop, List.length_take]; omega
theorem rot_zero (l : List Nat) : rot l 0 = l := by simp [rot]
theorem rot_full (l : List Nat) : rot l l.length = l := by simp [rot]
theorem rep_two (l : List Nat) : rep 2 l = l ++ l := by simp [rep, List.replicate]
theorem rot_step {l : List Nat} {i : Nat} (hi : i < l.length) : ((rep 2 (rot l i)).drop 1).take l.length = rot l (i + 1) := by
  have hd : l.drop i = l[i] :: l.drop (i + 1) := List.drop_eq_getElem_cons hi
  have ht : l.take (i + 1) = l.take i ++ [l[i]] := by rw [List.take_succ_eq_append_getElem hi]
  rw [rep_two]
  unfold rot
  rw [hd, ht]
  simp only [List.cons_append, List.drop_succ_cons, List.drop_zero, List.append_assoc]
  have e : l.length = (l.drop (i + 1) ++ (l.take i ++ [l[i]])).length := by
    simp only [List.length_append, List.length_drop, List.length_take, List.length_cons, List.length_nil]; omega
  rw [show l.drop (i + 1) ++ (l.take i ++ l[i] :: (l.drop (i + 1) ++ l.take i)) = (l.drop (i + 1) ++ (l.take i ++ [l[i]])) ++ (l.drop (i + 1) ++ l.take i) by simp only [List.append_assoc, List.cons_append, List.nil_append]]
  conv => lhs; arg 1; rw [e]
  rw [List.take_left']
  rfl
theorem rot_back {l : List Nat} {t : Nat} (ht : t ≤ l.length) : ((rep 2 l.reverse).drop (l.length - t)).take l.length = (rot l t).reverse := by
  rw [rep_two]
  unfold rot
  rw [List.reverse_append]
  have e : l.reverse = (l.drop t).reverse ++ (l.take t).reverse := by
    rw [← List.reverse_append, List.take_append_drop]
  rw [e]
  have h1 : (l.drop t).reverse.length = l.length - t := by rw [List.length_reverse, List.length_drop]
  rw [List.append_assoc, ← h1, List.drop_left' rfl]
  have e2 : l.length = ((l.take t).reverse ++ (l.drop t).reverse).length := by
    simp only [List.length_append, List.length_reverse, List.length_drop, List.length_take]; omega
  rw [← List.append_assoc]
  conv => lhs; arg 1; rw [e2]
  rw [List.take_left' rfl]
theorem rot_get {l : List Nat} {t i : Nat} (ht : t ≤ l.length) (hi : i < l.length) : (rot l t)[i]? = cyc l (i + t) := by
  unfold rot
  by_cases h : i < l.length - t
  · rw [List.getElem?_append_left (by rw [List.length_drop]; exact h), List.getElem?_drop]
    unfold cyc
    rw [Nat.mod_eq_of_lt (by omega), Nat.add_comm]
  · rw [List.getElem?_append_right (by rw [List.length_drop]; omega), List.length_drop, List.getElem?_take, if_pos (by omega)]
    unfold cyc
    congr 1
    have : (i + t) % l.length = i + t - l.length := by
      rw [Nat.mod_eq_sub_mod (by omega), Nat.mod_eq_of_lt (by omega)]
    omega
theorem rot_eq {l : List Nat} (hl : 1 ≤ l.length) {s t : Nat} (hs : s ≤ t) (ht : t ≤ l.length) : rot l s = rot l t ↔ (root l).length ∣ t - s := by
  obtain ⟨a1, a2, a3, a4, a5, a6⟩ := root_len hl
  constructor
  · intro h
    have h1 : ∀ i, cyc l (i + s) = cyc l (i + t) := by
      intro i
      have e : ∀ k, cyc l (i + k) = cyc l (i % l.length + k) := by
        intro k; unfold cyc; congr 1; rw [Nat.mod_add_mod]
      have hm := Nat.mod_lt i hl
      rw [e s, e t, ← rot_get (by omega) hm, ← rot_get ht hm, h]
    have hp : per (cyc l) (t - s) := by
      intro i
      have h2 := h1 (i + s * l.length - s)
      have hs2 : s ≤ s * l.length := Nat.le_mul_of_pos_right _ hl
      rw [show i + s * l.length - s + s = i + s * l.length by omega, show i + s * l.length - s + t = i + (t - s) + s * l.length by omega, per_mul (cyc_per l) s i, per_mul (cyc_per l) s] at h2
      exact h2.symm
    by_cases h0 : t - s = 0
    · rw [h0]; exact Nat.dvd_zero _
    · have hg := per_gcd _ _ a4 hp
      have hg1 : 1 ≤ Nat.gcd (root l).length (t - s) := Nat.gcd_pos_of_pos_left _ a1
      have e1 := a5 _ hg1 (Nat.dvd_trans (Nat.gcd_dvd_left _ _) a3) hg
      have g1 := Nat.gcd_le_left (t - s) (show 0 < (root l).length from a1)
      have : Nat.gcd (root l).length (t - s) = (root l).length := by omega
      rw [← this]
      exact Nat.gcd_dvd_right _ _
  · rintro ⟨k, hk⟩
    apply List.ext_getElem?
    intro i
    by_cases hi : i < l.length
    · rw [rot_get (by omega) hi, rot_get ht hi]
      have := per_mul a4 k (i + s)
      rw [show i + s + k * (root l).length = i + t by rw [Nat.mul_comm]; omega] at this
      exact this.symm
    · rw [List.getElem?_eq_none (by rw [rot_len (by omega)]; omega), List.getElem?_eq_none (by rw [rot_len ht]; omega)]
theorem rot_self {l : List Nat} (hl : 1 ≤ l.length) {t : Nat} (ht : t ≤ l.length) : (rot l t == l) = (t % (root l).length == 0) := by
  have h := rot_eq hl (Nat.zero_le t) ht
  rw [rot_zero, Nat.sub_zero] at h
  rw [Bool.eq_iff_iff, beq_iff_eq, beq_iff_eq, ← Nat.dvd_iff_mod_eq_zero]
  exact ⟨fun e => h.mp e.symm, fun e => (h.mpr e).symm⟩
/-- what was seen ahead of turn i -/
def seenAt (l : List Nat) (i : Nat) : List (List Nat) := (List.range (min i (root l).length)).map (rot l)
theorem seen_new {l : List Nat} (hl : 1 ≤ l.length) {i : Nat} (hi : i < l.length) (h : i < (root l).length) : rot l i ∉ seenAt l i ∧ seenAt l (i + 1) = seenAt l i ++ [rot l i] := by
  unfold seenAt
  rw [Nat.min_eq_left (by omega), Nat.min_eq_left (by omega)]
  constructor
  · intro hm
    obtain ⟨s, hs, e⟩ := List.mem_map.mp hm
    rw [List.mem_range] at hs
    have := (rot_eq hl (by omega : s ≤ i) (by omega)).mp e
    have := Nat.le_of_dvd (by omega) this
    omega
  · rw [List.range_succ, List.map_append]; rfl
theorem seen_old {l : List Nat} (hl : 1 ≤ l.length) {i : Nat} (hi : i < l.length) (h : ¬ i < (root l).length) : rot l i ∈ seenAt l i ∧ seenAt l (i + 1) = seenAt l i := by
  obtain ⟨a1, a2, a3, a4, a5, a6⟩ := root_len hl
  unfold seenAt
  rw [Nat.min_eq_right (by omega), Nat.min_eq_right (by omega)]
  refine ⟨List.mem_map.mpr ⟨i % (root l).length, ?_, ?_⟩, rfl⟩
  · rw [List.mem_range]; exact Nat.mod_lt i a1
  · refine (rot_eq hl (Nat.mod_le i _) (by omega)).mpr ?_
    exact Nat.dvd_sub_mod i
theorem seen_len {l : List Nat} (hl : 1 ≤ l.length) : (seenAt l l.length).length = (root l).length := by
  obtain ⟨a1, a2, a3, a4, a5, a6⟩ := root_len hl
  unfold seenAt
  rw [List.length_map, List.length_range, Nat.min_eq_right a2]
theorem seen_zero (l : List Nat) : seenAt l 0 = [] := by simp [seenAt]

/-! the head -/
open_top hd for PySem.Challenge.rw_tk0107_01
open PySem.Calls

/-! the functions: what a call of each gives -/
abbrev TOP (mean : ExcName → Option Value) (mg mb : Str → Option Value) (h : Heap) : Prop := Top hd.view_39 (looseW hd.view_39 [Str.ofString "SnobolError"]) mean mg mb h
def Stop (P : Prop) : Prop := P
theorem stop_here {P : Prop} (h : Stop P) : P := h
theorem news2 {h₀ h : Heap} {L : Addr} {news : List (Addr × Obj)} {p q : Addr × Obj} (N : News h₀ L h news) (hp : p ∈ news) (hq : q ∈ news) : News h₀ L h (p :: q :: news) := by
  intro r hr
  rcases List.mem_cons.mp hr with rfl | hr
  · exact N _ hp
  rcases List.mem_cons.mp hr with rfl | hr
  · exact N _ hq
  exact N _ hr
theorem news1 {h₀ h : Heap} {L : Addr} {news : List (Addr × Obj)} {p : Addr × Obj} (N : News h₀ L h news) (hp : p ∈ news) : News h₀ L h (p :: news) := by
  intro r hr
  rcases List.mem_cons.mp hr with rfl | hr
  · exact N _ hp
  exact N _ hr
section
local macro_rules | `(tactic| walk_at "getAttr ref") => `(tactic| (k_here; k_dflt (refine' get_own ?k1 ?k2 ?k3 ?k4 ?k5 ?k6 ?k7 ?k8 ?k9 ?_; (case k1 => k_asm); (case k2 => k_asm); (case k3 => k_inst); (case k4 => k_is); (case k5 => k_is); (case k6 => k_is); (case k7 => k_is); (case k8 => assumption); (case k9 => k_handed); k_whole)))
local macro_rules | `(tactic| walk_at "call ref") => `(tactic| (k_here; k_dflt (refine wpAny_call ?_; refine' code_def ?k1 ?k2 ?k3 ?k4 ?k5 ?kA ?kF ?kK ?k6 ?k7 ?k8 ?k9 ?kB ?_ ?c2 ?c3 ?c4 ?c5; (case kA => exact rfl); (case kF => exact rfl); (case kK => first | exact rfl | assumption); (case k1 => k_asm); (case k2 => k_asm); (case k3 => k_asm); (case k4 => k_asm); (case k5 => k_asm); (case k6 => k_is); (case k7 => k_is); (case k8 => ktr_room); (case k9 => exact BindsTo.of_eq rfl); (case c5 => decide); (case kB => exact locs rfl); (case c2 => exact rfl); (case c3 => exact rfl); (case c4 => exact rfl); k_whole; intro g' L' h' FG' F' N' B' X' T'; (try dsimp only); (try k_lift B'); (try k_fold))))
section
variable {prog : Program} {w : World} {A : Around} {E : Value → Shared → Prop} {s : Shared} {env : Env} {h₀ : Heap} {x : Str} {body : List Stmt} {Q : Flow → Shared → Prop}
theorem rangeKs_at {a₀ k : Int} {n i : Nat} (hk : (rangeKs a₀ n)[i]? = some k) : i < n ∧ k = a₀ + (i : Int) := by
  unfold rangeKs at hk
  rw [List.getElem?_map] at hk
  obtain ⟨j, hj, e⟩ := Option.map_eq_some_iff.mp hk
  have hin : i < n := by
    have := (List.getElem?_eq_some_iff.mp hj).1
    simpa using this
  rw [List.getElem?_range hin] at hj
  cases hj
  exact ⟨hin, e.symm⟩
/-- a loop over a range: the frame but for x and what it stores, a word of the turn's number, the map and the ledger -/
theorem range_inv {r : Addr} {a₀ b₀ : Int} {t₀ u₀ v₀ : Tok} {n : Nat} {m₀ : Str → Option Value} {news : List (Addr × Obj)} (stored : List Str) (P : Nat → (Str → Option Value) → List (Addr × Obj) → Prop)
    (hh : A.handled = none) (hr : IsRange s.heap r a₀ b₀ 1 t₀ u₀ v₀) (hsmall : Builtin.Range.small a₀ b₀ 1 = true) (hn : Builtin.Range.rangeSize a₀ b₀ 1 = (n : Int)) (F : Fr h₀ env.locals s.heap m₀) (N : News h₀ env.locals s.heap news) (hj : P 0 m₀ news)
    (turn : ∀ i t m₁ nx h tk own, i < n → OwnOff own (news.map (·.1)) → P i m₁ nx → (∀ z, z ≠ x → stored.contains z = false → m₁ z = m₀ z) → Fr h₀ env.locals h (fun y => if y = x then some (.int (a₀ + (i : Int)) t) else m₁ y) → News h₀ env.locals h (nx ++ own) →
      wpAny (model prog w) A (execs body env) (InvPostN h₀ env.locals (fun m' nx' => P (i + 1) m' nx' ∧ ∀ z, z ≠ x → stored.contains z = false → m' z = m₀ z) own (news.map (·.1)) { s with heap := h, toks := tk } Q) E { s with heap := h, toks := tk })
    (done : ∀ m₁ nx h tk, P n m₁ nx → (∀ z, z ≠ x → stored.contains z = false → m₁ z = m₀ z) → Fr h₀ env.locals h m₁ → News h₀ env.locals h nx → Q .next { s with heap := h, toks := tk }) :
    wpAny (model prog w) A (pyIter (.ref r)) (fun it s₂ => LoopAtV prog w A h₀ env x body Q E it s₂) E s := by
  refine kpr_invN (fun i m₁ nx => P i m₁ nx ∧ ∀ z, z ≠ x → stored.contains z = false → m₁ z = m₀ z) hh hr hsmall hn F N ⟨hj, fun _ _ _ => rfl⟩ ?_ ?_
  · intro i k t m₁ nx h tk own hk ho hJ F' N'
    obtain ⟨hin, rfl⟩ := rangeKs_at hk
    exact turn i t m₁ nx h tk own hin ho hJ.1 hJ.2 F' N'
  · intro m₁ nx h tk hJ F' N'
    rw [rangeKs_length] at hJ
    exact done m₁ nx h tk hJ.1 hJ.2 F' N'
theorem map_ro {x : Str} {m₁ m₀ : Str → Option Value} {v : Value} (hm : ∀ z, z ≠ x → ([] : List Str).contains z = false → m₁ z = m₀ z) : (fun z => if z = x then some v else m₁ z) = fun z => if z = x then some v else m₀ z := map_none fun z hz => hm z hz rfl

theorem done_ro {x : Str} {m₁ m₀ : Str → Option Value} (hm : ∀ z, z ≠ x → ([] : List Str).contains z = false → m₁ z = m₀ z) : m₁ = fun z => if z = x then m₁ z else m₀ z := (done_none fun z hz => hm z hz rfl).symm
end
section
variable {prog : Program} {w : World} {A : Around} {E : Value → Shared → Prop} {s : Shared} {env : Env} {h₀ : Heap} {x : Str} {body : List Stmt} {Q : Flow → Shared → Prop}
/-- a loop over a text's signs -/
theorem text_inv {ds : List Nat} {xt : Str} {tx : Tok} {m₀ : Str → Option Value} {news : List (Addr × Obj)} (stored : List Str) (P : Nat → (Str → Option Value) → List (Addr × Obj) → Prop) (hx : xt = S ds)
    (hh : A.handled = none) (F : Fr h₀ env.locals s.heap m₀) (N : News h₀ env.locals s.heap news) (hj : P 0 m₀ news)
    (turn : ∀ i c t m₁ nx h tk own, ds[i]? = some c → OwnOff own (news.map (·.1)) → P i m₁ nx → (∀ z, z ≠ x → stored.contains z = false → m₁ z = m₀ z) → Fr h₀ env.locals h (fun y => if y = x then some (.str ⟨#[c]⟩ t) else m₁ y) → News h₀ env.locals h (nx ++ own) →
      wpAny (model prog w) A (execs body env) (InvPostN h₀ env.locals (fun m' nx' => P (i + 1) m' nx' ∧ ∀ z, z ≠ x → stored.contains z = false → m' z = m₀ z) own (news.map (·.1)) { s with heap := h, toks := tk } Q) E { s with heap := h, toks := tk })
    (done : ∀ m₁ nx h tk, P ds.length m₁ nx → (∀ z, z ≠ x → stored.contains z = false → m₁ z = m₀ z) → Fr h₀ env.locals h m₁ → News h₀ env.locals h nx → Q .next { s with heap := h, toks := tk }) :
    wpAny (model prog w) A (pyIter (.str xt tx)) (fun it s₂ => LoopAtV prog w A h₀ env x body Q E it s₂) E s := by
  subst hx
  refine wpAny_pyIter_str fun o St hW hst => ?_
  have W := hW A hh
  have hsz : (S ds).cps.size = ds.length := S_len ds
  refine loop_invN (fun i m₁ nx => P i m₁ nx ∧ ∀ z, z ≠ x → stored.contains z = false → m₁ z = m₀ z) W ?_ ?_ ?_ ?_ hst (F.push _) (fun p hp => ⟨Heap.get?_push_of_some _ (N p hp).1, (N p hp).2⟩) ⟨hj, fun _ _ _ => rfl⟩ ?_ ?_
  · intro hm
    exact absurd F.ns.lt ((List.mem_singleton.mp hm) ▸ Nat.lt_irrefl _)
  · intro b' hb
    rw [List.mem_singleton.mp hb]
    exact next_is_new F
  · intro p hp hI
    exact absurd (Heap.lt_size (N p hp).1) ((List.mem_singleton.mp hI) ▸ Nat.lt_irrefl _)
  · intro p hp hI
    exact absurd (Heap.lt_size (N p hp).1) ((List.mem_singleton.mp hI) ▸ Nat.lt_irrefl _)
  · rintro i v m₁ nx h tk own hi ⟨n, u, hn, rfl⟩ _ hoff ⟨hp, hm⟩ F₁ N₁
    have hn' : ds[i]? = some n := by simpa [S] using hn
    exact turn i n u m₁ nx h tk own hn' hoff hp hm F₁ N₁
  · rintro m₁ nx h tk ⟨hp, hm⟩ F₁ N₁
    rw [hsz] at hp
    exact done m₁ nx h tk hp hm F₁ N₁
end
theorem okAt_is {l : List Nat} {x : Str} {i : Nat} (hx : x = S l) : (Txt.mul (Txt.slice x none (some (1 + (i : Int)))) ((x.length : Int).fdiv (1 + (i : Int))) == x) = okAt l (i + 1) := by
  subst hx
  rw [S_take l _ (by omega), S_mul, S_beq, S_len, Int.fdiv_eq_ediv_of_nonneg _ (by omega)]
  have e1 : (1 + (i : Int)).toNat = i + 1 := by omega
  have e2 : ((l.length : Int) / (1 + (i : Int))).toNat = l.length / (i + 1) := by
    rw [show (1 + (i : Int)) = ((i + 1 : Nat) : Int) by omega, ← Int.natCast_ediv, Int.toNat_natCast]
  rw [e1, e2]
  rfl
theorem slice_is {l : List Nat} {x : Str} {i : Nat} (hx : x = S l) : Txt.slice x none (some (1 + (i : Int))) = S (l.take (i + 1)) := by
  subst hx
  rw [S_take l _ (by omega)]
  have e1 : (1 + (i : Int)).toNat = i + 1 := by omega
  rw [e1]
section
local macro_rules | `(tactic| walk_at "pyIter ref") => `(tactic| ((with_reducible show wpAny _ _ (pyIter (Value.ref _)) _ _ _); refine stop_here ?_))
local macro_rules | `(tactic| walk_at "InvEndN") => `(tactic| (refine stop_here ?_))
local macro_rules | `(tactic| walk_at "call type:range") => `(tactic| ((rename Fr _ _ _ _ => F'); (rename News _ _ _ _ => N'); (with_unfolding_all refine range2_rows F' N' ?_; intro _ _ _ _ _ _ _ _ _)))
theorem root_found {l : List Nat} {i : Nat} (hi : i < l.length) (h : okAt l (i + 1) = true) (hn : ∀ j, j < i → okAt l (j + 1) = false) : root l = l.take (i + 1) := by
  unfold root
  have : (List.range l.length).find? (fun i => okAt l (i + 1)) = some i := by
    rw [List.find?_eq_some_iff_getElem]
    refine ⟨h, i, by simpa using hi, by simp, ?_⟩
    intro j hj
    simp [hn j hj]
  rw [this]
theorem root_none {l : List Nat} (hn : ∀ j, j < l.length → okAt l (j + 1) = false) : root l = l := by
  unfold root
  have : (List.range l.length).find? (fun i => okAt l (i + 1)) = none := by
    rw [List.find?_eq_none]
    intro j hj
    simp [hn j (by simpa using hj)]
  rw [this]
theorem root_c {w : World} {mean : ExcName → Option Value} {mg mb : Str → Option Value} {dp un : Nat} {gd : Option (List Code)} {cn : Str} {cs : Scope} {a : Addr} {ccd : Value} {cl : List (Str × Addr)} {outer : List Env} {A₀ : Around} {base h₀ : Heap} {L : Addr} {m : Str → Option Value} {s : Shared} {Q E : Value → Shared → Prop}
  {news : List (Addr × Obj)} {l : List Nat} {x : Str} {tx : Tok}
  (B : Below A₀ base outer h₀) (F : Fr h₀ L s.heap m) (X : (hd.heap_39 w.params).In h₀) (N : News h₀ L s.heap news) (T : TOP mean mg mb h₀) (hk : cs.kind = .function)
  (hx : x = S l) (hx1 : x.length ≤ 6) (hx0 : 1 ≤ x.length) (hdp : dp + 6 < recursionLimit) (hun : un + 60 < cLine)
  (ret : ∀ z t h' tk', z = S (root l) → Fr h₀ L h' m → News h₀ L h' news → Q (.str z t) { s with heap := h', toks := tk' }) :
  wpAny (model PySem.Challenge.rw_tk0107_01.row.prog w) (ktrTop dp un gd cn cs L a ccd cl outer) (call (.ref 389) [.str x tx]) Q E s := by
  refine wpAny_call ?_
  k_dflt cell_enter
  k_steps
  unfold Stop
  rename IsRange _ _ _ _ _ _ _ _ => R1
  rename (∀ (b : Addr) (o : Obj), Heap.get? _ b = some o → Heap.get? _ b = some o) => K1
  rename Fr _ _ _ _ => F1
  rename News _ _ _ _ => N1
  have hxl : x.length = l.length := by rw [hx]; exact S_len l
  refine range_inv [] (fun i _ nx => nx = news ∧ ∀ j, j < i → okAt l (j + 1) = false) rfl R1 (small_one (by omega) (by omega) (by omega) (by omega)) (rangeSize_nat _ _) F1 N1 ⟨rfl, (fun j hj => absurd hj (Nat.not_lt_zero _))⟩ ?_ ?_
  · intro i t m₁ nx h tk own hin hoff hJ hm F2 N2
    obtain ⟨hnx, hno⟩ := hJ
    replace hnx := hnx.symm
    subst hnx
    rw [map_ro hm] at F2
    clear hm F1 N1 R1 K1
    have hq0 : 0 ≤ (x.length : Int).fdiv (1 + (i : Int)) := Int.fdiv_nonneg (by omega) (by omega)
    have hq1 : (x.length : Int).fdiv (1 + (i : Int)) ≤ 6 := by
      rw [Int.fdiv_eq_ediv_of_nonneg _ (by omega)]
      exact Int.le_trans (Int.ediv_le_self _ (by omega)) (by omega)
    k_steps
    · rename (BEq.beq _ x = true) => hb
      rw [okAt_is hx] at hb
      exact ret _ _ _ _ (by rw [slice_is hx]; exact congrArg S (root_found (by omega) hb hno).symm) (by assumption) (cb_drop (by assumption) fun _ h => List.mem_append.mpr (.inl h))
    · rename (BEq.beq _ x = false) => hb
      rw [okAt_is hx] at hb
      unfold Stop
      refine InvEndN.intro (by assumption) (by assumption) ⟨⟨rfl, ?_⟩, ?_⟩ rfl (fun _ h => List.mem_append.mpr (.inl h)) (fun _ h => List.mem_append.mpr (.inr h))
      · intro j hj
        by_cases e : j = i
        · subst e; exact hb
        · exact hno j (by omega)
      · intro z hz _
        exact if_neg hz
  · intro m₁ nx h tk hJ hm F2 N2
    obtain ⟨hnx, hno⟩ := hJ
    replace hnx := hnx.symm
    subst hnx
    clear F1 N1 R1 K1
    rw [done_ro hm] at F2
    clear hm
    k_steps
    exact ret _ _ _ _ (by rw [hx]; exact congrArg S (root_none fun j hj => hno j (by omega)).symm) (by assumption) (cb_drop (by assumption) (fun _ h => by repeat (first | exact h | refine List.Mem.tail _ ?_)))
end
theorem dupl_c {w : World} {mean : ExcName → Option Value} {mg mb : Str → Option Value} {dp un : Nat} {gd : Option (List Code)} {cn : Str} {cs : Scope} {a : Addr} {ccd : Value} {cl : List (Str × Addr)} {outer : List Env} {A₀ : Around} {base h₀ : Heap} {L : Addr} {m : Str → Option Value} {s : Shared} {Q E : Value → Shared → Prop}
  {news : List (Addr × Obj)} {wx wdx lst : Addr} {es : List DictEntry} {n ne : Nat} {l : List Nat} {x : Str} {tx tn tw tm : Tok} {k : Int}
  (B : Below A₀ base outer h₀) (F : Fr h₀ L s.heap m) (X : (hd.heap_39 w.params).In h₀) (N : News h₀ L s.heap news) (T : TOP mean mg mb h₀) (hk : cs.kind = .function)
  (m1 : (wx, instObj 357 wdx) ∈ news) (m2 : (wdx, dictOf es n) ∈ news) (m3 : (lst, W.listOf #[.str x tx, .int k tn] ne) ∈ news)
  (g1 : getL (Str.ofString "width") es = some (some (.int 32 tw))) (g2 : getL (Str.ofString "most_length") es = some (some (.int 5000 tm)))
  (hx : x = S l) (h0 : 0 ≤ k) (hk2 : k ≤ 100) (hx1 : x.length ≤ 20) (hx2 : (x.length : Int) * k ≤ 1000) (hdp : dp + 6 < recursionLimit) (hun : un + 60 < cLine)
  (ret : ∀ z t h' tk', z = S (rep k.toNat l) → Fr h₀ L h' m → News h₀ L h' news → Q (.str z t) { s with heap := h', toks := tk' }) :
  wpAny (model PySem.Challenge.rw_tk0107_01.row.prog w) (ktrTop dp un gd cn cs L a ccd cl outer) (call (.ref 282) [.ref wx, .ref lst]) Q E s := by
  replace N := news1 (news2 N m1 m2) (.tail _ (.tail _ m3))
  clear m1 m2 m3
  refine wpAny_call ?_
  k_dflt cell_enter
  k_steps
  exact ret _ _ _ _ (by rw [hx]; exact S_mul l k) (by assumption) (cb_drop (by assumption) (fun _ h => by repeat (first | exact h | refine List.Mem.tail _ ?_)))
theorem substr_c {w : World} {mean : ExcName → Option Value} {mg mb : Str → Option Value} {dp un : Nat} {gd : Option (List Code)} {cn : Str} {cs : Scope} {a : Addr} {ccd : Value} {cl : List (Str × Addr)} {outer : List Env} {A₀ : Around} {base h₀ : Heap} {L : Addr} {m : Str → Option Value} {s : Shared} {Q E : Value → Shared → Prop}
  {news : List (Addr × Obj)} {wx wdx lst : Addr} {es : List DictEntry} {n ne : Nat} {l : List Nat} {x : Str} {tx tb tn tw : Tok} {b k : Int}
  (B : Below A₀ base outer h₀) (F : Fr h₀ L s.heap m) (X : (hd.heap_39 w.params).In h₀) (N : News h₀ L s.heap news) (T : TOP mean mg mb h₀) (hk : cs.kind = .function)
  (m1 : (wx, instObj 357 wdx) ∈ news) (m2 : (wdx, dictOf es n) ∈ news) (m3 : (lst, W.listOf #[.str x tx, .int b tb, .int k tn] ne) ∈ news)
  (g1 : getL (Str.ofString "width") es = some (some (.int 32 tw)))
  (hx : x = S l) (h0 : 1 ≤ b) (hk2 : 1 ≤ k) (hx1 : x.length ≤ 40) (hx2 : b - 1 + k ≤ (x.length : Int)) (hdp : dp + 6 < recursionLimit) (hun : un + 60 < cLine)
  (ret : ∀ z t h' tk', z = S ((l.drop (b - 1).toNat).take k.toNat) → Fr h₀ L h' m → News h₀ L h' news → Q (.str z t) { s with heap := h', toks := tk' }) :
  wpAny (model PySem.Challenge.rw_tk0107_01.row.prog w) (ktrTop dp un gd cn cs L a ccd cl outer) (call (.ref 296) [.ref wx, .ref lst]) Q E s := by
  replace N := news1 (news2 N m1 m2) (.tail _ (.tail _ m3))
  clear m1 m2 m3
  refine wpAny_call ?_
  k_dflt cell_enter
  k_steps
  all_goals (try (exfalso; omega))
  exact ret _ _ _ _ (by rw [hx]; rw [S_slice l _ _ (by omega) (by omega)]; exact congrArg S (by congr 1; omega)) (by assumption) (cb_drop (by assumption) (fun _ h => by repeat (first | exact h | refine List.Mem.tail _ ?_)))
theorem rev_c {w : World} {mean : ExcName → Option Value} {mg mb : Str → Option Value} {dp un : Nat} {gd : Option (List Code)} {cn : Str} {cs : Scope} {a : Addr} {ccd : Value} {cl : List (Str × Addr)} {outer : List Env} {A₀ : Around} {base h₀ : Heap} {L : Addr} {m : Str → Option Value} {s : Shared} {Q E : Value → Shared → Prop}
  {news : List (Addr × Obj)} {wx lst : Addr} {ne : Nat} {l : List Nat} {x : Str} {tx : Tok}
  (B : Below A₀ base outer h₀) (F : Fr h₀ L s.heap m) (X : (hd.heap_39 w.params).In h₀) (N : News h₀ L s.heap news) (T : TOP mean mg mb h₀) (hk : cs.kind = .function)
  (m3 : (lst, W.listOf #[.str x tx] ne) ∈ news)
  (hx : x = S l) (hx1 : x.length ≤ 40) (hdp : dp + 6 < recursionLimit) (hun : un + 60 < cLine)
  (ret : ∀ z t h' tk', z = S (l.reverse) → Fr h₀ L h' m → News h₀ L h' news → Q (.str z t) { s with heap := h', toks := tk' }) :
  wpAny (model PySem.Challenge.rw_tk0107_01.row.prog w) (ktrTop dp un gd cn cs L a ccd cl outer) (call (.ref 289) [.ref wx, .ref lst]) Q E s := by
  replace N := news1 N m3
  clear m3
  refine wpAny_call ?_
  k_dflt cell_enter
  k_steps
  exact ret _ _ _ _ (by rw [hx]; exact S_rev l _) (by assumption) (cb_drop (by assumption) (fun _ h => by repeat (first | exact h | refine List.Mem.tail _ ?_)))
theorem size_c {w : World} {mean : ExcName → Option Value} {mg mb : Str → Option Value} {dp un : Nat} {gd : Option (List Code)} {cn : Str} {cs : Scope} {a : Addr} {ccd : Value} {cl : List (Str × Addr)} {outer : List Env} {A₀ : Around} {base h₀ : Heap} {L : Addr} {m : Str → Option Value} {s : Shared} {Q E : Value → Shared → Prop}
  {news : List (Addr × Obj)} {wx lst : Addr} {ne : Nat} {x : Str} {tx : Tok}
  (B : Below A₀ base outer h₀) (F : Fr h₀ L s.heap m) (X : (hd.heap_39 w.params).In h₀) (N : News h₀ L s.heap news) (T : TOP mean mg mb h₀) (hk : cs.kind = .function)
  (m3 : (lst, W.listOf #[.str x tx] ne) ∈ news)
  (hx1 : x.length ≤ 40) (hdp : dp + 6 < recursionLimit) (hun : un + 60 < cLine)
  (ret : ∀ t h' tk', Fr h₀ L h' m → News h₀ L h' news → Q (.int x.length t) { s with heap := h', toks := tk' }) :
  wpAny (model PySem.Challenge.rw_tk0107_01.row.prog w) (ktrTop dp un gd cn cs L a ccd cl outer) (call (.ref 275) [.ref wx, .ref lst]) Q E s := by
  replace N := news1 N m3
  clear m3
  refine wpAny_call ?_
  k_dflt cell_enter
  k_steps
  exact ret _ _ _ (by assumption) (cb_drop (by assumption) (fun _ h => by repeat (first | exact h | refine List.Mem.tail _ ?_)))
theorem join_c {w : World} {mean : ExcName → Option Value} {mg mb : Str → Option Value} {dp un : Nat} {gd : Option (List Code)} {cn : Str} {cs : Scope} {a : Addr} {ccd : Value} {cl : List (Str × Addr)} {outer : List Env} {A₀ : Around} {base h₀ : Heap} {L : Addr} {m : Str → Option Value} {s : Shared} {Q E : Value → Shared → Prop}
  {news : List (Addr × Obj)} {wx wdx : Addr} {es : List DictEntry} {n : Nat} {x y : Str} {tx ty tm : Tok}
  (B : Below A₀ base outer h₀) (F : Fr h₀ L s.heap m) (X : (hd.heap_39 w.params).In h₀) (N : News h₀ L s.heap news) (T : TOP mean mg mb h₀) (hk : cs.kind = .function)
  (m1 : (wx, instObj 357 wdx) ∈ news) (m2 : (wdx, dictOf es n) ∈ news)
  (g2 : getL (Str.ofString "most_length") es = some (some (.int 5000 tm)))
  (hx1 : x.length ≤ 40) (hx2 : y.length ≤ 40) (hx0 : 0 < x.length) (hy0 : 0 < y.length) (ex : (x == Str.ofString "") = false) (ey : (y == Str.ofString "") = false) (hdp : dp + 6 < recursionLimit) (hun : un + 60 < cLine)
  (ret : ∀ t h' tk', Fr h₀ L h' m → News h₀ L h' news → Q (.str (x ++ y) t) { s with heap := h', toks := tk' }) :
  wpAny (model PySem.Challenge.rw_tk0107_01.row.prog w) (ktrTop dp un gd cn cs L a ccd cl outer) (call (.ref 382) [.ref wx, .str x tx, .str y ty]) Q E s := by
  replace N := news2 N m1 m2
  clear m1 m2
  refine wpAny_call ?_
  k_dflt cell_enter
  k_steps
  exact ret _ _ _ (by assumption) (cb_drop (by assumption) (fun _ h => by repeat (first | exact h | refine List.Mem.tail _ ?_)))
theorem ident_c {w : World} {mean : ExcName → Option Value} {mg mb : Str → Option Value} {dp un : Nat} {gd : Option (List Code)} {cn : Str} {cs : Scope} {a : Addr} {ccd : Value} {cl : List (Str × Addr)} {outer : List Env} {A₀ : Around} {base h₀ : Heap} {L : Addr} {m : Str → Option Value} {s : Shared} {Q E : Value → Shared → Prop}
  {news : List (Addr × Obj)} {wx lst : Addr} {ne : Nat} {x y : Str} {tx ty : Tok}
  (B : Below A₀ base outer h₀) (F : Fr h₀ L s.heap m) (X : (hd.heap_39 w.params).In h₀) (N : News h₀ L s.heap news) (T : TOP mean mg mb h₀) (hk : cs.kind = .function)
  (m3 : (lst, W.listOf #[.str x tx, .str y ty] ne) ∈ news)
  (hx1 : x.length ≤ 40) (hx2 : y.length ≤ 40) (hdp : dp + 6 < recursionLimit) (hun : un + 60 < cLine)
  (ret : ∀ t h' tk', (x == y) = true → Fr h₀ L h' m → News h₀ L h' news → Q (.str (Str.ofString "") t) { s with heap := h', toks := tk' }) 
  (ret2 : ∀ f d h' tk', (x == y) = false → Fr h₀ L h' m → News h₀ L h' ((f, instObj 47 d) :: (d, dictOf [] 0) :: news) → Q (.ref f) { s with heap := h', toks := tk' }) :
  wpAny (model PySem.Challenge.rw_tk0107_01.row.prog w) (ktrTop dp un gd cn cs L a ccd cl outer) (call (.ref 303) [.ref wx, .ref lst]) Q E s := by
  replace N := news1 N m3
  clear m3
  refine wpAny_call ?_
  k_dflt cell_enter
  k_steps
  · exact ret _ _ _ (by assumption) (by assumption) (cb_drop (by assumption) (fun _ h => by repeat (first | exact h | refine List.Mem.tail _ ?_)))
  · exact ret2 _ _ _ _ (by assumption) (by assumption) (cb_drop (by assumption) (fun p h => by
      rcases List.mem_cons.mp h with rfl | h
      · exact .head _
      rcases List.mem_cons.mp h with rfl | h
      · exact .tail _ (.head _)
      · exact .tail _ (.tail _ (by repeat (first | exact h | refine List.Mem.tail _ ?_)))))
theorem ident_t {w : World} {mean : ExcName → Option Value} {mg mb : Str → Option Value} {dp un : Nat} {gd : Option (List Code)} {cn : Str} {cs : Scope} {a : Addr} {ccd : Value} {cl : List (Str × Addr)} {outer : List Env} {A₀ : Around} {base h₀ : Heap} {L : Addr} {m : Str → Option Value} {s : Shared} {Q E : Value → Shared → Prop}
  {news : List (Addr × Obj)} {wx lst : Addr} {ne : Nat} {x y : Str} {tx ty : Tok}
  (B : Below A₀ base outer h₀) (F : Fr h₀ L s.heap m) (X : (hd.heap_39 w.params).In h₀) (N : News h₀ L s.heap news) (T : TOP mean mg mb h₀) (hk : cs.kind = .function)
  (m3 : (lst, W.listOf #[.str x tx, .str y ty] ne) ∈ news)
  (hx1 : x.length ≤ 40) (hx2 : y.length ≤ 40) (e : (x == y) = true) (hdp : dp + 6 < recursionLimit) (hun : un + 60 < cLine)
  (ret : ∀ t h' tk', Fr h₀ L h' m → News h₀ L h' news → Q (.str (Str.ofString "") t) { s with heap := h', toks := tk' }) :
  wpAny (model PySem.Challenge.rw_tk0107_01.row.prog w) (ktrTop dp un gd cn cs L a ccd cl outer) (call (.ref 303) [.ref wx, .ref lst]) Q E s := ident_c B F X N T hk m3 hx1 hx2 hdp hun (fun t h' tk' _ F N => ret t h' tk' F N) (fun _ _ _ _ h => absurd (h.symm.trans e) (by decide))
theorem ident_f {w : World} {mean : ExcName → Option Value} {mg mb : Str → Option Value} {dp un : Nat} {gd : Option (List Code)} {cn : Str} {cs : Scope} {a : Addr} {ccd : Value} {cl : List (Str × Addr)} {outer : List Env} {A₀ : Around} {base h₀ : Heap} {L : Addr} {m : Str → Option Value} {s : Shared} {Q E : Value → Shared → Prop}
  {news : List (Addr × Obj)} {wx lst : Addr} {ne : Nat} {x y : Str} {tx ty : Tok}
  (B : Below A₀ base outer h₀) (F : Fr h₀ L s.heap m) (X : (hd.heap_39 w.params).In h₀) (N : News h₀ L s.heap news) (T : TOP mean mg mb h₀) (hk : cs.kind = .function)
  (m3 : (lst, W.listOf #[.str x tx, .str y ty] ne) ∈ news)
  (hx1 : x.length ≤ 40) (hx2 : y.length ≤ 40) (e : (x == y) = false) (hdp : dp + 6 < recursionLimit) (hun : un + 60 < cLine)
  (ret : ∀ f d h' tk', Fr h₀ L h' m → News h₀ L h' ((f, instObj 47 d) :: (d, dictOf [] 0) :: news) → Q (.ref f) { s with heap := h', toks := tk' }) :
  wpAny (model PySem.Challenge.rw_tk0107_01.row.prog w) (ktrTop dp un gd cn cs L a ccd cl outer) (call (.ref 303) [.ref wx, .ref lst]) Q E s := ident_c B F X N T hk m3 hx1 hx2 hdp hun (fun _ _ _ h => absurd (h.symm.trans e) (by decide)) (fun f d h' tk' _ F N => ret f d h' tk' F N)
def valOf (ds : List Nat) : Int := ds.foldl (fun (a : Int) (d : Nat) => 10 * a + (d : Int) - 48) 0
theorem valOf_bound {ds : List Nat} (hd : ∀ d ∈ ds, 48 ≤ d ∧ d ≤ 57) (i : Nat) (hi : i ≤ 2) : 0 ≤ valOf (ds.take i) ∧ valOf (ds.take i) ≤ 99 := by
  have h : (ds.take i).length ≤ 2 := by simp only [List.length_take]; omega
  have hm : ∀ d ∈ ds.take i, 48 ≤ d ∧ d ≤ 57 := fun d h => hd d (List.mem_of_mem_take h)
  generalize ds.take i = l at h hm
  match l, h, hm with
  | [], _, _ => decide
  | [a], _, hm =>
    have := hm a (by simp)
    simp only [valOf, List.foldl_cons, List.foldl_nil]
    omega
  | [a, b], _, hm =>
    have := hm a (by simp)
    have := hm b (by simp)
    simp only [valOf, List.foldl_cons, List.foldl_nil]
    omega
theorem sign_le {c : Nat} (hc : 48 ≤ c ∧ c ≤ 57) : (!decide ((⟨#[c]⟩ : Str).cps.toList < (Str.ofString "0").cps.toList)) = true ∧ (!decide ((Str.ofString "9").cps.toList < (⟨#[c]⟩ : Str).cps.toList)) = true := by
  obtain ⟨h1, h2⟩ := hc
  have : c = 48 ∨ c = 49 ∨ c = 50 ∨ c = 51 ∨ c = 52 ∨ c = 53 ∨ c = 54 ∨ c = 55 ∨ c = 56 ∨ c = 57 := by omega
  rcases this with rfl | rfl | rfl | rfl | rfl | rfl | rfl | rfl | rfl | rfl <;> decide +kernel
section
local macro_rules | `(tactic| walk_at "pyIter str") => `(tactic| ((with_reducible show wpAny _ _ (pyIter (Value.str _ _)) _ _ _); refine stop_here ?_))
local macro_rules | `(tactic| walk_at "InvEndN") => `(tactic| (refine stop_here ?_))
local macro_rules | `(tactic| walk_at "exec For Name Name cons nil") => `(tactic| (k_here; (rename Fr _ _ _ _ => lF'); (with_unfolding_all refine' For_invVF lF' ?k1 ?k2 ?_; (case k1 => exact rfl); (case k2 => exact rfl); k_whole)))
theorem whole_c {w : World} {mean : ExcName → Option Value} {mg mb : Str → Option Value} {dp un : Nat} {gd : Option (List Code)} {cn : Str} {cs : Scope} {a : Addr} {ccd : Value} {cl : List (Str × Addr)} {outer : List Env} {A₀ : Around} {base h₀ : Heap} {L : Addr} {m : Str → Option Value} {s : Shared} {Q E : Value → Shared → Prop}
  {news : List (Addr × Obj)} {ds : List Nat} {x : Str} {tx tw : Tok}
  (B : Below A₀ base outer h₀) (F : Fr h₀ L s.heap m) (X : (hd.heap_39 w.params).In h₀) (N : News h₀ L s.heap news) (T : TOP mean mg mb h₀) (hk : cs.kind = .function)
  (hx : x = S ds) (hx1 : x.length ≤ 2) (hx0 : 1 ≤ x.length) (hd : ∀ d ∈ ds, 48 ≤ d ∧ d ≤ 57) (ex : (x == Str.ofString "") = false) (e1 : (Builtin.Str.occurrences (Str.ofString "+-") (Txt.item x 0) 0 (Str.ofString "+-").length 1).isEmpty = true) (e2 : (Txt.item x 0 == Str.ofString "-") = false)
  (hdp : dp + 6 < recursionLimit) (hun : un + 60 < cLine)
  (ret : ∀ t h' tk', Fr h₀ L h' m → News h₀ L h' news → Q (.int (valOf ds) t) { s with heap := h', toks := tk' }) :
  wpAny (model PySem.Challenge.rw_tk0107_01.row.prog w) (ktrTop dp un gd cn cs L a ccd cl outer) (call (.ref 198) [.str x tx, .int 32 tw]) Q E s := by
  refine wpAny_call ?_
  k_dflt cell_enter
  k_steps
  unfold Stop
  rename Fr _ _ _ _ => F1
  rename News _ _ _ _ => N1
  have hxl : x.length = ds.length := by rw [hx]; exact S_len ds
  refine text_inv [Str.ofString "number"] (fun i m₁ nx => nx = news ∧ ∃ t, m₁ (Str.ofString "number") = some (.int (valOf (ds.take i)) t)) hx rfl F1 N1 ⟨rfl, _, rfl⟩ ?_ ?_
  · intro i c t m₁ nx h tk own hin hoff hJ hm F2 N2
    obtain ⟨hnx, ta, ha⟩ := hJ
    replace hnx := hnx.symm
    subst hnx
    rw [map_one ha (fun z h1 h2 => hm z h1 (by simpa using h2))] at F2
    have hc := hd c (List.mem_of_getElem? hin)
    have hil : i < 2 := by have := (List.getElem?_eq_some_iff.mp hin).1; omega
    have hv := valOf_bound (ds := ds) hd i (by omega)
    generalize hw : valOf (ds.take i) = v at F2 hv
    have hc1 := (sign_le hc).1
    have hc2 := (sign_le hc).2
    clear hm ha F1 N1
    k_steps
    unfold Stop
    refine' InvEndN.intro ?F ?N ⟨⟨rfl, ?tk, ?v⟩, ?u⟩ rfl ?a ?b
    case F => assumption
    case N => assumption
    case a => exact fun _ h => List.mem_append.mpr (.inl h)
    case b => exact fun _ h => List.mem_append.mpr (.inr h)
    case v =>
      have e : valOf (ds.take (i + 1)) = 10 * v + (c : Int) - 48 := by
        rw [← hw, List.take_add_one, hin]
        simp [valOf]
      rw [e]
      rfl
    case u =>
      intro z hz hz2
      have hz3 : z ≠ Str.ofString "number" := by simpa using hz2
      simp only [if_neg hz, if_neg hz3]
  · intro m₁ nx h tk hJ hm F2 N2
    obtain ⟨hnx, ta, ha⟩ := hJ
    replace hnx := hnx.symm
    subst hnx
    rw [List.take_length] at ha
    have hv := valOf_bound (ds := ds) hd ds.length (by omega)
    rw [List.take_length] at hv
    rw [← done_one ha (fun z h1 h2 => hm z h1 (by simpa using h2))] at F2
    generalize hw : valOf ds = v at F2 hv ret
    clear hm ha F1 N1
    have hb : (1 : Int) * 2 ^ ((32 : Int) - 1).toNat = 2147483648 := by decide
    have hb1 : -((1 : Int) * 2 ^ ((32 : Int) - 1).toNat) ≤ v := by rw [hb]; omega
    have hb2 : v < (1 : Int) * 2 ^ ((32 : Int) - 1).toNat := by rw [hb]; omega
    clear hb
    k_steps
    all_goals first | (exfalso; contradiction) | exact ret _ _ _ (by assumption) (cb_drop (by assumption) (fun _ h => by repeat (first | exact h | refine List.Mem.tail _ ?_)))
end
section
local macro_rules | `(tactic| walk_at "call ref") => `(tactic| (k_here; (with_reducible show wpAny _ _ (call (Value.ref 198) _) _ _ _); k_dflt (refine' whole_c ?B ?F ?X ?N ?T ?hk ?hx ?hx1 ?hx0 ?hd ?ex ?e1 ?e2 ?hdp ?hun ?_; (case B => k_asm); (case F => k_asm); (case X => k_asm); (case N => k_asm); (case T => k_asm); (case hk => first | exact rfl | assumption); (case hx => assumption); (case hx1 => assumption); (case hx0 => assumption); (case hd => assumption); (case ex => assumption); (case e1 => assumption); (case e2 => assumption); (case hdp => ktr_room); (case hun => ktr_units); intro t9 h9 tk9 F9 N9; (try dsimp only); (try k_fold))))
theorem dupls_c {w : World} {mean : ExcName → Option Value} {mg mb : Str → Option Value} {dp un : Nat} {gd : Option (List Code)} {cn : Str} {cs : Scope} {a : Addr} {ccd : Value} {cl : List (Str × Addr)} {outer : List Env} {A₀ : Around} {base h₀ : Heap} {L : Addr} {m : Str → Option Value} {s : Shared} {Q E : Value → Shared → Prop}
  {news : List (Addr × Obj)} {wx wdx lst : Addr} {es : List DictEntry} {n ne : Nat} {l ds : List Nat} {x y : Str} {tx tn tw tm : Tok} {k : Int}
  (B : Below A₀ base outer h₀) (F : Fr h₀ L s.heap m) (X : (hd.heap_39 w.params).In h₀) (N : News h₀ L s.heap news) (T : TOP mean mg mb h₀) (hk : cs.kind = .function)
  (m1 : (wx, instObj 357 wdx) ∈ news) (m2 : (wdx, dictOf es n) ∈ news) (m3 : (lst, W.listOf #[.str x tx, .str y tn] ne) ∈ news)
  (g1 : getL (Str.ofString "width") es = some (some (.int 32 tw))) (g2 : getL (Str.ofString "most_length") es = some (some (.int 5000 tm)))
  (hx : x = S l) (hv : valOf ds = k) (h0 : 0 ≤ k) (hk2 : k ≤ 100) (hx1 : x.length ≤ 20) (hx2 : (x.length : Int) * k ≤ 1000)
  (hy : y = S ds) (hy1 : y.length ≤ 2) (hy0 : 1 ≤ y.length) (hd : ∀ d ∈ ds, 48 ≤ d ∧ d ≤ 57) (ex : (y == Str.ofString "") = false) (e1 : (Builtin.Str.occurrences (Str.ofString "+-") (Txt.item y 0) 0 (Str.ofString "+-").length 1).isEmpty = true) (e2 : (Txt.item y 0 == Str.ofString "-") = false)
  (hdp : dp + 12 < recursionLimit) (hun : un + 90 < cLine)
  (ret : ∀ z t h' tk', z = S (rep k.toNat l) → Fr h₀ L h' m → News h₀ L h' news → Q (.str z t) { s with heap := h', toks := tk' }) :
  wpAny (model PySem.Challenge.rw_tk0107_01.row.prog w) (ktrTop dp un gd cn cs L a ccd cl outer) (call (.ref 282) [.ref wx, .ref lst]) Q E s := by
  replace N := news1 (news2 N m1 m2) (.tail _ (.tail _ m3))
  clear m1 m2 m3
  subst hv
  refine wpAny_call ?_
  k_dflt cell_enter
  k_steps
  exact ret _ _ _ _ (by rw [hx]; exact S_mul l _) (by assumption) (cb_drop (by assumption) (fun _ h => by repeat (first | exact h | refine List.Mem.tail _ ?_)))
end
end

/-! cuts, cells, words, the least length, facts -/
set_option maxRecDepth 100000
set_option maxHeartbeats 0
def CutEnd (P : Shared → Prop) (f : Flow) (s : Shared) : Prop := f = .next ∧ P s
theorem execs_append (env : Env) (l₂ : List Stmt) : ∀ l₁ : List Stmt, execs (l₁ ++ l₂) env = (execs l₁ env >>= fun f => match f with | .next => execs l₂ env | f => pure f)
  | [] => rfl
  | st :: r => by
    show execs (st :: (r ++ l₂)) env = _
    rw [execs_cons, execs_cons, bind_assoc]
    congr 1
    funext f
    cases f with
    | next => exact execs_append env l₂ r
    | brk => rfl
    | cont => rfl
    | ret v => rfl
theorem cutN {M : Model} {A : Around} {E : Value → Shared → Prop} {s : Shared} {env : Env} {Q : Flow → Shared → Prop} (P : Shared → Prop) (l₁ l₂ : List Stmt) (h1 : wpAny M A (execs l₁ env) (CutEnd P) E s) (h2 : ∀ s', P s' → wpAny M A (execs l₂ env) Q E s') : wpAny M A (execs (l₁ ++ l₂) env) Q E s := by
  rw [execs_append]
  refine wpAny_bind (wpAny_mono h1 (fun f s' h => ?_) fun _ _ e => e)
  obtain ⟨rfl, h⟩ := h
  exact h2 s' h
theorem fr_keep {h₀ h : Heap} {L : Addr} {m : Str → Option Value} {x : Str} {v : Value} (F : Fr h₀ L h m) (e : m x = some v) : Fr h₀ L h (fun y => if y = x then some v else m y) := by
  have : (fun y => if y = x then some v else m y) = m := by
    funext y
    by_cases hy : y = x
    · subst hy; rw [if_pos rfl]; exact e.symm
    · rw [if_neg hy]
  rw [this]; exact F
theorem item_at {prog : Program} {w : World} {A : Around} {E : Value → Shared → Prop} {s : Shared} {value slice : PySem.Expr} {h₀ : Heap} {L D : Addr} {news : List (Addr × Obj)} {vs : List Value} {ne : Nat} {k : Int} {u : Tok} {v : Value} {Q : Value → Shared → Prop}
    (N : News h₀ L s.heap news) (hm : (D, W.listOf vs.toArray ne) ∈ news) (h0 : 0 ≤ k) (hk : k < 2 ^ 63) (hv : vs[k.toNat]? = some v) (h : Q v s)
    (hs : subscripted slice false (.ref D) (.int k u) = operate [.ref D, .int k u] (getItem (.ref D) (.int k u))) :
    wpAny (model prog w) A (subscriptTail value slice (.ref D) (.int k u)) Q E s := by
  have hl : s.heap.IsList D vs.toArray := News.isList N hm
  exact tail_any hl.typeIs slot_list_getitem.lookup (wpAny_getItem_list hl h0 hk (by simpa using hv) h) hs
theorem sub_cons {a : Addr × Obj} {r l : List (Addr × Obj)} (h : a ∈ l) (h' : ∀ p ∈ r, p ∈ l) : ∀ p ∈ a :: r, p ∈ l := by
  intro p hp
  rcases List.mem_cons.mp hp with rfl | hp
  · exact h
  · exact h' p hp
theorem sub_nil {l : List (Addr × Obj)} : ∀ p ∈ ([] : List (Addr × Obj)), p ∈ l := fun _ h => nomatch h
theorem cells_form {ys : List Value} {ns : List Int} {a b c d : Tok} (hI : IntsAre ys (List.map (fun k' => if k' < 0 then -k' else k') (List.take 4 ns))) : ∃ (c0 c1 c2 c3 : Int) (t0 t1 t2 t3 : Tok), (ys ++ (slicePick #[Value.int 10 a, Value.int 3 b, Value.int 2 c, Value.int 1 d] (some ((List.take 4 ns).length : Int)) none none).toList).toArray = #[Value.int c0 t0, Value.int c1 t1, Value.int c2 t2, Value.int c3 t3] ∧ 0 ≤ c0 ∧ 0 ≤ c1 ∧ 0 ≤ c2 ∧ 0 ≤ c3 := by
  have ab : ∀ k : Int, 0 ≤ (if k < 0 then -k else k) := by intro k; split <;> omega
  match ns, hI with
  | [], hI =>
    cases hI
    exact ⟨10, 3, 2, 1, a, b, c, d, by rw [kms_pick_eq]; rfl, by decide, by decide, by decide, by decide⟩
  | [x], hI =>
    cases hI with
    | cons i t h =>
      cases h
      exact ⟨_, 3, 2, 1, _, b, c, d, by rw [kms_pick_eq]; rfl, ab x, by decide, by decide, by decide⟩
  | [x, y], hI =>
    cases hI with
    | cons i t h =>
      cases h with
      | cons i t h =>
        cases h
        exact ⟨_, _, 2, 1, _, _, c, d, by rw [kms_pick_eq]; rfl, ab x, ab y, by decide, by decide⟩
  | [x, y, z], hI =>
    cases hI with
    | cons i t h =>
      cases h with
      | cons i t h =>
        cases h with
        | cons i t h =>
          cases h
          exact ⟨_, _, _, 1, _, _, _, d, by rw [kms_pick_eq]; rfl, ab x, ab y, ab z, by decide⟩
  | x :: y :: z :: v :: r, hI =>
    simp only [List.take_succ_cons, List.take_zero] at hI ⊢
    cases hI with
    | cons i t h =>
      cases h with
      | cons i t h =>
        cases h with
        | cons i t h =>
          cases h with
          | cons i t h =>
            cases h
            exact ⟨_, _, _, _, _, _, _, _, by rw [kms_pick_eq]; rfl, ab x, ab y, ab z, ab v⟩
def bitOf (c : Int) (k : Int) : Str := Txt.item (Str.ofString "ab") ((c.fdiv (2 ^ k.toNat)).fmod 2)
theorem fmod6 (c : Int) : 0 ≤ 1 + c.fmod 6 ∧ 1 + c.fmod 6 ≤ 6 := by
  have h1 := Int.fmod_nonneg_of_pos c (b := 6) (by decide)
  have h2 := Int.fmod_lt_of_pos c (b := 6) (by decide)
  omega
theorem word_k {a k : Int} (h : 0 ≤ a ∧ a ≤ 6) (hh : k < 0 + ((a - 0).toNat : Int)) : k ≤ 5 := by omega
theorem two_pow_ne (k : Int) : (2 : Int) ^ k.toNat ≠ 0 := Int.pow_ne_zero (by decide)
/-- a word of the law: one to six signs a, b -/
def W (l : List Nat) : Prop := 1 ≤ l.length ∧ l.length ≤ 6 ∧ ∀ a ∈ l, a = 97 ∨ a = 98
def bitN (c : Int) (k : Int) : Nat := if (c.fdiv (2 ^ k.toNat)).fmod 2 = 0 then 97 else 98
theorem bit_is (c k : Int) : bitOf c k = S [bitN c k] := by
  unfold bitOf bitN
  have h1 := Int.fmod_nonneg_of_pos (c.fdiv (2 ^ k.toNat)) (b := 2) (by decide)
  have h2 := Int.fmod_lt_of_pos (c.fdiv (2 ^ k.toNat)) (b := 2) (by decide)
  generalize (c.fdiv (2 ^ k.toNat)).fmod 2 = b at h1 h2
  have : b = 0 ∨ b = 1 := by omega
  rcases this with rfl | rfl <;> decide +kernel
theorem join_is (g : Int → Str) (f : Int → Nat) (hg : ∀ k, g k = S [f k]) : ∀ L : List Int, Str.join (Str.ofString "") (L.map g) = S (L.map f)
  | [] => rfl
  | [k] => hg k
  | k :: k' :: r => by
    have ih := join_is g f hg (k' :: r)
    show g k ++ Str.ofString "" ++ Str.join (Str.ofString "") ((k' :: r).map g) = _
    rw [ih, hg k, show Str.ofString "" = S [] from by decide +kernel, S_app, S_app]
    rfl
theorem word_ex (c e : Int) : ∃ l, Txt.join (Str.ofString "") ((rangeKs 0 (1 + e.fmod 6 - 0).toNat).map (bitOf c)) = S l ∧ W l := by
  refine ⟨(rangeKs 0 (1 + e.fmod 6 - 0).toNat).map (bitN c), ?_, ?_⟩
  · show Builtin.Str.glued _ _ = _
    rw [StrLaws.glued_eq_join]
    exact join_is _ _ (bit_is c) _
  · have h := fmod6 e
    refine ⟨?_, ?_, ?_⟩
    · rw [List.length_map, rangeKs_length]
      have h1 := Int.fmod_nonneg_of_pos e (b := 6) (by decide)
      omega
    · rw [List.length_map, rangeKs_length]; omega
    · intro a ha
      obtain ⟨k, _, rfl⟩ := List.mem_map.mp ha
      unfold bitN
      split <;> simp
def pick (p q : Int) (l : List Int) (k : Int) : List Int := if k.fmod p = 0 ∧ k.fmod q = 0 then l ++ [k] else l
theorem pick_grows (p q : Int) : KPfGrows (pick p q) := by
  intro l k
  unfold pick
  split <;> simp
theorem pick_mem {p q M : Int} : ∀ (L acc : List Int), M ∈ L.foldl (pick p q) acc → M ∈ acc ∨ (M ∈ L ∧ M.fmod p = 0 ∧ M.fmod q = 0)
  | [], acc, h => .inl h
  | k :: r, acc, h => by
    rcases pick_mem r (pick p q acc k) h with h1 | ⟨h1, h2⟩
    · unfold pick at h1
      split at h1
      · rename_i hc
        rcases List.mem_append.mp h1 with h3 | h3
        · exact .inl h3
        · rw [List.mem_singleton.mp h3]
          exact .inr ⟨.head _, hc⟩
      · exact .inl h1
    · exact .inr ⟨.tail _ h1, h2⟩
theorem pick_keeps {p q M : Int} : ∀ (L acc : List Int), M ∈ acc → M ∈ L.foldl (pick p q) acc
  | [], acc, h => h
  | k :: r, acc, h => by
    refine pick_keeps r (pick p q acc k) ?_
    unfold pick
    split
    · exact List.mem_append.mpr (.inl h)
    · exact h
theorem pick_has {p q M : Int} (hp : M.fmod p = 0) (hq : M.fmod q = 0) : ∀ (L acc : List Int), M ∈ L → M ∈ L.foldl (pick p q) acc
  | k :: r, acc, h => by
    rcases List.mem_cons.mp h with rfl | h
    · refine pick_keeps r _ ?_
      unfold pick
      rw [if_pos ⟨hp, hq⟩]
      simp
    · exact pick_has hp hq r _ h
theorem pick_ne {p q : Nat} (hp : 1 ≤ p) (hp6 : p ≤ 6) (hq : 1 ≤ q) (hq6 : q ≤ 6) : 0 < ((rangeKs 1 (37 - 1 : Int).toNat).foldl (pick p q) []).length := by
  refine List.length_pos_of_mem (a := (p : Int) * q) (pick_has ?_ ?_ _ _ ?_)
  · rw [Int.fmod_eq_emod_of_nonneg _ (by omega)]; exact Int.mul_emod_right ..
  · rw [Int.fmod_eq_emod_of_nonneg _ (by omega)]; exact Int.mul_emod_left ..
  · have h1 : 1 ≤ p * q := Nat.mul_pos hp hq
    have h2 : p * q ≤ 6 * 6 := Nat.mul_le_mul hp6 hq6
    unfold rangeKs
    refine List.mem_map.mpr ⟨p * q - 1, ?_, ?_⟩
    · rw [List.mem_range]
      show p * q - 1 < 36
      omega
    · have : ((p * q : Nat) : Int) = (p : Int) * q := Int.natCast_mul p q
      omega
theorem pick_got {p q : Nat} {M : Int} (h : M ∈ (rangeKs 1 (37 - 1 : Int).toNat).foldl (pick p q) []) : (1 ≤ M ∧ M ≤ 36) ∧ M.fmod p = 0 ∧ M.fmod q = 0 := by
  rcases pick_mem _ _ h with h | ⟨h, h2⟩
  · cases h
  · have := mem_rangeKs h
    have e : (((37 - 1 : Int).toNat : Nat) : Int) = 36 := by decide
    rw [e] at this
    exact ⟨by omega, h2⟩
theorem div_facts {p : Nat} {M : Int} (hp : 1 ≤ p) (hp6 : p ≤ 6) (hM : 1 ≤ M ∧ M ≤ 36) : 0 ≤ M.fdiv p ∧ M.fdiv p ≤ 36 ∧ (p : Int) * M.fdiv p ≤ 216 := by
  have h1 : 0 ≤ M.fdiv p := Int.fdiv_nonneg (by omega) (by omega)
  have h2 : M.fdiv p ≤ 36 := by
    rw [Int.fdiv_eq_ediv_of_nonneg _ (by omega)]
    exact Int.le_trans (Int.ediv_le_self _ (by omega)) hM.2
  refine ⟨h1, h2, ?_⟩
  exact Int.le_trans (Int.mul_le_mul (show (p : Int) ≤ 6 by omega) h2 h1 (by decide)) (by decide)
theorem ne2 {prog : Program} {w : World} {A : Around} {E : Value → Shared → Prop} {s : Shared} {h₀ : Heap} {L a b : Addr} {news : List (Addr × Obj)} {x1 x2 y1 y2 : Str} {t1 t2 v1 v2 : Tok} {ka kb : Nat} {Q : Value → Shared → Prop}
    (N : News h₀ L s.heap news) (ma : (a, W.listOf #[.str x1 t1, .str x2 t2] ka) ∈ news) (mb : (b, W.listOf #[.str y1 v1, .str y2 v2] kb) ∈ news) (k1 : PyData.strOk x1 = true) (k2 : PyData.strOk x2 = true) (e1 : x1 = y1) (e2 : x2 = y2) (hu : A.units + 64 < cLine) (h : Q (.bool false) s) :
    wpAny (model prog w) A (compareOp .NotEq (.ref a) (.ref b)) Q E s := by
  subst e1 e2
  have ok : ∀ d ∈ [Dat.str x1, Dat.str x2], kqdOk 8 d = true := by
    intro d hd
    simp only [List.mem_cons, List.not_mem_nil, or_false] at hd
    rcases hd with rfl | rfl
    · exact k1
    · exact k2
  refine kqd_ne (ds := [Dat.str x1, Dat.str x2]) (es := [Dat.str x1, Dat.str x2]) (xs := [.str x1 t1, .str x2 t2]) (ys := [.str x1 v1, .str x2 v2]) N ma rfl rfl (.cons (.str _ _) (.cons (.str _ _) .nil)) (fun _ h => h) mb rfl rfl (.cons (.str _ _) (.cons (.str _ _) .nil)) (fun _ h => h) ok ok hu ?_
  simpa using h
theorem strOk_S {l : List Nat} (h : ∀ a ∈ l, a = 97 ∨ a = 98) : PyData.strOk (S l) = true := by
  unfold PyData.strOk S
  rw [List.all_toArray, List.all_eq_true]
  intro a ha
  rcases h a ha with rfl | rfl <;> decide
theorem rep_mem {n : Nat} {l : List Nat} (h : ∀ a ∈ l, a = 97 ∨ a = 98) : ∀ a ∈ rep n l, a = 97 ∨ a = 98 := by
  intro a ha
  unfold rep at ha
  obtain ⟨b, hb, ha⟩ := List.mem_flatten.mp ha
  rw [(List.mem_replicate.mp hb).2] at ha
  exact h a ha
theorem pow_len {l : List Nat} {p : Nat} {M : Int} (hl : p = l.length) (h1 : 1 ≤ p) (h6 : p ≤ 6) (hM : 1 ≤ M ∧ M ≤ 36) (hMx : M.fmod p = 0) : (M.fdiv p).toNat * l.length ≤ 40 := by
  subst hl
  have e : M.fdiv l.length * (l.length : Int) = M := by
    have h := Int.fmod_def M l.length
    rw [hMx] at h
    have := Int.mul_comm (l.length : Int) (M.fdiv l.length)
    omega
  have h0 : 0 ≤ M.fdiv l.length := Int.fdiv_nonneg (by omega) (by omega)
  have e2 : (((M.fdiv l.length).toNat * l.length : Nat) : Int) = M := by
    rw [Int.natCast_mul, Int.toNat_of_nonneg h0]; exact e
  omega
theorem pow_exact {p : Nat} {M : Int} (h1 : 1 ≤ p) (hM : 1 ≤ M ∧ M ≤ 36) (hMx : M.fmod p = 0) : (((M.fdiv p).toNat * p : Nat) : Int) = M := by
  have e : M.fdiv p * (p : Int) = M := by
    have h := Int.fmod_def M p
    rw [hMx] at h
    have := Int.mul_comm (p : Int) (M.fdiv p)
    omega
  have h0 : 0 ≤ M.fdiv p := Int.fdiv_nonneg (by omega) (by omega)
  rw [Int.natCast_mul, Int.toNat_of_nonneg h0]; exact e
theorem pow_law {l m : List Nat} {p q : Nat} {M : Int} (hl1 : 1 ≤ l.length) (hm1 : 1 ≤ m.length) (hl : p = l.length) (hm : q = m.length) (hM : 1 ≤ M ∧ M ≤ 36) (hMx : M.fmod p = 0) (hMy : M.fmod q = 0) : (rep (M.fdiv p).toNat l == rep (M.fdiv q).toNat m) = (root l == root m) := by
  subst hl hm
  have e1 := pow_exact hl1 hM hMx
  have e2 := pow_exact hm1 hM hMy
  refine pow_iff hl1 hm1 ?_ (by omega)
  refine Nat.pos_of_ne_zero fun h => ?_
  rw [h] at e1
  simp at e1
  omega
theorem S_ne_nil {l : List Nat} (h : 1 ≤ l.length) : (S l == Str.ofString "") = false := by
  rw [show Str.ofString "" = S [] from by decide +kernel, S_beq]
  cases l with
  | nil => simp at h
  | cons a r => rfl
theorem app_mem {l m : List Nat} (h : ∀ a ∈ l, a = 97 ∨ a = 98) (h' : ∀ a ∈ m, a = 97 ∨ a = 98) : ∀ a ∈ l ++ m, a = 97 ∨ a = 98 := by
  intro a ha
  rcases List.mem_append.mp ha with ha | ha
  · exact h a ha
  · exact h' a ha
/-- the digits of a small number -/
theorem digits {k : Int} (h0 : 0 ≤ k) (h1 : k ≤ 12) : ∃ ds : List Nat, Str.ofString (toString k) = S ds ∧ valOf ds = k ∧ ds.length ≤ 2 ∧ 1 ≤ ds.length ∧ (∀ d ∈ ds, 48 ≤ d ∧ d ≤ 57) ∧ (S ds == Str.ofString "") = false ∧ (Builtin.Str.occurrences (Str.ofString "+-") (Txt.item (S ds) 0) 0 (Str.ofString "+-").length 1).isEmpty = true ∧ (Txt.item (S ds) 0 == Str.ofString "-") = false := by
  have : k = 0 ∨ k = 1 ∨ k = 2 ∨ k = 3 ∨ k = 4 ∨ k = 5 ∨ k = 6 ∨ k = 7 ∨ k = 8 ∨ k = 9 ∨ k = 10 ∨ k = 11 ∨ k = 12 := by omega
  rcases this with rfl | rfl | rfl | rfl | rfl | rfl | rfl | rfl | rfl | rfl | rfl | rfl | rfl
  · exact ⟨[48], by decide +kernel⟩
  · exact ⟨[49], by decide +kernel⟩
  · exact ⟨[50], by decide +kernel⟩
  · exact ⟨[51], by decide +kernel⟩
  · exact ⟨[52], by decide +kernel⟩
  · exact ⟨[53], by decide +kernel⟩
  · exact ⟨[54], by decide +kernel⟩
  · exact ⟨[55], by decide +kernel⟩
  · exact ⟨[56], by decide +kernel⟩
  · exact ⟨[57], by decide +kernel⟩
  · exact ⟨[49, 48], by decide +kernel⟩
  · exact ⟨[49, 49], by decide +kernel⟩
  · exact ⟨[49, 50], by decide +kernel⟩
theorem kk_facts {l m : List Nat} {p q d : Nat} (Wl : W l) (Wm : W m) (hp : p = l.length) (hq : q = m.length) (hd : d = (root l).length) : 0 ≤ ((p : Int) + q).fdiv d ∧ ((p : Int) + q).fdiv d ≤ 12 ∧ (d : Int) * ((p : Int) + q).fdiv d ≤ 1000 ∧ d ≤ 6 ∧ (((p : Int) + q).fdiv d).toNat = (l.length + m.length) / (root l).length := by
  subst hp hq hd
  obtain ⟨a1, a2, a3, a4, a5, a6⟩ := root_len Wl.1
  have hl6 := Wl.2.1
  have hm6 := Wm.2.1
  have e : ((l.length : Int) + m.length).fdiv (root l).length = (((l.length + m.length) / (root l).length : Nat) : Int) := by
    rw [Int.fdiv_eq_ediv_of_nonneg _ (by omega)]
    rfl
  have h1 : (l.length + m.length) / (root l).length ≤ l.length + m.length := Nat.div_le_self _ _
  have h2 : (root l).length * ((l.length + m.length) / (root l).length) ≤ l.length + m.length := Nat.mul_div_le _ _
  rw [e]
  clear e
  generalize (l.length + m.length) / (root l).length = qq at h1 h2 ⊢
  refine ⟨by omega, by omega, ?_, by omega, Int.toNat_natCast _⟩
  rw [← Int.natCast_mul]
  omega
def SeenAre (vs : List Value) (L : List (List Nat)) : Prop := DatAll [] vs (L.map fun l => Dat.str (S l))
theorem SeenAre.len {vs : List Value} {L : List (List Nat)} (h : SeenAre vs L) : vs.length = L.length := by
  have := DatAll.length h
  simpa using this
theorem SeenAre.snoc {vs : List Value} {L : List (List Nat)} {l : List Nat} {t : Tok} (h : SeenAre vs L) : SeenAre (vs ++ [.str (S l) t]) (L ++ [l]) := by
  unfold SeenAre
  rw [List.map_append]
  exact DatAll.append h (.cons (.str _ _) .nil)
section
variable {prog : Program} {w : World} {A : Around} {E : Value → Shared → Prop} {s : Shared} {h₀ : Heap} {L a : Addr} {news : List (Addr × Obj)} {vs : List Value} {ka : Nat} {l : List Nat} {t : Tok} {Ls : List (List Nat)} {Q : Value → Shared → Prop}
theorem notIn_t (N : News h₀ L s.heap news) (ma : (a, W.listOf vs.toArray ka) ∈ news) (hs : SeenAre vs Ls) (ok : ∀ m ∈ Ls, PyData.strOk (S m) = true) (k : PyData.strOk (S l) = true) (hn : l ∉ Ls) (hu : A.units + 64 < cLine) (h : Q (.bool true) s) :
    wpAny (model prog w) A (compareOp .NotIn (.str (S l) t) (.ref a)) Q E s := by
  refine kqd_notIn (n₁ := []) (n₂ := []) (d := Dat.str (S l)) N ma rfl rfl hs (fun _ h => nomatch h) (.str _ _) (fun _ h => nomatch h) ?_ k hu ?_
  · intro d hd
    obtain ⟨m, hm, rfl⟩ := List.mem_map.mp hd
    exact ok m hm
  · have : Dat.str (S l) ∉ Ls.map fun l => Dat.str (S l) := by
      intro hd
      obtain ⟨m, hm, e⟩ := List.mem_map.mp hd
      exact hn (S_inj (Dat.str.inj e) ▸ hm)
    simpa [this] using h
theorem notIn_f (N : News h₀ L s.heap news) (ma : (a, W.listOf vs.toArray ka) ∈ news) (hs : SeenAre vs Ls) (ok : ∀ m ∈ Ls, PyData.strOk (S m) = true) (k : PyData.strOk (S l) = true) (hn : l ∈ Ls) (hu : A.units + 64 < cLine) (h : Q (.bool false) s) :
    wpAny (model prog w) A (compareOp .NotIn (.str (S l) t) (.ref a)) Q E s := by
  refine kqd_notIn (n₁ := []) (n₂ := []) (d := Dat.str (S l)) N ma rfl rfl hs (fun _ h => nomatch h) (.str _ _) (fun _ h => nomatch h) ?_ k hu ?_
  · intro d hd
    obtain ⟨m, hm, rfl⟩ := List.mem_map.mp hd
    exact ok m hm
  · have : Dat.str (S l) ∈ Ls.map fun l => Dat.str (S l) := List.mem_map.mpr ⟨l, hn, rfl⟩
    simpa [this] using h
theorem seen_append {m : Str → Option Value} {rest : List (Addr × Obj)} {x : Value} {Q : Value → Shared → Prop} (F : Fr h₀ L s.heap m) (N : News h₀ L s.heap ((a, W.listOf vs.toArray ka) :: rest)) (hU : ∀ p ∈ rest, p.1 ≠ a) (hv : vs.length ≤ 10)
    (h : ∀ h', Fr h₀ L h' m → News h₀ L h' ((a, W.listOf (vs ++ [x]).toArray (ka + 1)) :: rest) → Q .none { s with heap := h' }) : wpAny (model prog w) A (call (.builtin "list.append") [.ref a, x]) Q E s := by
  refine append_K F N (Upd.head hU) (fun h' F' N' => h h' F' ?_) (by rw [sizeLine_eq, List.size_toArray]; omega)
  rw [List.push_toArray] at N'
  exact N'
end
theorem rot_mem {l : List Nat} {t : Nat} (h : ∀ a ∈ l, a = 97 ∨ a = 98) : ∀ a ∈ rot l t, a = 97 ∨ a = 98 := by
  intro a ha
  rcases List.mem_append.mp ha with ha | ha
  · exact h a (List.mem_of_mem_drop ha)
  · exact h a (List.mem_of_mem_take ha)
theorem seen_ok {l : List Nat} (h : ∀ a ∈ l, a = 97 ∨ a = 98) (i : Nat) : ∀ m ∈ seenAt l i, PyData.strOk (S m) = true := by
  intro m hm
  obtain ⟨t, _, rfl⟩ := List.mem_map.mp hm
  exact strOk_S (rot_mem h)
theorem seen_le {l : List Nat} (h : W l) (i : Nat) : (seenAt l i).length ≤ 6 := by
  unfold seenAt
  rw [List.length_map, List.length_range]
  have := (root_len h.1).2.1
  have := h.2.1
  omega
theorem map_tb {x y z : Str} {m₁ m₀ : Str → Option Value} {k v : Value} (ha : m₁ y = some v) (hm : ∀ q, q ≠ x → ([y, z] : List Str).contains q = false → m₁ q = m₀ q) :
    (fun q => if q = x then some k else m₁ q) = fun q => if q = x then some k else if q = y then some v else if q = z then m₁ z else m₀ q := by
  funext q
  by_cases h1 : q = x
  · simp [h1]
  · simp only [if_neg h1]
    by_cases h2 : q = y
    · subst h2; simp [ha]
    · simp only [if_neg h2]
      by_cases h3 : q = z
      · subst h3; simp
      · simp only [if_neg h3]
        exact hm q h1 (by simp [h2, h3])
theorem len_of {z : Str} {l : List Nat} (h : z = S l) : z.length = l.length := by rw [h]; exact S_len l
theorem turn_sl {l : List Nat} {x : Str} {i : Nat} (hx : x = S l) : Txt.slice x (some (1 + (i : Int))) none ++ Txt.slice x none (some (1 + (i : Int))) = S (rot l (i + 1)) := by
  subst hx
  rw [S_drop l _ (by omega), S_take l _ (by omega), S_app]
  have e : (1 + (i : Int)).toNat = i + 1 := by omega
  rw [e]
  rfl
theorem step_is {l : List Nat} {n : Nat} {i : Nat} (hn : n = l.length) (hi : i < l.length) : ((rep (2 : Int).toNat (rot l i)).drop ((2 : Int) - 1).toNat).take (n : Int).toNat = rot l (i + 1) := by
  subst hn
  exact rot_step hi
theorem back_is {l : List Nat} {n : Nat} {i : Nat} (hn : n = l.length) (hi : i < l.length) : ((rep (2 : Int).toNat l.reverse).drop (1 + ((n : Int) - (1 + (i : Int))) - 1).toNat).take (n : Int).toNat = (rot l (i + 1)).reverse := by
  subst hn
  have e : (1 + ((l.length : Int) - (1 + (i : Int))) - 1).toNat = l.length - (i + 1) := by omega
  rw [e]
  exact rot_back (by omega)
theorem turn_q {l : List Nat} {x z r : Str} {i : Nat} (hl : 1 ≤ l.length) (hi : i < l.length) (hx : x = S l) (hz : z = S (rot l (i + 1))) (hr : r = S (root l)) : ((z == x) != ((1 + (i : Int)).fmod (r.length : Int) == 0)) = false := by
  subst hx hz hr
  rw [S_beq, rot_self hl (by omega), S_len, Int.fmod_eq_emod_of_nonneg _ (by omega), show (1 + (i : Int)) = ((i + 1 : Nat) : Int) by omega, ← Int.natCast_emod]
  have e : ((((i + 1) % (root l).length : Nat) : Int) == 0) = ((i + 1) % (root l).length == 0) := by
    rw [Bool.eq_iff_iff, beq_iff_eq, beq_iff_eq]
    omega
  rw [e]
  simp

/-! the law, statement by statement -/
section
local macro_rules | `(tactic| walk_at "subscriptTail Name Slice ref ref") => `(tactic| (k_here; (with_reducible show wpAny _ _ (subscriptTail _ (PySem.Expr.Slice (some _) none none _) (Value.ref _) (Value.ref _)) _ _ _); k_dflt (refine' kmk_slice ?F ?N ?l ?p ?q ?_ ?s ?t ?z; (case F => k_asm); (case N => k_asm); (case l => kmk_list); (case p => kmk_part); (case q => kmk_part); (case s => with_unfolding_all rfl); (case t => kmk_pure); (case z => kmk_size)); intro D' h' F' N' l1; (try k_lt l1); (try k_sweep)))
theorem cells_sz {ys : List Value} {its : Array Value} {lo hi st : Option Int} {l : List Int} (h : ys.length = (List.map (fun k' => if k' < 0 then -k' else k') (List.take 4 l)).length) (hi' : its.size ≤ 10) : (ys.toArray).toList.length + (slicePick its lo hi st).toList.length ≤ sizeLine := by
  have q := slicePick_size_le its lo hi st
  have e1 : ys.toArray.toList.length = ys.length := by simp
  have e2 : (slicePick its lo hi st).toList.length = (slicePick its lo hi st).size := by simp
  rw [e1, e2, h, List.length_map, List.length_take, sizeLine_eq]
  omega
local macro_rules | `(tactic| walk_at "binaryOp Add ref ref") => `(tactic| (k_here; (with_reducible show wpAny _ _ (binaryOp _ (Value.ref _) (Value.ref _)) _ _ _); k_dflt (refine' kmk_add_lit ?F ?N ?ka ?kb rfl ?_ ?z; (case F => k_asm); (case N => k_asm); (case ka => kmk_list); (case kb => kmk_list); (case z => exact cells_sz (by assumption) (Nat.le_of_ble_eq_true rfl))); intro D' h' F' N' l1; (try k_lt l1); (try k_sweep)))
def MarkS : Prop := (7 : Nat) = 7
local macro_rules | `(tactic| walk_at "CompSrc") => `(tactic| ((rename MarkS => mk9); refine stop_here ?_))
local macro_rules | `(tactic| walk_at "CompSrcT") => `(tactic| ((rename MarkS => mk9); refine stop_here ?_))
local macro_rules | `(tactic| walk_at "CompEnd") => `(tactic| ((rename MarkS => mk9); refine stop_here ?_))
local macro_rules | `(tactic| walk_at "KPfDone") => `(tactic| ((rename MarkS => mk9); refine stop_here ?_))
local macro_rules | `(tactic| walk_at "CutEnd") => `(tactic| (refine stop_here ?_))
local macro_rules | `(tactic| walk_at "callWith builtin:list.append") => `(tactic| k_dflt (refine callWith_method1 ?_))
local macro_rules | `(tactic| walk_at "binaryOp Pow int int") => `(tactic| ((with_reducible refine pow_int_small ?kb1 ?kb2 ?kb3 ?_); (case kb1 => assumption); (case kb2 => omega); (case kb3 => decide)))
local macro_rules | `(tactic| walk_at "binaryOp FloorDiv int int") => `(tactic| ((with_reducible refine floordiv_int ?kb1 ?_); (case kb1 => assumption)))
local macro_rules | `(tactic| walk_at "call ref") => `(tactic| (k_here; (with_reducible show wpAny _ _ (call (Value.ref 389) _) _ _ _); k_dflt (refine' root_c ?B ?F ?X ?N ?T ?hk ?hx ?hx1 ?hx0 ?hdp ?hun ?_; (case B => k_asm); (case F => k_asm); (case X => k_asm); (case N => k_asm); (case T => k_asm); (case hk => first | exact rfl | assumption); (case hx => assumption); (case hx1 => assumption); (case hx0 => assumption); (case hdp => ktr_room); (case hun => ktr_units); intro z9 t9 h9 tk9 e9 F9 N9; (try dsimp only); (try k_fold))))
local macro_rules | `(tactic| walk_at "call builtin:min") => `(tactic| (refine stop_here ?_))
local macro_rules | `(tactic| walk_at "call ref") => `(tactic| (k_here; (with_reducible show wpAny _ _ (call (Value.ref 282) _) _ _ _); k_dflt (refine' dupl_c ?B ?F ?X ?N ?T ?hk ?m1 ?m2 ?m3 ?g1 ?g2 ?hx ?h0 ?hk2 ?hx1 ?hx2 ?hdp ?hun ?_; (case B => k_asm); (case F => k_asm); (case X => k_asm); (case N => k_asm); (case T => k_asm); (case hk => first | exact rfl | assumption); (case m1 => k_mem); (case m2 => k_mem); (case m3 => k_mem); (case g1 => assumption); (case g2 => assumption); (case hx => assumption); (case h0 => assumption); (case hk2 => omega); (case hx1 => omega); (case hx2 => omega); (case hdp => ktr_room); (case hun => ktr_units); intro z9 t9 h9 tk9 e9 F9 N9; (have l9 := len_of e9); (try dsimp only); (try k_fold))))
local macro_rules | `(tactic| walk_at "compareOp NotEq ref ref") => `(tactic| (k_here; (with_reducible show wpAny _ _ (compareOp CmpOp.NotEq (Value.ref _) (Value.ref _)) _ _ _); k_dflt (refine' ne2 ?N ?ma ?mb ?k1 ?k2 ?e1 ?e2 ?hu ?_; (case N => k_asm); (case ma => k_mem); (case mb => k_mem); (case k1 => assumption); (case k2 => assumption); (case e1 => first | assumption | rfl); (case e2 => first | assumption | rfl); (case hu => ke_room))))
local macro_rules | `(tactic| walk_at "call ref") => `(tactic| (k_here; (with_reducible show wpAny _ _ (call (Value.ref 303) _) _ _ _); k_dflt (refine' ident_t ?B ?F ?X ?N ?T ?hk ?m3 ?hx1 ?hx2 ?e ?hdp ?hun ?_; (case B => k_asm); (case F => k_asm); (case X => k_asm); (case N => k_asm); (case T => k_asm); (case hk => first | exact rfl | assumption); (case m3 => k_mem); (case hx1 => assumption); (case hx2 => assumption); (case e => assumption); (case hdp => ktr_room); (case hun => ktr_units); intro t9 h9 tk9 F9 N9; (try dsimp only); (try k_fold))))
local macro_rules | `(tactic| walk_at "call ref") => `(tactic| (k_here; (with_reducible show wpAny _ _ (call (Value.ref 303) _) _ _ _); k_dflt (refine' ident_f ?B ?F ?X ?N ?T ?hk ?m3 ?hx1 ?hx2 ?e ?hdp ?hun ?_; (case B => k_asm); (case F => k_asm); (case X => k_asm); (case N => k_asm); (case T => k_asm); (case hk => first | exact rfl | assumption); (case m3 => k_mem); (case hx1 => assumption); (case hx2 => assumption); (case e => assumption); (case hdp => ktr_room); (case hun => ktr_units); intro f9 d9 h9 tk9 F9 N9; (try dsimp only); (try k_fold))))
local macro_rules | `(tactic| walk_at "call ref") => `(tactic| (k_here; (with_reducible show wpAny _ _ (call (Value.ref 382) _) _ _ _); k_dflt (refine' join_c ?B ?F ?X ?N ?T ?hk ?m1 ?m2 ?g2 ?hx1 ?hx2 ?hx0 ?hy0 ?ex ?ey ?hdp ?hun ?_; (case B => k_asm); (case F => k_asm); (case X => k_asm); (case N => k_asm); (case T => k_asm); (case hk => first | exact rfl | assumption); (case m1 => k_mem); (case m2 => k_mem); (case g2 => assumption); (case hx1 => omega); (case hx2 => omega); (case hx0 => omega); (case hy0 => omega); (case ex => assumption); (case ey => assumption); (case hdp => ktr_room); (case hun => ktr_units); intro t9 h9 tk9 F9 N9; (try dsimp only); (try k_fold))))
local macro_rules | `(tactic| walk_at "subscriptTail Name Constant ref int") => `(tactic| (k_here; (with_reducible show wpAny _ _ (subscriptTail _ _ (Value.ref _) (Value.int _ _)) _ _ _); k_dflt (refine' item_at ?N ?m ?k0 ?k1 ?kv ?_ ?s; (case N => k_asm); (case m => k_mem); (case k0 => decide); (case k1 => decide); (case kv => exact rfl); (case s => with_unfolding_all rfl))))
local macro_rules | `(tactic| walk_at "call ref") => `(tactic| (k_here; (with_reducible show wpAny _ _ (call (Value.ref 282) _) _ _ _); k_dflt (refine' dupls_c ?B ?F ?X ?N ?T ?hk ?m1 ?m2 ?m3 ?g1 ?g2 ?hx ?hv ?h0 ?hk2 ?hx1 ?hx2 ?hy ?hy1 ?hy0 ?hd ?ex ?e1 ?e2 ?hdp ?hun ?_; (case B => k_asm); (case F => k_asm); (case X => k_asm); (case N => k_asm); (case T => k_asm); (case hk => first | exact rfl | assumption); (case m1 => k_mem); (case m2 => k_mem); (case m3 => k_mem); (case g1 => assumption); (case g2 => assumption); (case hx => assumption); (case hv => assumption); (case h0 => assumption); (case hk2 => omega); (case hx1 => omega); (case hx2 => assumption); (case hy => assumption); (case hy1 => omega); (case hy0 => omega); (case hd => assumption); (case ex => assumption); (case e1 => assumption); (case e2 => assumption); (case hdp => ktr_room); (case hun => ktr_units); intro z9 t9 h9 tk9 e9 F9 N9; (try dsimp only); (try k_fold))))
local macro_rules | `(tactic| walk_at "call ref") => `(tactic| (k_here; (with_reducible show wpAny _ _ (call (Value.ref 275) _) _ _ _); k_dflt (refine' size_c ?B ?F ?X ?N ?T ?hk ?m3 ?hx1 ?hdp ?hun ?_; (case B => k_asm); (case F => k_asm); (case X => k_asm); (case N => k_asm); (case T => k_asm); (case hk => first | exact rfl | assumption); (case m3 => k_mem); (case hx1 => omega); (case hdp => ktr_room); (case hun => ktr_units); intro t9 h9 tk9 F9 N9; (try dsimp only); (try k_fold))))
local macro_rules | `(tactic| walk_at "exec For Name Call cons nil") => `(tactic| (k_here; (rename Fr _ _ _ _ => lF'); (with_unfolding_all refine' For_invVF lF' ?k1 ?k2 ?_; (case k1 => exact rfl); (case k2 => exact rfl); k_whole)))
local macro_rules | `(tactic| walk_at "call type:range") => `(tactic| ((rename Fr _ _ _ _ => F'); (rename News _ _ _ _ => N'); (with_unfolding_all refine range2_rows F' N' ?_; intro _ _ _ _ _ _ _ _ _)))
local macro_rules | `(tactic| walk_at "pyIter ref") => `(tactic| ((with_reducible show wpAny _ _ (pyIter (Value.ref _)) (fun it s₂ => LoopAtV _ _ _ _ _ _ _ _ _ it s₂) _ _); refine stop_here ?_))
local macro_rules | `(tactic| walk_at "InvEndN") => `(tactic| (refine stop_here ?_))
local macro_rules | `(tactic| walk_at "compareOp NotIn str ref") => `(tactic| (k_here; k_dflt (first
  | (refine' notIn_t ?N ?ma ?hs ?ok ?k ?hn ?hu ?_; (case N => k_asm); (case ma => k_mem); (case hs => assumption); (case ok => assumption); (case k => assumption); (case hn => assumption); (case hu => ke_room))
  | (refine' notIn_f ?N ?ma ?hs ?ok ?k ?hn ?hu ?_; (case N => k_asm); (case ma => k_mem); (case hs => assumption); (case ok => assumption); (case k => assumption); (case hn => assumption); (case hu => ke_room)))))
local macro_rules | `(tactic| walk_at "call builtin:list.append") => `(tactic| (k_here; k_dflt (refine' seen_append ?F ?N ?hU ?hv ?_; (case F => k_asm); (case N => k_asm); (case hU => assumption); (case hv => omega)); intro h' F' N'))
local macro_rules | `(tactic| walk_at "call ref") => `(tactic| (k_here; (with_reducible show wpAny _ _ (call (Value.ref 296) _) _ _ _); k_dflt (refine' substr_c ?B ?F ?X ?N ?T ?hk ?m1 ?m2 ?m3 ?g1 ?hx ?h0 ?hk2 ?hx1 ?hx2 ?hdp ?hun ?_; (case B => k_asm); (case F => k_asm); (case X => k_asm); (case N => k_asm); (case T => k_asm); (case hk => first | exact rfl | assumption); (case m1 => k_mem); (case m2 => k_mem); (case m3 => k_mem); (case g1 => assumption); (case hx => assumption); (case h0 => omega); (case hk2 => omega); (case hx1 => omega); (case hx2 => omega); (case hdp => ktr_room); (case hun => ktr_units); intro z9 t9 h9 tk9 e9 F9 N9; (try dsimp only); (try k_fold))))
local macro_rules | `(tactic| walk_at "call ref") => `(tactic| (k_here; (with_reducible show wpAny _ _ (call (Value.ref 289) _) _ _ _); k_dflt (refine' rev_c ?B ?F ?X ?N ?T ?hk ?m3 ?hx ?hx1 ?hdp ?hun ?_; (case B => k_asm); (case F => k_asm); (case X => k_asm); (case N => k_asm); (case T => k_asm); (case hk => first | exact rfl | assumption); (case m3 => k_mem); (case hx => assumption); (case hx1 => omega); (case hdp => ktr_room); (case hun => ktr_units); intro z9 t9 h9 tk9 e9 F9 N9; (have l9 := len_of e9); (try dsimp only); (try k_fold))))
theorem m1 : PySem.Challenge.rw_tk0107_01.Holds := by
  refine hd ?_
  k_go0
  rename_i w s₀ s₁ mg mb G Y fa ob pm doc ho hg KX XM VL GL T BT TE TW aw bw MB cv cw hcd ns hs hlay0 hL1 hr1 hl2 la lb sa vs lc hLs ra w1 r0 hI hr hc1 hc2 K0 hD h₁ tk₁ F o6 o5 o4 o3 o2 o1 d6 d5 d4 d3 d2 d1 N0 X0
  clear G Y hcd hD X0 BT ho XM VL GL TE TW MB
  all_goals try k_fold
  dsimp only
  refine cutN (fun s' => ∃ (h' : Heap) (tk : Nat) (D : Addr) (oC : Obj) (u : Str → Option Value) (c0 c1 c2 c3 : Int) (t0 t1 t2 t3 : Tok), s' = { s₁ with heap := h', toks := tk } ∧ Fr s₁.heap s₁.heap.objs.size h' (u) ∧ News s₁.heap s₁.heap.objs.size h' [(D, W.listOf #[.int c0 t0, .int c1 t1, .int c2 t2, .int c3 t3] 0), (s₁.heap.objs.size + 1 + 1 + 1 + 1 + 1 + 1, o6), (s₁.heap.objs.size + 1 + 1 + 1 + 1 + 1, o5), (s₁.heap.objs.size + 1 + 1 + 1 + 1, o4), (s₁.heap.objs.size + 1 + 1 + 1, o3), (s₁.heap.objs.size + 1 + 1, oC), (s₁.heap.objs.size + 1, o1)] ∧ oC.data = .cell (some (.ref D)) ∧ (0 ≤ c0 ∧ 0 ≤ c1 ∧ 0 ≤ c2 ∧ 0 ≤ c3) ∧ @LT.lt Nat _ (s₁.heap.objs.size + 1 + 1 + 1 + 1 + 1 + 1) D) [_, _] _ ?_ ?_
  · k_steps
    rename Fr _ _ _ _ => Fz
    rename News _ _ _ _ => Nz
    rename (Obj.data _ = Data.cell (some (Value.ref _))) => dz
    obtain ⟨c0, c1, c2, c3, t0, t1, t2, t3, e, hc⟩ := cells_form (by assumption)
    rw [e] at Nz
    refine ⟨rfl, _, _, _, _, _, c0, c1, c2, c3, t0, t1, t2, t3, rfl, Fz, cb_drop Nz ?_, dz, hc, by omega⟩
    exact sub_cons (by k_mem) (sub_cons (by k_mem) (sub_cons (by k_mem) (sub_cons (by k_mem) (sub_cons (by k_mem) (sub_cons (by k_mem) (sub_cons (by k_mem) sub_nil))))))
  clear F N0 d2 o2 hI hLs r0 ra w1 hs hL1 hc1 hc2
  rintro s' ⟨h', tk, D, oC, u, c0, c1, c2, c3, t0, t1, t2, t3, rfl, F, N, dC, hc, lt0⟩
  obtain ⟨hc0, hc1, hc2, hc3⟩ := hc
  have mkS : MarkS := rfl
  refine cutN (fun s' => ∃ (h' : Heap) (tk : Nat) (wx wdx wl : Addr) (es : List DictEntry) (n : Nat) (oW : Obj) (u : Str → Option Value), s' = { s₁ with heap := h', toks := tk } ∧ Fr s₁.heap s₁.heap.objs.size h' (fun y => if y = Str.ofString "words" then some (.ref wl) else u y) ∧ News s₁.heap s₁.heap.objs.size h' [(wl, W.listOf #[] 0), (wx, instObj 357 wdx), (wdx, dictOf es n), (D, W.listOf #[.int c0 t0, .int c1 t1, .int c2 t2, .int c3 t3] 0), (s₁.heap.objs.size + 1 + 1 + 1 + 1 + 1 + 1, o6), (s₁.heap.objs.size + 1 + 1 + 1 + 1 + 1, o5), (s₁.heap.objs.size + 1 + 1 + 1 + 1, o4), (s₁.heap.objs.size + 1 + 1 + 1, oW), (s₁.heap.objs.size + 1 + 1, oC), (s₁.heap.objs.size + 1, o1)] ∧ oW.data = .cell (some (.ref wx)) ∧ (∃ tw, getL (Str.ofString "width") es = some (some (.int 32 tw))) ∧ (∃ tm, getL (Str.ofString "most_length") es = some (some (.int 5000 tm))) ∧ (@LT.lt Nat _ D wx ∧ @LT.lt Nat _ wdx wx ∧ @LT.lt Nat _ D wdx ∧ @LT.lt Nat _ wx wl)) [_] _ ?_ ?_
  · k_steps
    rename Fr _ _ _ _ => Fz
    rename News _ _ _ _ => Nz
    rename (Obj.data _ = Data.cell (some (Value.ref _))) => dz
    refine' ⟨rfl, _, _, _, _, _, _, _, _, _, rfl, Fz, cb_drop Nz ?n1u1, dz, ?n2u1, ?n3u1, ?n4u1⟩
    case n1u1 => exact sub_cons (by k_mem) (sub_cons (by k_mem) (sub_cons (by k_mem) (sub_cons (by k_mem) (sub_cons (by k_mem) (sub_cons (by k_mem) (sub_cons (by k_mem) (sub_cons (by k_mem) (sub_cons (by k_mem) (sub_cons (by k_mem) sub_nil)))))))))
    case n2u1 => exact ⟨_, rfl⟩
    case n3u1 => exact ⟨_, rfl⟩
    case n4u1 => refine ⟨?_, ?_, ?_, ?_⟩ <;> omega
  clear F N d3 o3
  rintro s' ⟨h', tk, wx, wdx, wl, es, n, oW, u, rfl, F, N, dW, ⟨tw, g1⟩, ⟨tm, g2⟩, lt1⟩
  refine cutN (fun s' => ∃ (h' : Heap) (tk : Nat) (p5 p4 p1 : Obj) (u : Str → Option Value) (x y : Str) (t1 t2 : Tok) (k : Nat), s' = { s₁ with heap := h', toks := tk } ∧ Fr s₁.heap s₁.heap.objs.size h' (fun y => if y = Str.ofString "words" then some (.ref wl) else u y) ∧ News s₁.heap s₁.heap.objs.size h' [(wl, W.listOf #[.str x t1, .str y t2] k), (wx, instObj 357 wdx), (wdx, dictOf es n), (s₁.heap.objs.size + 1 + 1 + 1 + 1 + 1 + 1, o6), (s₁.heap.objs.size + 1 + 1 + 1 + 1 + 1, p5), (s₁.heap.objs.size + 1 + 1 + 1 + 1, p4), (s₁.heap.objs.size + 1 + 1 + 1, oW), (s₁.heap.objs.size + 1 + 1, oC), (s₁.heap.objs.size + 1, p1)] ∧ p1.data = .cell (some (.str x t1)) ∧ p5.data = .cell (some (.str y t2)) ∧ (∃ l, x = S l ∧ W l) ∧ (∃ l, y = S l ∧ W l)) [_, _] _ ?_ ?_
  · k_steps
    unfold Stop
    rename IsRange _ _ _ _ _ _ _ _ => Ra
    rename Fr _ _ _ _ => Fa
    rename News _ _ _ _ => Na
    rename (∀ (b : Addr) (o : Obj), Heap.get? _ b = some o → Heap.get? _ b = some o) => Ka
    have hb0 := fmod6 (c1)
    refine LCg.CompSrc.range rfl Fa Na Ra (small_one (by decide) (by decide) (by exact Int.le_trans (by decide) hb0.1) (by exact Int.lt_of_le_of_lt hb0.2 (by decide))) (rangeSize_nat _ _) (by exact Nat.le_trans (Int.toNat_le_toNat (Int.sub_le_sub_right hb0.2 0)) (by decide)) ?_
    intro g'
    refine kct_range (bitOf (c0)) (fun k t I oI C oC D' m₂ ys h tk E' hlo hhi hC hx F1 N1 off ne mark => ?_) ?_
    · have hk6 : k ≤ 5 := word_k hb0 hhi
      have hp2 := two_pow_ne k
      clear Fa Na Ra Ka hhi
      k_steps
      unfold Stop
      refine' LCg.CompEnd.intro ?Fu2 ?Nu2 _ ?subu2 off trivial ?ru2
      case Fu2 => assumption
      case Nu2 => assumption
      case subu2 => exact fun _ h => h
      case ru2 => exact kct_el (by with_unfolding_all rfl) rfl rfl
    · unfold KPfDone
      intro ys hCar hlen
      unfold LCg.FinE
      clear Fa Na Ra Ka
      intro D' h' tk' F' N' o1
      (try simp only [LCg.Off1, and_true] at o1)
      (try simp only [List.nil_append, List.cons_append] at N')
      k_steps
      unfold Stop
      rename IsRange _ _ _ _ _ _ _ _ => Ra
      rename Fr _ _ _ _ => Fa
      rename News _ _ _ _ => Na
      rename (∀ (b : Addr) (o : Obj), Heap.get? _ b = some o → Heap.get? _ b = some o) => Ka
      have hb0 := fmod6 (c3)
      refine LCg.CompSrc.range rfl Fa Na Ra (small_one (by decide) (by decide) (by exact Int.le_trans (by decide) hb0.1) (by exact Int.lt_of_le_of_lt hb0.2 (by decide))) (rangeSize_nat _ _) (by exact Nat.le_trans (Int.toNat_le_toNat (Int.sub_le_sub_right hb0.2 0)) (by decide)) ?_
      intro g'
      refine kct_range (bitOf (c2)) (fun k t I oI C oC D' m₂ ys h tk E' hlo hhi hC hx F1 N1 off ne mark => ?_) ?_
      · have hk6 : k ≤ 5 := word_k hb0 hhi
        have hp2 := two_pow_ne k
        clear Fa Na Ra Ka hhi
        k_steps
        unfold Stop
        refine' LCg.CompEnd.intro ?Fu3 ?Nu3 _ ?subu3 off trivial ?ru3
        case Fu3 => assumption
        case Nu3 => assumption
        case subu3 => exact fun _ h => h
        case ru3 => exact kct_el (by with_unfolding_all rfl) rfl rfl
      · unfold KPfDone
        intro ys hCar hlen
        unfold LCg.FinE
        clear Fa Na Ra Ka
        intro D' h' tk' F' N' o1
        (try simp only [LCg.Off1, and_true] at o1)
        (try simp only [List.nil_append, List.cons_append] at N')
        k_steps
        rename Fr _ _ _ _ => Fz
        rename News _ _ _ _ => Nz
        refine' ⟨rfl, _, _, _, _, _, _, _, _, _, _, _, rfl, fr_keep Fz ?n0u4, cb_drop Nz ?n1u4, ?n2u4, ?n3u4, ?n4u4, ?n5u4⟩
        case n0u4 => exact rfl
        case n1u4 => exact sub_cons (by k_mem) (sub_cons (by k_mem) (sub_cons (by k_mem) (sub_cons (by k_mem) (sub_cons (by k_mem) (sub_cons (by k_mem) (sub_cons (by k_mem) (sub_cons (by k_mem) (sub_cons (by k_mem) sub_nil))))))))
        case n2u4 => assumption
        case n3u4 => assumption
        case n4u4 => exact word_ex c0 c1
        case n5u4 => exact word_ex c2 c3
  clear F N d5 d1 o5 o1 o4 d4 dC hc0 hc1 hc2 hc3
  rintro s' ⟨h', tk, o5, o4, o1, u, x, y, t1, t2, k, rfl, F, N, d1, d5, ⟨lx, hx, Wx⟩, ⟨ly, hy, Wy⟩⟩
  have hxl : x.length = lx.length := by rw [hx]; exact S_len lx
  have hyl : y.length = ly.length := by rw [hy]; exact S_len ly
  have hx6 : x.length ≤ 6 := by rw [hxl]; exact Wx.2.1
  have hy6 : y.length ≤ 6 := by rw [hyl]; exact Wy.2.1
  have hx1 : 1 ≤ x.length := by rw [hxl]; exact Wx.1
  have hy1 : 1 ≤ y.length := by rw [hyl]; exact Wy.1
  refine cutN (fun s' => ∃ (h' : Heap) (tk : Nat) (u : Str → Option Value) (r : Str) (tr : Tok), s' = { s₁ with heap := h', toks := tk } ∧ Fr s₁.heap s₁.heap.objs.size h' (fun y => if y = Str.ofString "root" then some (.str r tr) else if y = Str.ofString "words" then some (.ref wl) else u y) ∧ News s₁.heap s₁.heap.objs.size h' [(wl, W.listOf #[.str x t1, .str y t2] k), (wx, instObj 357 wdx), (wdx, dictOf es n), (s₁.heap.objs.size + 1 + 1 + 1 + 1 + 1 + 1, o6), (s₁.heap.objs.size + 1 + 1 + 1 + 1 + 1, o5), (s₁.heap.objs.size + 1 + 1 + 1 + 1, o4), (s₁.heap.objs.size + 1 + 1 + 1, oW), (s₁.heap.objs.size + 1 + 1, oC), (s₁.heap.objs.size + 1, o1)] ∧ r = S (root lx)) [_] _ ?_ ?_
  · k_steps
    rename Fr _ _ _ _ => Fz
    rename News _ _ _ _ => Nz
    exact ⟨rfl, _, _, _, _, _, rfl, Fz, cb_drop Nz (fun p h => h), by assumption⟩
  clear F N
  rintro s' ⟨h', tk, u, r, tr, rfl, F, N, hr⟩
  refine cutN (fun s' => ∃ (h' : Heap) (tk : Nat) (u : Str → Option Value) (p6 : Obj) (M : Int) (tM : Tok), s' = { s₁ with heap := h', toks := tk } ∧ Fr s₁.heap s₁.heap.objs.size h' (fun y => if y = Str.ofString "root" then some (.str r tr) else if y = Str.ofString "words" then some (.ref wl) else u y) ∧ News s₁.heap s₁.heap.objs.size h' [(wl, W.listOf #[.str x t1, .str y t2] k), (wx, instObj 357 wdx), (wdx, dictOf es n), (s₁.heap.objs.size + 1 + 1 + 1 + 1 + 1 + 1, p6), (s₁.heap.objs.size + 1 + 1 + 1 + 1 + 1, o5), (s₁.heap.objs.size + 1 + 1 + 1 + 1, o4), (s₁.heap.objs.size + 1 + 1 + 1, oW), (s₁.heap.objs.size + 1 + 1, oC), (s₁.heap.objs.size + 1, o1)] ∧ p6.data = .cell (some (.int M tM)) ∧ (1 ≤ M ∧ M ≤ 36) ∧ M.fmod x.length = 0 ∧ M.fmod y.length = 0) [_] _ ?_ ?_
  · k_steps
    unfold Stop
    rename IsRange _ _ _ _ _ _ _ _ => Ra
    rename Fr _ _ _ _ => Fa
    rename News _ _ _ _ => Na
    rename (∀ (b : Addr) (o : Obj), Heap.get? _ b = some o → Heap.get? _ b = some o) => Ka
    refine LCt.CompSrcT.range rfl Fa Na Ra (by decide) (rangeSize_nat _ _) (by decide) ?_
    intro g'
    refine kci_range (pick x.length y.length) (fun k9 t I oI C oC D' m₂ ys l h tk E' hlo hhi hI hC hxx F1 N1 off ne mark => ?_) ?_ (pick_grows _ _)
    · clear Fa Na Ra Ka hhi
      k_steps
      all_goals unfold Stop
      · refine' LCg.CompEnd.intro ?Fu5 ?Nu5 _ ?subu5 off trivial ?ru5
        case Fu5 => assumption
        case Nu5 => assumption
        case subu5 => exact fun _ h => h
        case ru5 => exact kci_el (if_pos ⟨by assumption, by assumption⟩) rfl rfl
      · refine' LCg.CompEnd.intro ?Fu6 ?Nu6 _ ?subu6 off trivial ?ru6
        case Fu6 => assumption
        case Nu6 => assumption
        case subu6 => exact fun _ h => h
        case ru6 => exact kci_no (if_neg (fun h => absurd h.2 (by assumption))) rfl
      · refine' LCg.CompEnd.intro ?Fu7 ?Nu7 _ ?subu7 off trivial ?ru7
        case Fu7 => assumption
        case Nu7 => assumption
        case subu7 => exact fun _ h => h
        case ru7 => exact kci_no (if_neg (fun h => absurd h.1 (by assumption))) rfl
    · unfold KPfDone
      intro ys hI hlen
      unfold LCg.FinE
      clear Fa Na Ra Ka
      intro D' h' tk' F' N' o1
      (try simp only [LCg.Off1, and_true] at o1)
      (try simp only [List.nil_append, List.cons_append] at N')
      k_steps
      unfold Stop
      rename Fr _ _ _ _ => Fa
      rename News _ _ _ _ => Na
      refine kso_min Fa Na (News.isList Na (by k_mem)) hI (pick_ne hx1 hx6 hy1 hy6) rfl ?_
      intro h9 M tM tk9 F9 N9 hM hleast
      clear Fa Na hleast
      have hMg := pick_got hM
      k_steps
      rename Fr _ _ _ _ => Fz
      rename News _ _ _ _ => Nz
      refine' ⟨rfl, _, _, _, _, _, _, rfl, Fz, cb_drop Nz ?n1u8, ?n2u8, hMg⟩
      case n1u8 => exact sub_cons (by k_mem) (sub_cons (by k_mem) (sub_cons (by k_mem) (sub_cons (by k_mem) (sub_cons (by k_mem) (sub_cons (by k_mem) (sub_cons (by k_mem) (sub_cons (by k_mem) (sub_cons (by k_mem) sub_nil))))))))
      case n2u8 => assumption
  clear F N d6 o6
  rintro s' ⟨h', tk, u, o6, M, tM, rfl, F, N, d6, hM, hMx, hMy⟩
  refine cutN (fun s' => ∃ (h' : Heap) (tk : Nat) (u : Str → Option Value) (lp : Addr) (p1 p2 : Str) (u1 u2 : Tok), s' = { s₁ with heap := h', toks := tk } ∧ Fr s₁.heap s₁.heap.objs.size h' (fun y => if y = Str.ofString "powers" then some (.ref lp) else if y = Str.ofString "root" then some (.str r tr) else if y = Str.ofString "words" then some (.ref wl) else u y) ∧ News s₁.heap s₁.heap.objs.size h' [(lp, W.listOf #[.str p1 u1, .str p2 u2] 2), (wl, W.listOf #[.str x t1, .str y t2] k), (wx, instObj 357 wdx), (wdx, dictOf es n), (s₁.heap.objs.size + 1 + 1 + 1 + 1 + 1 + 1, o6), (s₁.heap.objs.size + 1 + 1 + 1 + 1 + 1, o5), (s₁.heap.objs.size + 1 + 1 + 1 + 1, o4), (s₁.heap.objs.size + 1 + 1 + 1, oW), (s₁.heap.objs.size + 1 + 1, oC), (s₁.heap.objs.size + 1, o1)] ∧ p1 = S (rep (M.fdiv x.length).toNat lx) ∧ p2 = S (rep (M.fdiv y.length).toNat ly) ∧ (@Ne Nat lp wl ∧ @Ne Nat lp wx ∧ @Ne Nat lp wdx)) [_] _ ?_ ?_
  · k_steps
    unfold Stop
    rename Fr _ _ _ _ => Fa
    rename News _ _ _ _ => Na
    obtain ⟨hdx0, hdx1, hdx2⟩ := div_facts hx1 hx6 hM
    obtain ⟨hdy0, hdy1, hdy2⟩ := div_facts hy1 hy6 hM
    refine LCg.CompSrc.ledger rfl Fa Na (by k_mem) (Nat.le_of_ble_eq_true rfl) ?_
    intro g'
    refine LCg.CompRest.succ ?_
    intro v I oI C oC D9 m₂ h8 tk8 E' hv hC hxx F1 N1 off ne
    have hve : v = Value.str x t1 := by simpa using hv.symm
    subst hve
    clear hv
    k_steps
    unfold Stop
    refine' LCg.CompEnd.intro ?F1u9 ?N1u9 _ ?sub1u9 off ?hS1u9 ?r1u9
    case F1u9 => assumption
    case N1u9 => assumption
    case sub1u9 => exact sub_cons (by k_mem) (sub_cons (by k_mem) (sub_cons (by k_mem) (fun p h => by repeat (first | exact h | refine List.Mem.tail _ ?_))))
    case hS1u9 => exact .inr ⟨_, .head _, rfl, _, rfl⟩
    refine LCg.CompRest.succ ?_
    intro v I oI C oC D9 m₂ h8 tk8 E' hv hC hxx F1 N1 off ne
    have hve : v = Value.str y t2 := by simpa using hv.symm
    subst hve
    clear hv
    k_steps
    unfold Stop
    refine' LCg.CompEnd.intro ?F2u10 ?N2u10 _ ?sub2u10 off ?hS2u10 ?r2u10
    case F2u10 => assumption
    case N2u10 => assumption
    case sub2u10 => exact sub_cons (by k_mem) (sub_cons (by k_mem) (sub_cons (by k_mem) (fun p h => by repeat (first | exact h | refine List.Mem.tail _ ?_))))
    case hS2u10 => exact .inr ⟨_, .head _, rfl, _, rfl⟩
    refine LCg.CompRest.zero ?_
    unfold LCg.FinA
    intro D' h' tk' F' N' o1
    (try simp only [LCg.Off1, and_true] at o1)
    (try simp only [List.nil_append, List.cons_append] at N')
    k_steps
    rename Fr _ _ _ _ => Fz
    rename News _ _ _ _ => Nz
    refine' ⟨rfl, _, _, _, _, _, _, _, _, rfl, Fz, cb_drop Nz ?n1u11, ?n2u11, ?n3u11, ?n4u11⟩
    case n1u11 => exact sub_cons (by k_mem) (fun p h => by repeat (first | exact h | refine List.Mem.tail _ ?_))
    case n2u11 => assumption
    case n3u11 => assumption
    case n4u11 => exact ⟨Ne.symm o1.1, Ne.symm o1.2.1, Ne.symm o1.2.2.1⟩
  clear F N
  rintro s' ⟨h', tk, u, lp, p1, p2, u1, u2, rfl, F, N, hp1, hp2, ltp⟩
  refine cutN (fun s' => ∃ (h' : Heap) (tk : Nat) (u : Str → Option Value), s' = { s₁ with heap := h', toks := tk } ∧ Fr s₁.heap s₁.heap.objs.size h' (fun y => if y = Str.ofString "powers" then some (.ref lp) else if y = Str.ofString "root" then some (.str r tr) else if y = Str.ofString "words" then some (.ref wl) else u y) ∧ News s₁.heap s₁.heap.objs.size h' [(lp, W.listOf #[.str p1 u1, .str p2 u2] 2), (wl, W.listOf #[.str x t1, .str y t2] k), (wx, instObj 357 wdx), (wdx, dictOf es n), (s₁.heap.objs.size + 1 + 1 + 1 + 1 + 1 + 1, o6), (s₁.heap.objs.size + 1 + 1 + 1 + 1 + 1, o5), (s₁.heap.objs.size + 1 + 1 + 1 + 1, o4), (s₁.heap.objs.size + 1 + 1 + 1, oW), (s₁.heap.objs.size + 1 + 1, oC), (s₁.heap.objs.size + 1, o1)]) [_] _ ?_ ?_
  · k_steps
    unfold Stop
    rename Fr _ _ _ _ => Fa
    rename News _ _ _ _ => Na
    obtain ⟨hdx0, hdx1, hdx2⟩ := div_facts hx1 hx6 hM
    obtain ⟨hdy0, hdy1, hdy2⟩ := div_facts hy1 hy6 hM
    have hk1 : PyData.strOk p1 = true := by rw [hp1]; exact strOk_S (rep_mem Wx.2.2)
    have hk2 : PyData.strOk p2 = true := by rw [hp2]; exact strOk_S (rep_mem Wy.2.2)
    have he1 : p1 = Txt.mul x (M.fdiv x.length) := by rw [hp1]; conv => rhs; rw [hx, S_mul, ← hx]
    have he2 : p2 = Txt.mul y (M.fdiv y.length) := by rw [hp2]; conv => rhs; rw [hy, S_mul, ← hy]
    refine LCg.CompSrc.ledger rfl Fa Na (by k_mem) (Nat.le_of_ble_eq_true rfl) ?_
    intro g'
    refine LCg.CompRest.succ ?_
    intro v I oI C oC D9 m₂ h8 tk8 E' hv hC hxx F1 N1 off ne
    have hve : v = Value.str x t1 := by simpa using hv.symm
    subst hve
    clear hv
    k_steps
    unfold Stop
    refine' LCg.CompEnd.intro ?F1u12 ?N1u12 _ ?sub1u12 off ?hS1u12 ?r1u12
    case F1u12 => assumption
    case N1u12 => assumption
    case sub1u12 => exact sub_cons (by k_mem) (sub_cons (by k_mem) (sub_cons (by k_mem) (fun p h => by repeat (first | exact h | refine List.Mem.tail _ ?_))))
    case hS1u12 => exact .inr ⟨_, .tail _ (.head _), rfl, _, rfl⟩
    refine LCg.CompRest.succ ?_
    intro v I oI C oC D9 m₂ h8 tk8 E' hv hC hxx F1 N1 off ne
    have hve : v = Value.str y t2 := by simpa using hv.symm
    subst hve
    clear hv
    k_steps
    unfold Stop
    refine' LCg.CompEnd.intro ?F2u13 ?N2u13 _ ?sub2u13 off ?hS2u13 ?r2u13
    case F2u13 => assumption
    case N2u13 => assumption
    case sub2u13 => exact sub_cons (by k_mem) (sub_cons (by k_mem) (sub_cons (by k_mem) (fun p h => by repeat (first | exact h | refine List.Mem.tail _ ?_))))
    case hS2u13 => exact .inr ⟨_, .tail _ (.head _), rfl, _, rfl⟩
    refine LCg.CompRest.zero ?_
    unfold LCg.FinE
    intro D' h' tk' F' N' o1
    (try simp only [LCg.Off1, and_true] at o1)
    (try simp only [List.nil_append, List.cons_append] at N')
    k_steps
    rename Fr _ _ _ _ => Fz
    rename News _ _ _ _ => Nz
    refine' ⟨rfl, _, _, _, rfl, Fz, cb_drop Nz ?n1u14⟩
    case n1u14 => exact fun p h => by repeat (first | exact h | refine List.Mem.tail _ ?_)
  clear F N
  rintro s' ⟨h', tk, u, rfl, F, N⟩
  refine cutN (fun s' => ∃ (h' : Heap) (tk : Nat) (u : Str → Option Value) (b : Bool), s' = { s₁ with heap := h', toks := tk } ∧ Fr s₁.heap s₁.heap.objs.size h' (fun y => if y = Str.ofString "commute" then some (.bool b) else if y = Str.ofString "powers" then some (.ref lp) else if y = Str.ofString "root" then some (.str r tr) else if y = Str.ofString "words" then some (.ref wl) else u y) ∧ News s₁.heap s₁.heap.objs.size h' [(lp, W.listOf #[.str p1 u1, .str p2 u2] 2), (wl, W.listOf #[.str x t1, .str y t2] k), (wx, instObj 357 wdx), (wdx, dictOf es n), (s₁.heap.objs.size + 1 + 1 + 1 + 1 + 1 + 1, o6), (s₁.heap.objs.size + 1 + 1 + 1 + 1 + 1, o5), (s₁.heap.objs.size + 1 + 1 + 1 + 1, o4), (s₁.heap.objs.size + 1 + 1 + 1, oW), (s₁.heap.objs.size + 1 + 1, oC), (s₁.heap.objs.size + 1, o1)] ∧ b = (root lx == root ly)) [_] _ ?_ ?_
  · k_steps
    rename Fr _ _ _ _ => Fz
    rename News _ _ _ _ => Nz
    rename (_ = S (root ly)) => ez
    refine' ⟨rfl, _, _, _, _, rfl, Fz, cb_drop Nz ?n1u15, ?n2u15⟩
    case n1u15 => exact fun p h => by repeat (first | exact h | refine List.Mem.tail _ ?_)
    case n2u15 => rw [hr, ez, S_beq]
  clear F N
  rintro s' ⟨h', tk, u, b, rfl, F, N, hb⟩
  refine cutN (fun s' => ∃ (h' : Heap) (tk : Nat) (u : Str → Option Value), s' = { s₁ with heap := h', toks := tk } ∧ Fr s₁.heap s₁.heap.objs.size h' (fun y => if y = Str.ofString "commute" then some (.bool b) else if y = Str.ofString "powers" then some (.ref lp) else if y = Str.ofString "root" then some (.str r tr) else if y = Str.ofString "words" then some (.ref wl) else u y) ∧ News s₁.heap s₁.heap.objs.size h' [(lp, W.listOf #[.str p1 u1, .str p2 u2] 2), (wl, W.listOf #[.str x t1, .str y t2] k), (wx, instObj 357 wdx), (wdx, dictOf es n), (s₁.heap.objs.size + 1 + 1 + 1 + 1 + 1 + 1, o6), (s₁.heap.objs.size + 1 + 1 + 1 + 1 + 1, o5), (s₁.heap.objs.size + 1 + 1 + 1 + 1, o4), (s₁.heap.objs.size + 1 + 1 + 1, oW), (s₁.heap.objs.size + 1 + 1, oC), (s₁.heap.objs.size + 1, o1)]) [_] _ ?_ ?_
  · have hpl : p1.length ≤ 40 := by rw [hp1, S_len, rep_len]; exact pow_len hxl hx1 hx6 hM hMx
    have hql : p2.length ≤ 40 := by rw [hp2, S_len, rep_len]; exact pow_len hyl hy1 hy6 hM hMy
    have hpq : (p1 == p2) = b := by rw [hp1, hp2, S_beq, hb]; exact pow_law Wx.1 Wy.1 hxl hyl hM hMx hMy
    cases b
    all_goals k_steps
    all_goals unfold Stop
    all_goals rename Fr _ _ _ _ => Fz
    all_goals rename News _ _ _ _ => Nz
    all_goals exact ⟨rfl, _, _, _, rfl, Fz, cb_drop Nz (fun p h => by repeat (first | exact h | refine List.Mem.tail _ ?_))⟩
  clear F N
  rintro s' ⟨h', tk, u, rfl, F, N⟩
  refine cutN (fun s' => ∃ (h' : Heap) (tk : Nat) (u : Str → Option Value) (lb : Addr) (v1 v2 : Tok), s' = { s₁ with heap := h', toks := tk } ∧ Fr s₁.heap s₁.heap.objs.size h' (fun y => if y = Str.ofString "both" then some (.ref lb) else if y = Str.ofString "commute" then some (.bool b) else if y = Str.ofString "powers" then some (.ref lp) else if y = Str.ofString "root" then some (.str r tr) else if y = Str.ofString "words" then some (.ref wl) else u y) ∧ News s₁.heap s₁.heap.objs.size h' [(lb, W.listOf #[.str (x ++ y) v1, .str (y ++ x) v2] 0), (lp, W.listOf #[.str p1 u1, .str p2 u2] 2), (wl, W.listOf #[.str x t1, .str y t2] k), (wx, instObj 357 wdx), (wdx, dictOf es n), (s₁.heap.objs.size + 1 + 1 + 1 + 1 + 1 + 1, o6), (s₁.heap.objs.size + 1 + 1 + 1 + 1 + 1, o5), (s₁.heap.objs.size + 1 + 1 + 1 + 1, o4), (s₁.heap.objs.size + 1 + 1 + 1, oW), (s₁.heap.objs.size + 1 + 1, oC), (s₁.heap.objs.size + 1, o1)]) [_] _ ?_ ?_
  · have ex : (x == Str.ofString "") = false := by rw [hx]; exact S_ne_nil Wx.1
    have ey : (y == Str.ofString "") = false := by rw [hy]; exact S_ne_nil Wy.1
    k_steps
    rename Fr _ _ _ _ => Fz
    rename News _ _ _ _ => Nz
    exact ⟨rfl, _, _, _, _, _, _, rfl, Fz, cb_drop Nz (fun p h => by repeat (first | exact h | refine List.Mem.tail _ ?_))⟩
  clear F N
  rintro s' ⟨h', tk, u, lb, v1, v2, rfl, F, N⟩
  have hxy : x ++ y = S (lx ++ ly) := by rw [hx, hy, S_app]
  have hyx : y ++ x = S (ly ++ lx) := by rw [hx, hy, S_app]
  refine cutN (fun s' => ∃ (h' : Heap) (tk : Nat) (u : Str → Option Value), s' = { s₁ with heap := h', toks := tk } ∧ Fr s₁.heap s₁.heap.objs.size h' (fun y => if y = Str.ofString "both" then some (.ref lb) else if y = Str.ofString "commute" then some (.bool b) else if y = Str.ofString "powers" then some (.ref lp) else if y = Str.ofString "root" then some (.str r tr) else if y = Str.ofString "words" then some (.ref wl) else u y) ∧ News s₁.heap s₁.heap.objs.size h' [(lb, W.listOf #[.str (x ++ y) v1, .str (y ++ x) v2] 0), (lp, W.listOf #[.str p1 u1, .str p2 u2] 2), (wl, W.listOf #[.str x t1, .str y t2] k), (wx, instObj 357 wdx), (wdx, dictOf es n), (s₁.heap.objs.size + 1 + 1 + 1 + 1 + 1 + 1, o6), (s₁.heap.objs.size + 1 + 1 + 1 + 1 + 1, o5), (s₁.heap.objs.size + 1 + 1 + 1 + 1, o4), (s₁.heap.objs.size + 1 + 1 + 1, oW), (s₁.heap.objs.size + 1 + 1, oC), (s₁.heap.objs.size + 1, o1)]) [_] _ ?_ ?_
  · have hk1 : PyData.strOk (x ++ y) = true := by rw [hxy]; exact strOk_S (app_mem Wx.2.2 Wy.2.2)
    have hk2 : PyData.strOk (y ++ x) = true := by rw [hyx]; exact strOk_S (app_mem Wy.2.2 Wx.2.2)
    have hc : (x ++ y == y ++ x) = b := by rw [hxy, hyx, S_beq, hb]; exact comm_iff Wx.1 Wy.1
    have hc2 : ((x ++ y == y ++ x) != b) = false := by rw [hc]; cases b <;> rfl
    clear hc
    k_steps
    all_goals first
      | (rename Fr _ _ _ _ => Fz; rename News _ _ _ _ => Nz; exact ⟨rfl, _, _, _, rfl, Fz, cb_drop Nz (fun p h => by repeat (first | exact h | refine List.Mem.tail _ ?_))⟩)
      | (exfalso; exact Bool.false_ne_true (hc2.symm.trans (by assumption)))
  clear F N
  rintro s' ⟨h', tk, u, rfl, F, N⟩
  refine cutN (fun s' => ∃ (h' : Heap) (tk : Nat) (u : Str → Option Value), s' = { s₁ with heap := h', toks := tk } ∧ Fr s₁.heap s₁.heap.objs.size h' (fun y => if y = Str.ofString "root" then some (.str r tr) else u y) ∧ News s₁.heap s₁.heap.objs.size h' [(wx, instObj 357 wdx), (wdx, dictOf es n), (s₁.heap.objs.size + 1 + 1 + 1 + 1 + 1 + 1, o6), (s₁.heap.objs.size + 1 + 1 + 1 + 1 + 1, o5), (s₁.heap.objs.size + 1 + 1 + 1 + 1, o4), (s₁.heap.objs.size + 1 + 1 + 1, oW), (s₁.heap.objs.size + 1 + 1, oC), (s₁.heap.objs.size + 1, o1)]) [_] _ ?_ ?_
  · have hrl : r.length = (root lx).length := by rw [hr]; exact S_len _
    obtain ⟨hk0, hk12, hkr, hr6, hkk⟩ := kk_facts Wx Wy hxl hyl hrl
    obtain ⟨ds, f1, f2, f3, f4, f5, f6, f7, f8⟩ := digits hk0 hk12
    rw [← f1] at f6 f7 f8
    have hr1 : 1 ≤ r.length := by rw [hrl]; exact (root_len Wx.1).1
    have hrne : (r.length : Int) ≠ 0 := by omega
    have f9 : (Str.ofString (toString (((x.length : Int) + y.length).fdiv r.length))).length = ds.length := by rw [f1]; exact S_len ds
    cases b
    · k_steps
      rename Fr _ _ _ _ => Fz
      rename News _ _ _ _ => Nz
      exact ⟨rfl, _, _, _, rfl, fr_keep Fz rfl, cb_drop Nz (fun p h => by repeat (first | exact h | refine List.Mem.tail _ ?_))⟩
    · have hrr : root lx = root ly := by simpa using hb.symm
      have hone : lx ++ ly = rep (((x.length : Int) + y.length).fdiv r.length).toNat (root lx) := by rw [hkk]; exact app_root Wx.1 Wy.1 hrr
      k_steps
      · exfalso
        rename (bne _ _ = true) => hbne
        rename (_ = S (rep (Int.toNat _) (root lx))) => ez
        rw [ez, hxy, hone] at hbne
        simp at hbne
      · rename Fr _ _ _ _ => Fz
        rename News _ _ _ _ => Nz
        exact ⟨rfl, _, _, _, rfl, fr_keep Fz rfl, cb_drop Nz (fun p h => by repeat (first | exact h | refine List.Mem.tail _ ?_))⟩
  clear F N
  rintro s' ⟨h', tk, u, rfl, F, N⟩
  refine cutN (fun s' => ∃ (h' : Heap) (tk : Nat) (u : Str → Option Value) (sl : Addr) (ts tt : Tok), s' = { s₁ with heap := h', toks := tk } ∧ Fr s₁.heap s₁.heap.objs.size h' (fun y => if y = Str.ofString "size" then some (.int x.length ts) else if y = Str.ofString "turned" then some (.str x tt) else if y = Str.ofString "seen" then some (.ref sl) else if y = Str.ofString "root" then some (.str r tr) else u y) ∧ News s₁.heap s₁.heap.objs.size h' [(sl, W.listOf #[] 0), (wx, instObj 357 wdx), (wdx, dictOf es n), (s₁.heap.objs.size + 1 + 1 + 1 + 1 + 1 + 1, o6), (s₁.heap.objs.size + 1 + 1 + 1 + 1 + 1, o5), (s₁.heap.objs.size + 1 + 1 + 1 + 1, o4), (s₁.heap.objs.size + 1 + 1 + 1, oW), (s₁.heap.objs.size + 1 + 1, oC), (s₁.heap.objs.size + 1, o1)] ∧ @LT.lt Nat _ wx sl) [_] _ ?_ ?_
  · have hr1 : 1 ≤ r.length := by rw [hr, S_len]; exact (root_len Wx.1).1
    k_steps
    rename Fr _ _ _ _ => Fz
    rename News _ _ _ _ => Nz
    refine' ⟨rfl, _, _, _, _, _, _, rfl, fr_keep (fr_keep (fr_keep (fr_keep Fz ?n4u16) ?n3u16) ?n2u16) ?n1u16, cb_drop Nz ?n5u16, ?n6u16⟩
    case n1u16 => exact rfl
    case n2u16 => exact rfl
    case n3u16 => exact rfl
    case n4u16 => exact rfl
    case n5u16 => exact sub_cons (by k_mem) (fun p h => by repeat (first | exact h | refine List.Mem.tail _ ?_))
    case n6u16 => omega
  clear F N hp1 hp2 hb hxy hyx ltp
  rintro s' ⟨h', tk, u, sl, ts, tt, rfl, F, N, ltS⟩
  refine cutN (fun s' => ∃ (h' : Heap) (tk : Nat) (u : Str → Option Value) (tt ts : Tok), s' = { s₁ with heap := h', toks := tk } ∧ Fr s₁.heap s₁.heap.objs.size h' (fun y => if y = Str.ofString "size" then some (.int x.length ts) else if y = Str.ofString "turned" then some (.str x tt) else if y = Str.ofString "seen" then some (.ref sl) else if y = Str.ofString "root" then some (.str r tr) else u y) ∧ News s₁.heap s₁.heap.objs.size h' [(sl, W.listOf #[] 0), (wx, instObj 357 wdx), (wdx, dictOf es n), (s₁.heap.objs.size + 1 + 1 + 1 + 1 + 1 + 1, o6), (s₁.heap.objs.size + 1 + 1 + 1 + 1 + 1, o5), (s₁.heap.objs.size + 1 + 1 + 1 + 1, o4), (s₁.heap.objs.size + 1 + 1 + 1, oW), (s₁.heap.objs.size + 1 + 1, oC), (s₁.heap.objs.size + 1, o1)]) [_] _ ?_ ?_
  · k_steps
    all_goals first
      | (rename Fr _ _ _ _ => Fz; rename News _ _ _ _ => Nz; exact ⟨rfl, _, _, _, _, _, rfl, Fz, cb_drop Nz (fun p h => by repeat (first | exact h | refine List.Mem.tail _ ?_))⟩)
      | (exfalso; omega)
  clear F N
  rintro s' ⟨h', tk, u, tt0, ts, rfl, F, N⟩
  refine cutN (fun s' => ∃ (h' : Heap) (tk : Nat) (u : Str → Option Value) (vs : List Value) (ne : Nat) (tt : Tok), s' = { s₁ with heap := h', toks := tk } ∧ Fr s₁.heap s₁.heap.objs.size h' (fun y => if y = Str.ofString "turned" then some (.str x tt) else if y = Str.ofString "seen" then some (.ref sl) else if y = Str.ofString "root" then some (.str r tr) else u y) ∧ News s₁.heap s₁.heap.objs.size h' [(sl, W.listOf vs.toArray ne), (wx, instObj 357 wdx), (wdx, dictOf es n), (s₁.heap.objs.size + 1 + 1 + 1 + 1 + 1 + 1, o6), (s₁.heap.objs.size + 1 + 1 + 1 + 1 + 1, o5), (s₁.heap.objs.size + 1 + 1 + 1 + 1, o4), (s₁.heap.objs.size + 1 + 1 + 1, oW), (s₁.heap.objs.size + 1 + 1, oC), (s₁.heap.objs.size + 1, o1)] ∧ vs.length = (root lx).length) [_] _ ?_ ?_
  · have hr1 : 1 ≤ r.length := by rw [hr, S_len]; exact (root_len Wx.1).1
    have hr6 : r.length ≤ 6 := by rw [hr, S_len]; exact Nat.le_trans (root_len Wx.1).2.1 Wx.2.1
    k_steps
    unfold Stop
    rename IsRange _ _ _ _ _ _ _ _ => Ra
    rename Fr _ _ _ _ => Fa
    rename News _ _ _ _ => Na
    refine range_inv [Str.ofString "turned", Str.ofString "back"] (fun i m₁ nx => (∃ tt, m₁ (Str.ofString "turned") = some (.str (S (rot lx i)) tt)) ∧ ∃ (vs : List Value) (ne : Nat), nx = (sl, W.listOf vs.toArray ne) :: [(wx, instObj 357 wdx), (wdx, dictOf es n), (s₁.heap.objs.size + 1 + 1 + 1 + 1 + 1 + 1, o6), (s₁.heap.objs.size + 1 + 1 + 1 + 1 + 1, o5), (s₁.heap.objs.size + 1 + 1 + 1 + 1, o4), (s₁.heap.objs.size + 1 + 1 + 1, oW), (s₁.heap.objs.size + 1 + 1, oC), (s₁.heap.objs.size + 1, o1)] ∧ SeenAre vs (seenAt lx i)) rfl Ra (small_one (by decide) (by decide) (by omega) (by omega)) (rangeSize_nat _ _) Fa Na ⟨⟨tt0, by rw [rot_zero, ← hx]; rfl⟩, [], 0, rfl, by rw [seen_zero]; exact .nil⟩ ?_ ?_
    · intro i t m₁ nx h9 tk9 own hin hoff hP hm F2 N2
      obtain ⟨⟨tt, ha⟩, vs, ne, hnx, hse⟩ := hP
      subst hnx
      rw [map_tb ha hm] at F2
      simp only [List.cons_append, List.nil_append] at N2
      have hil : i < lx.length := by omega
      clear hm Ra Fa Na
      have hU : ∀ p ∈ ((wx, instObj 357 wdx) :: (wdx, dictOf es n) :: (s₁.heap.objs.size + 1 + 1 + 1 + 1 + 1 + 1, o6) :: (s₁.heap.objs.size + 1 + 1 + 1 + 1 + 1, o5) :: (s₁.heap.objs.size + 1 + 1 + 1 + 1, o4) :: (s₁.heap.objs.size + 1 + 1 + 1, oW) :: (s₁.heap.objs.size + 1 + 1, oC) :: (s₁.heap.objs.size + 1, o1) :: own), p.1 ≠ sl := by
        intro p hp
        have hown := fun q hq => hoff q hq sl (by simp)
        simp only [List.mem_cons] at hp
        rcases hp with rfl | rfl | rfl | rfl | rfl | rfl | rfl | rfl | hp
        all_goals first | exact hown p hp | (refine neN ?_; dsimp only; omega)
      have hsl6 : vs.length ≤ 10 := by rw [hse.len]; have := seen_le Wx i; omega
      have hoks := seen_ok Wx.2.2 i
      have hok := strOk_S (rot_mem (t := i) Wx.2.2)
      refine cutN (fun s' => ∃ (h' : Heap) (tk : Nat) (vs' : List Value) (ne' : Nat), s' = { s₁ with heap := h', toks := tk } ∧ Fr s₁.heap s₁.heap.objs.size h' (fun q => if q = Str.ofString "turn" then some (.int (1 + (i : Int)) t) else if q = Str.ofString "turned" then some (.str (S (rot lx i)) tt) else if q = Str.ofString "back" then m₁ (Str.ofString "back") else if q = Str.ofString "size" then some (.int x.length ts) else if q = Str.ofString "turned" then some (.str x tt0) else if q = Str.ofString "seen" then some (.ref sl) else if q = Str.ofString "root" then some (.str r tr) else u q) ∧ News s₁.heap s₁.heap.objs.size h' ((sl, W.listOf vs'.toArray ne') :: (wx, instObj 357 wdx) :: (wdx, dictOf es n) :: (s₁.heap.objs.size + 1 + 1 + 1 + 1 + 1 + 1, o6) :: (s₁.heap.objs.size + 1 + 1 + 1 + 1 + 1, o5) :: (s₁.heap.objs.size + 1 + 1 + 1 + 1, o4) :: (s₁.heap.objs.size + 1 + 1 + 1, oW) :: (s₁.heap.objs.size + 1 + 1, oC) :: (s₁.heap.objs.size + 1, o1) :: own) ∧ SeenAre vs' (seenAt lx (i + 1))) [_] _ ?_ ?_
      · by_cases hc : i < (root lx).length
        · obtain ⟨hn1, hn2⟩ := seen_new Wx.1 hil hc
          k_steps
          rename Fr _ _ _ _ => Fz
          rename News _ _ _ _ => Nz
          exact ⟨rfl, _, _, vs ++ [Value.str (S (rot lx i)) tt], ne + 1, rfl, Fz, Nz, by rw [hn2]; exact hse.snoc⟩
        · obtain ⟨hn1, hn2⟩ := seen_old Wx.1 hil hc
          k_steps
          rename Fr _ _ _ _ => Fz
          rename News _ _ _ _ => Nz
          exact ⟨rfl, _, _, vs, ne, rfl, Fz, Nz, by rw [hn2]; exact hse⟩
      · clear F2 N2 hse hoks hok hU hsl6 ha hoff
        rintro s' ⟨h', tk, vs', ne', rfl, F, N, hse⟩
        have hR : S (rot lx i) = S (rot lx i) := rfl
        have hRl : (S (rot lx i)).length = lx.length := by rw [S_len, rot_len (by omega)]
        have hR2 : (rep (2 : Int).toNat (rot lx i)).length = 2 * lx.length := by rw [rep_len, rot_len (by omega)]; rfl
        have h02 : (0 : Int) ≤ 2 := by decide
        refine cutN (fun s' => ∃ (h' : Heap) (tk : Nat) (z : Str) (tz : Tok), s' = { s₁ with heap := h', toks := tk } ∧ Fr s₁.heap s₁.heap.objs.size h' (fun q9 => if q9 = Str.ofString "turned" then some (.str z tz) else (fun q => if q = Str.ofString "turn" then some (.int (1 + (i : Int)) t) else if q = Str.ofString "turned" then some (.str (S (rot lx i)) tt) else if q = Str.ofString "back" then m₁ (Str.ofString "back") else if q = Str.ofString "size" then some (.int x.length ts) else if q = Str.ofString "turned" then some (.str x tt0) else if q = Str.ofString "seen" then some (.ref sl) else if q = Str.ofString "root" then some (.str r tr) else u q) q9) ∧ News s₁.heap s₁.heap.objs.size h' ((sl, W.listOf vs'.toArray ne') :: (wx, instObj 357 wdx) :: (wdx, dictOf es n) :: (s₁.heap.objs.size + 1 + 1 + 1 + 1 + 1 + 1, o6) :: (s₁.heap.objs.size + 1 + 1 + 1 + 1 + 1, o5) :: (s₁.heap.objs.size + 1 + 1 + 1 + 1, o4) :: (s₁.heap.objs.size + 1 + 1 + 1, oW) :: (s₁.heap.objs.size + 1 + 1, oC) :: (s₁.heap.objs.size + 1, o1) :: own) ∧ z = S (rot lx (i + 1))) [_] _ ?_ ?_
        · k_steps
          rename Fr _ _ _ _ => Fz
          rename News _ _ _ _ => Nz
          rename (_ = S (List.take _ _)) => ez
          rw [step_is hxl hil] at ez
          exact ⟨rfl, _, _, _, _, rfl, Fz, cb_drop Nz (fun p h => by repeat (first | exact h | refine List.Mem.tail _ ?_)), ez⟩
        clear F N hR hRl hR2
        rintro s' ⟨h', tk, z, tz, rfl, F, N, hz⟩
        have hzl : z.length = lx.length := by rw [len_of hz, rot_len (by omega)]
        refine cutN (fun s' => ∃ (h' : Heap) (tk : Nat) (tz : Tok), s' = { s₁ with heap := h', toks := tk } ∧ Fr s₁.heap s₁.heap.objs.size h' (fun q9 => if q9 = Str.ofString "turned" then some (.str z tz) else (fun q => if q = Str.ofString "turn" then some (.int (1 + (i : Int)) t) else if q = Str.ofString "turned" then some (.str (S (rot lx i)) tt) else if q = Str.ofString "back" then m₁ (Str.ofString "back") else if q = Str.ofString "size" then some (.int x.length ts) else if q = Str.ofString "turned" then some (.str x tt0) else if q = Str.ofString "seen" then some (.ref sl) else if q = Str.ofString "root" then some (.str r tr) else u q) q9) ∧ News s₁.heap s₁.heap.objs.size h' ((sl, W.listOf vs'.toArray ne') :: (wx, instObj 357 wdx) :: (wdx, dictOf es n) :: (s₁.heap.objs.size + 1 + 1 + 1 + 1 + 1 + 1, o6) :: (s₁.heap.objs.size + 1 + 1 + 1 + 1 + 1, o5) :: (s₁.heap.objs.size + 1 + 1 + 1 + 1, o4) :: (s₁.heap.objs.size + 1 + 1 + 1, oW) :: (s₁.heap.objs.size + 1 + 1, oC) :: (s₁.heap.objs.size + 1, o1) :: own)) [_] _ ?_ ?_
        · have hsl := turn_sl (i := i) hx
          have hn : (z != (Txt.slice x (some (1 + (i : Int))) none ++ Txt.slice x none (some (1 + (i : Int))))) = false := by rw [hsl, hz]; simp
          have hq := turn_q Wx.1 hil hx hz hr
          k_steps
          all_goals first
            | (rename Fr _ _ _ _ => Fz; rename News _ _ _ _ => Nz; exact ⟨rfl, _, _, _, rfl, Fz, cb_drop Nz (fun p h => by repeat (first | exact h | refine List.Mem.tail _ ?_))⟩)
            | (exfalso; exact Bool.false_ne_true (hn.symm.trans (by assumption)))
            | (exfalso; exact Bool.false_ne_true (hq.symm.trans (by assumption)))
        clear F N
        rintro s' ⟨h', tk, tz, rfl, F, N⟩
        have hrv : lx.reverse.length = lx.length := List.length_reverse
        have hrv2 : (rep (2 : Int).toNat lx.reverse).length = 2 * lx.length := by rw [rep_len, List.length_reverse]; rfl
        refine cutN (fun s' => ∃ (h' : Heap) (tk : Nat) (zb : Str) (tb tz : Tok), s' = { s₁ with heap := h', toks := tk } ∧ Fr s₁.heap s₁.heap.objs.size h' (fun p9 => if p9 = Str.ofString "back" then some (.str zb tb) else (fun q9 => if q9 = Str.ofString "turned" then some (.str z tz) else (fun q => if q = Str.ofString "turn" then some (.int (1 + (i : Int)) t) else if q = Str.ofString "turned" then some (.str (S (rot lx i)) tt) else if q = Str.ofString "back" then m₁ (Str.ofString "back") else if q = Str.ofString "size" then some (.int x.length ts) else if q = Str.ofString "turned" then some (.str x tt0) else if q = Str.ofString "seen" then some (.ref sl) else if q = Str.ofString "root" then some (.str r tr) else u q) q9) p9) ∧ News s₁.heap s₁.heap.objs.size h' ((sl, W.listOf vs'.toArray ne') :: (wx, instObj 357 wdx) :: (wdx, dictOf es n) :: (s₁.heap.objs.size + 1 + 1 + 1 + 1 + 1 + 1, o6) :: (s₁.heap.objs.size + 1 + 1 + 1 + 1 + 1, o5) :: (s₁.heap.objs.size + 1 + 1 + 1 + 1, o4) :: (s₁.heap.objs.size + 1 + 1 + 1, oW) :: (s₁.heap.objs.size + 1 + 1, oC) :: (s₁.heap.objs.size + 1, o1) :: own) ∧ zb = S (rot lx (i + 1)).reverse) [_] _ ?_ ?_
        · k_steps
          rename Fr _ _ _ _ => Fz
          rename News _ _ _ _ => Nz
          rename (_ = S (List.take _ _)) => ez
          rw [back_is hxl hil] at ez
          exact ⟨rfl, _, _, _, _, _, rfl, Fz, cb_drop Nz (fun p h => by repeat (first | exact h | refine List.Mem.tail _ ?_)), ez⟩
        clear F N hrv hrv2
        rintro s' ⟨h', tk, zb, tb, tz, rfl, F, N, hzb⟩
        k_steps
        · exfalso
          rename (bne _ _ = true) => hbne
          rename (_ = S (List.reverse _)) => ez
          rw [ez, hzb] at hbne
          simp at hbne
        · unfold Stop
          rename Fr _ _ _ _ => Fz
          rename News _ _ _ _ => Nz
          refine InvEndN.intro Fz Nz ⟨⟨⟨tz, by rw [hz]; rfl⟩, vs', ne', rfl, hse⟩, ?_⟩ rfl (sub_cons (by k_mem) (sub_cons (by k_mem) (sub_cons (by k_mem) (sub_cons (by k_mem) (sub_cons (by k_mem) (sub_cons (by k_mem) (sub_cons (by k_mem) (sub_cons (by k_mem) (sub_cons (by k_mem) sub_nil))))))))) (fun p h => by repeat (first | exact h | refine List.Mem.tail _ ?_))
          intro q h1 h2
          have h3 : q ≠ Str.ofString "turned" := by intro e; rw [e] at h2; exact absurd h2 (by decide +kernel)
          have h4 : q ≠ Str.ofString "back" := by intro e; rw [e] at h2; exact absurd h2 (by decide +kernel)
          simp only [if_neg h4, if_neg h3, if_neg h1]
    · intro m₁ nx h9 tk9 hP hm F2 N2
      obtain ⟨⟨tt, ha⟩, vs, ne, hnx, hse⟩ := hP
      subst hnx
      have hn : (((x.length : Int) + 1 - 1).toNat) = lx.length := by omega
      rw [hn] at hse
      rw [hn, rot_full, ← hx] at ha
      have hroot : m₁ (Str.ofString "root") = some (.str r tr) := (hm _ (by decide) (by decide +kernel)).trans rfl
      have hseen : m₁ (Str.ofString "seen") = some (.ref sl) := (hm _ (by decide) (by decide +kernel)).trans rfl
      clear Ra Fa Na hm
      k_steps
      exact ⟨rfl, _, _, _, vs, ne, tt, rfl, fr_keep (fr_keep (fr_keep F2 hroot) ((if_neg (by decide)).trans hseen)) ((if_neg (by decide)).trans ((if_neg (by decide)).trans ha)), N2, by rw [hse.len]; exact seen_len Wx.1⟩
  clear F N
  rintro s' ⟨h', tk, u, vs, ne, tt, rfl, F, N, hvl⟩
  have hr1 : 1 ≤ r.length := by rw [hr, S_len]; exact (root_len Wx.1).1
  have hr6 : r.length ≤ 6 := by rw [hr, S_len]; exact Nat.le_trans (root_len Wx.1).2.1 Wx.2.1
  have hrl : r.length = (root lx).length := by rw [hr]; exact S_len _
  have hvs : vs.toArray.size = r.length := by rw [List.size_toArray, hvl, hrl]
  have hxx : (x == x) = true := by simp
  k_steps
end
end Mine

theorem PySem.Challenge.cw_tk0107_01_holds : PySem.Challenge.rw_tk0107_01.Holds := by
  exact Mine.m1
