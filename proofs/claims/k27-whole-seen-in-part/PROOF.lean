import PyProof.Rows.All
import Wide.All
import OpenK.AllK
import Wide.FinOn
import KE.GoesMore
import KE.KRevSl
import HandS.ForMost
import HandS.Wide
import HandS.WideBits
import HandS.IsInst
import HandS.TupAny
import HandS.TupMul
import HandS.Style
import HandS.CallLocal
import HandS.Defaults
import HandS.More
import HandS.OwnEq
import HandS.Walk
import HandS.HeadHook1
import HandS.HeadHook2
import HandS.HeadHook3
import HandS.HeadHook4
import PyProof.LongRange
import HandS.Evl
import KE.KStateDown
import Lean
import HandS.Head0
import HandS.Head1
import HandS.Head2
import HandS.EndBits
import HandS.HeadEnd
import HandS.HeadWalk
import PySem.Challenge.RW_stripelay_k27_whole_seen_in_part
set_option linter.all false
namespace SL
section
variable {α : Type} [DecidableEq α] [Inhabited α]

def at_ (t : List α) (i : Nat) : α := t.getD i default
def per (t : List α) (d : Nat) : Bool := decide (t.drop d = t.take (t.length - d))
def lrTest (t : List α) (d : Nat) : Bool := decide (t.length % d = 0) && per t d
def lr (t : List α) : Nat := ((List.range' 1 (t.length - 1)).find? (lrTest t)).getD t.length
def cy (t : List α) (i : Int) : α := at_ t (i % (t.length : Int)).toNat
def ds (t : List α) (most : Nat) : List Nat := (List.range' 1 most).filter fun d => per t d && decide (lr (t.take d) = d)
def win (t : List α) (b : Int) (n : Nat) : List α := (List.range n).map fun i : Nat => cy t (b + (i : Int))
def P (t : List α) (d : Int) : Prop := ∀ i : Int, cy t (i + d) = cy t i

theorem at_get {t : List α} {i : Nat} (h : i < t.length) : t[i]? = some (at_ t i) := by
  unfold at_
  rw [List.getD_eq_getElem?_getD, List.getElem?_eq_getElem h]
  rfl
theorem at_of {t : List α} {i : Nat} {x : α} (h : t[i]? = some x) : at_ t i = x := by
  unfold at_
  rw [List.getD_eq_getElem?_getD, h]
  rfl
theorem ext_at {s t : List α} (hl : s.length = t.length) (h : ∀ i, i < s.length → at_ s i = at_ t i) : s = t := by
  apply List.ext_getElem? 
  intro i
  by_cases hi : i < s.length
  · rw [at_get hi, at_get (hl ▸ hi), h i hi]
  · rw [List.getElem?_eq_none (by omega), List.getElem?_eq_none (by omega)]
theorem at_take {t : List α} {i n : Nat} (h : i < n) : at_ (t.take n) i = at_ t i := by
  unfold at_
  rw [List.getD_eq_getElem?_getD, List.getD_eq_getElem?_getD, List.getElem?_take_of_lt h]
theorem at_drop (t : List α) (i n : Nat) : at_ (t.drop n) i = at_ t (n + i) := by
  unfold at_
  rw [List.getD_eq_getElem?_getD, List.getD_eq_getElem?_getD, List.getElem?_drop]
theorem at_map_range {n : Nat} {f : Nat → α} {i : Nat} (h : i < n) : at_ ((List.range n).map f) i = f i := by
  apply at_of
  rw [List.getElem?_map, List.getElem?_range h]
  rfl
theorem win_length (t : List α) (b : Int) (n : Nat) : (win t b n).length = n := by
  unfold win
  rw [List.length_map, List.length_range]
theorem at_win {t : List α} {b : Int} {n i : Nat} (h : i < n) : at_ (win t b n) i = cy t (b + (i : Int)) := at_map_range h
theorem win_take {t : List α} {b : Int} {n m : Nat} (h : m ≤ n) : (win t b n).take m = win t b m := by
  apply ext_at
  · rw [List.length_take, win_length, win_length]
    omega
  · intro i hi
    rw [List.length_take, win_length] at hi
    rw [at_take (by omega), at_win (by omega), at_win (by omega)]
theorem win_append (t : List α) (b : Int) (n m : Nat) : win t b n ++ win t (b + (n : Int)) m = win t b (n + m) := by
  apply ext_at
  · rw [List.length_append, win_length, win_length, win_length]
  · intro i hi
    rw [List.length_append, win_length, win_length] at hi
    by_cases h : i < n
    · have e : at_ (win t b n ++ win t (b + (n : Int)) m) i = at_ (win t b n) i := by
        apply at_of
        rw [List.getElem?_append_left (by rw [win_length]; exact h)]
        exact at_get (by rw [win_length]; exact h)
      rw [e, at_win h, at_win hi]
    · have e : at_ (win t b n ++ win t (b + (n : Int)) m) i = at_ (win t (b + (n : Int)) m) (i - n) := by
        apply at_of
        rw [List.getElem?_append_right (by rw [win_length]; omega), win_length]
        exact at_get (by rw [win_length]; omega)
      rw [e, at_win (by omega), at_win hi]
      congr 1
      omega

/-! ### going round -/
theorem cy_at {t : List α} {i : Nat} (h : i < t.length) : cy t (i : Int) = at_ t i := by
  unfold cy
  rw [Int.emod_eq_of_lt (by omega) (by omega)]
  rfl
theorem cy_len (t : List α) (i : Int) : cy t (i + (t.length : Int)) = cy t i := by
  unfold cy
  rw [Int.add_emod_right]
theorem cy_emod (t : List α) (i : Int) : cy t (i % (t.length : Int)) = cy t i := by
  unfold cy
  rw [Int.emod_emod]
theorem P_len (t : List α) : P t (t.length : Int) := cy_len t
theorem P_zero (t : List α) : P t 0 := fun i => by rw [Int.add_zero]
theorem P_add {t : List α} {a b : Int} (ha : P t a) (hb : P t b) : P t (a + b) := fun i => by
  rw [← Int.add_assoc, hb (i + a), ha i]
theorem P_neg {t : List α} {a : Int} (ha : P t a) : P t (-a) := fun i => by
  have h := ha (i + -a)
  rw [show i + -a + a = i by omega] at h
  exact h.symm
theorem P_mul {t : List α} {a : Int} (ha : P t a) (n : Nat) : P t (a * (n : Int)) := by
  induction n with
  | zero => rw [show a * ((0 : Nat) : Int) = 0 by simp]; exact P_zero t
  | succ n ih =>
    rw [show a * ((n + 1 : Nat) : Int) = a * (n : Int) + a by rw [Int.natCast_succ, Int.mul_add, Int.mul_one]]
    exact P_add ih ha
theorem P_mulI {t : List α} {a : Int} (ha : P t a) (q : Int) : P t (a * q) := by
  rcases Int.eq_nat_or_neg q with ⟨n, e | e⟩
  · rw [e]; exact P_mul ha n
  · rw [e, Int.mul_neg]; exact P_neg (P_mul ha n)
theorem P_mod {t : List α} {a b : Int} (ha : P t a) (hb : P t b) : P t (a % b) := by
  rw [Int.emod_def]
  rw [Int.sub_eq_add_neg]
  exact P_add ha (P_neg (P_mulI hb _))
theorem P_gcd {t : List α} : ∀ (a b : Nat), P t (a : Int) → P t (b : Int) → P t ((Nat.gcd a b : Nat) : Int) := by
  intro a b
  induction a, b using Nat.gcd.induction with
  | H0 n => intro _ hb; rw [Nat.gcd_zero_left]; exact hb
  | H1 m n hm ih =>
    intro ha hb
    rw [Nat.gcd_rec]
    refine ih ?_ ha
    rw [Int.natCast_emod]
    exact P_mod hb ha
theorem cy_P_emod {t : List α} {d : Nat} (h : P t (d : Int)) (i : Int) : cy t (i % (d : Int)) = cy t i := by
  rw [Int.emod_def, Int.sub_eq_add_neg]
  exact P_neg (P_mulI h _) i

theorem per_iff {t : List α} {d : Nat} : per t d = true ↔ ∀ i, i + d < t.length → at_ t i = at_ t (i + d) := by
  unfold per
  rw [decide_eq_true_eq]
  constructor
  · intro e i hi
    have h1 : at_ (t.drop d) i = at_ (t.take (t.length - d)) i := by rw [e]
    rw [at_drop, at_take (by omega)] at h1
    rw [← h1, Nat.add_comm]
  · intro h
    apply ext_at
    · rw [List.length_drop, List.length_take]; omega
    · intro i hi
      rw [List.length_drop] at hi
      rw [at_drop, at_take (by omega), h i (by omega), Nat.add_comm]
theorem per_of_P {t : List α} {d : Nat} (h : P t (d : Int)) : per t d = true := per_iff.mpr fun i hi => by
  rw [← cy_at (by omega), ← cy_at hi, Int.natCast_add, h]
theorem per_mod {t : List α} {d : Nat} (hd : 0 < d) (h : per t d = true) : ∀ i, i < t.length → at_ t i = at_ t (i % d) := by
  intro i
  induction i using Nat.strongRecOn with
  | ind i ih =>
    intro hi
    by_cases hlt : i < d
    · rw [Nat.mod_eq_of_lt hlt]
    · have e := per_iff.mp h (i - d) (by omega)
      rw [show i - d + d = i by omega] at e
      rw [← e, ih (i - d) (by omega) (by omega)]
      congr 1
      conv => rhs; rw [show i = i - d + d by omega]
      rw [Nat.add_mod_right]
theorem P_of_per {t : List α} {d : Nat} (hd : 0 < d) (hv : d ∣ t.length) (h : per t d = true) : P t (d : Int) := by
  by_cases hn : t.length = 0
  · intro i
    unfold cy
    have e : t = [] := List.eq_nil_of_length_eq_zero hn
    subst e
    rfl
  -- cy t i = at (i % d)
  have key : ∀ i : Int, cy t i = at_ t (i % (d : Int)).toNat := fun i => by
    unfold cy
    have h0 : 0 ≤ i % (t.length : Int) := Int.emod_nonneg _ (by omega)
    have h1 : i % (t.length : Int) < (t.length : Int) := Int.emod_lt_of_pos _ (by omega)
    rw [per_mod hd h _ (by omega)]
    congr 1
    have h2 : (((i % (t.length : Int)).toNat % d : Nat) : Int) = i % (d : Int) := by
      rw [Int.natCast_emod, Int.toNat_of_nonneg h0]
      exact Int.emod_emod_of_dvd i (by exact Int.natCast_dvd_natCast.mpr hv)
    omega
  intro i
  rw [key, key, Int.add_emod_right]

/-! ### the least round -/
theorem lr_spec {t : List α} (h0 : 0 < t.length) : 1 ≤ lr t ∧ lr t ≤ t.length ∧ lr t ∣ t.length ∧ per t (lr t) = true ∧ ∀ d, 1 ≤ d → d < lr t → d ∣ t.length → per t d = false := by
  unfold lr
  cases e : (List.range' 1 (t.length - 1)).find? (lrTest t) with
  | none =>
    dsimp only [Option.getD]
    refine ⟨h0, Nat.le_refl _, Nat.dvd_refl _, per_iff.mpr fun i hi => by omega, fun d h1 h2 hv => ?_⟩
    have q := List.find?_eq_none.mp e d (List.mem_range'_1.mpr (by omega))
    unfold lrTest at q
    rw [decide_eq_true (Nat.mod_eq_zero_of_dvd hv), Bool.true_and] at q
    exact Bool.eq_false_iff.mpr q
  | some s =>
    dsimp only [Option.getD]
    have hm := List.mem_range'_1.mp (List.mem_of_find?_eq_some e)
    have hp := List.find?_some e
    unfold lrTest at hp
    obtain ⟨p1, p2⟩ := Bool.and_eq_true_iff.mp hp
    refine ⟨by omega, by omega, Nat.dvd_of_mod_eq_zero (of_decide_eq_true p1), p2, fun d h1 h2 hv => ?_⟩
    obtain ⟨_, as, bs, hab, hno⟩ := List.find?_eq_some_iff_append.mp e
    -- d stands ahead of s
    have hdm : d ∈ List.range' 1 (t.length - 1) := List.mem_range'_1.mpr (by omega)
    rw [hab] at hdm
    have hpw : List.Pairwise (· < ·) (as ++ s :: bs) := by
      rw [← hab]; exact List.pairwise_lt_range'
    have hda : d ∈ as := by
      rcases List.mem_append.mp hdm with z | z
      · exact z
      · rcases List.mem_cons.mp z with z | z
        · omega
        · have := (List.pairwise_cons.mp (List.pairwise_append.mp hpw).2.1).1 d z
          omega
    have q := hno d hda
    unfold lrTest at q
    rw [decide_eq_true (Nat.mod_eq_zero_of_dvd hv), Bool.true_and] at q
    simpa using q
theorem lr_P {t : List α} (h0 : 0 < t.length) : P t (lr t : Int) :=
  let ⟨h1, _, h3, h4, _⟩ := lr_spec h0
  P_of_per (by omega) h3 h4
theorem lr_dvd {t : List α} (h0 : 0 < t.length) {d : Nat} (h : P t (d : Int)) : lr t ∣ d := by
  obtain ⟨h1, h2, h3, h4, h5⟩ := lr_spec h0
  have g := P_gcd (lr t) d (lr_P h0) h
  have gd : Nat.gcd (lr t) d ∣ lr t := Nat.gcd_dvd_left _ _
  have gp : 1 ≤ Nat.gcd (lr t) d := Nat.gcd_pos_of_pos_left _ (by omega)
  have gl : Nat.gcd (lr t) d ≤ lr t := Nat.le_of_dvd (by omega) gd
  by_cases q : Nat.gcd (lr t) d < lr t
  · have z := h5 _ gp q (Nat.dvd_trans gd h3)
    rw [per_of_P g] at z
    cases z
  · have e : Nat.gcd (lr t) d = lr t := by omega
    rw [← e]
    exact Nat.gcd_dvd_right _ _
/-- a list that goes round as w does, shifted, and is as long as w's least round -/
theorem prim_of_shift {k w : List α} {b : Int} (hw : 0 < w.length) (hl : k.length = lr w) (h : ∀ i, cy k i = cy w (i + b)) : lr k = k.length := by
  obtain ⟨h1, _, _, _, _⟩ := lr_spec hw
  have hk : 0 < k.length := by omega
  have hp : P w (lr k : Int) := fun i => by
    have e := lr_P hk (i - b)
    rw [h, h] at e
    rw [show i - b + (lr k : Int) + b = i + (lr k : Int) by omega, show i - b + b = i by omega] at e
    exact e
  have hv := lr_dvd hw hp
  obtain ⟨k1, k2, _, _, _⟩ := lr_spec hk
  have := Nat.le_of_dvd (by omega) hv
  omega
theorem cy_win {w : List α} {b : Int} {s : Nat} (hs : 0 < s) (hp : P w (s : Int)) (i : Int) : cy (win w b s) i = cy w (i + b) := by
  unfold cy
  rw [win_length]
  have h0 : 0 ≤ i % (s : Int) := Int.emod_nonneg _ (by omega)
  have h1 : i % (s : Int) < (s : Int) := Int.emod_lt_of_pos _ (by omega)
  rw [at_win (by omega), Int.toNat_of_nonneg h0]
  show cy w (b + i % (s : Int)) = cy w (i + b)
  rw [Int.emod_def]
  rw [show b + (i - (s : Int) * (i / (s : Int))) = (i + b) + -((s : Int) * (i / (s : Int))) by omega]
  exact P_neg (P_mulI hp _) _
/-- what Row's __init__ keeps -/
theorem prim_kept {w : List α} {b : Int} (hw : 0 < w.length) : lr (win w b (lr w)) = (win w b (lr w)).length :=
  prim_of_shift hw (win_length _ _ _) fun i => cy_win (by have := (lr_spec hw).1; omega) (lr_P hw) i
theorem prim_win {k : List α} {b : Int} (hk : 0 < k.length) (hp : lr k = k.length) : lr (win k b k.length) = k.length := by
  have h := prim_kept (b := b) hk
  rw [hp, win_length] at h
  exact h
theorem lr_take {t : List α} (h0 : 0 < t.length) : lr (t.take (lr t)) = lr t := by
  obtain ⟨h1, h2, _, _, _⟩ := lr_spec h0
  have e : t.take (lr t) = win t 0 (lr t) := by
    apply ext_at
    · rw [List.length_take, win_length]; omega
    · intro i hi
      rw [List.length_take] at hi
      rw [at_take (by omega), at_win (by omega), Int.zero_add, cy_at (by omega)]
  rw [e, prim_kept h0, win_length]

/-! ### the rows that a piece can be -/
theorem mem_ds {t : List α} {most d : Nat} : d ∈ ds t most ↔ (1 ≤ d ∧ d ≤ most) ∧ per t d = true ∧ lr (t.take d) = d := by
  unfold ds
  rw [List.mem_filter, List.mem_range'_1, Bool.and_eq_true_iff, decide_eq_true_eq]
  constructor
  · rintro ⟨h, h2⟩; exact ⟨by omega, h2⟩
  · rintro ⟨h, h2⟩; exact ⟨by omega, h2⟩
theorem ds_lt (t : List α) (most : Nat) : (ds t most).Pairwise (· < ·) := List.Pairwise.filter _ List.pairwise_lt_range'
theorem ds_succ (t : List α) (most : Nat) : ds t (most + 1) = ds t most ++ (if per t (most + 1) && decide (lr (t.take (most + 1)) = most + 1) then [most + 1] else []) := by
  unfold ds
  rw [List.range'_1_concat, List.filter_append, Nat.add_comm 1 most, List.filter_cons, List.filter_nil]
/-- the row at hand is among them -/
theorem self_mem {k : List α} {b : Int} {m most : Nat} (hk : 0 < k.length) (hp : lr k = k.length) (h1 : k.length ≤ most) (h2 : k.length ≤ m) : k.length ∈ ds (win k b m) most := by
  refine mem_ds.mpr ⟨⟨hk, h1⟩, per_iff.mpr fun i hi => ?_, ?_⟩
  · rw [win_length] at hi
    rw [at_win (by omega), at_win hi, Int.natCast_add, ← Int.add_assoc, cy_len]
  · rw [win_take h2, prim_win hk hp]
theorem longer_mem {p l : List α} {most d : Nat} (h1 : most ≤ p.length) (h : d ∈ ds (p ++ l) most) : d ∈ ds p most ∧ (p ++ l).take d = p.take d := by
  obtain ⟨⟨a, b⟩, c, e⟩ := mem_ds.mp h
  have et : (p ++ l).take d = p.take d := List.take_append_of_le_length (by omega)
  refine ⟨mem_ds.mpr ⟨⟨a, b⟩, per_iff.mpr fun i hi => ?_, by rw [← et]; exact e⟩, et⟩
  have q := per_iff.mp c i (by rw [List.length_append]; omega)
  have g : ∀ j, j < p.length → at_ (p ++ l) j = at_ p j := fun j hj => at_of (by rw [List.getElem?_append_left hj]; exact at_get hj)
  rw [g _ (by omega), g _ hi] at q
  exact q
theorem ds_len_mono {t : List α} {a b : Nat} (h : a ≤ b) : (ds t a).length ≤ (ds t b).length := by
  induction b with
  | zero => rw [show a = 0 by omega]; exact Nat.le_refl _
  | succ b ih =>
    by_cases e : a = b + 1
    · rw [e]; exact Nat.le_refl _
    · rw [ds_succ, List.length_append]
      have := ih (by omega)
      omega
/-- the piece is shown by each of them -/
theorem shown {t : List α} {most d : Nat} (hm : most ≤ t.length) (h : d ∈ ds t most) : win (t.take d) 0 t.length = t := by
  obtain ⟨⟨a, b⟩, c, _⟩ := mem_ds.mp h
  have hl : (t.take d).length = d := by rw [List.length_take]; omega
  apply ext_at
  · rw [win_length]
  · intro i hi
    rw [win_length] at hi
    rw [at_win hi, Int.zero_add]
    unfold cy
    rw [hl]
    have e : ((i : Int) % (d : Int)).toNat = i % d := by
      rw [← Int.natCast_emod]; rfl
    rw [e, at_take (Nat.mod_lt _ (by omega)), ← per_mod (by omega) c i hi]

/-! ### the longest agreement -/
def laStep (k : List α) (far : Nat) (st : Nat × Nat) (s : Nat) : Nat × Nat := if cy k (s : Int) = cy k ((s : Int) + (far : Int)) then (max st.1 (st.2 + 1), st.2 + 1) else (st.1, 0)
def laAt (k : List α) (far n : Nat) : Nat × Nat := (List.range n).foldl (laStep k far) (0, 0)
def la (k : List α) (far : Nat) : Nat := (laAt k far (2 * k.length)).1
theorem laAt_succ (k : List α) (far n : Nat) : laAt k far (n + 1) = laStep k far (laAt k far n) n := by
  unfold laAt
  rw [List.range_succ, List.foldl_append]
  rfl
def Ag (k : List α) (far : Nat) (q l : Nat) : Prop := ∀ i, i < l → cy k ((q + i : Nat) : Int) = cy k (((q + i : Nat) : Int) + (far : Int))
structure LaInv (k : List α) (far s : Nat) (st : Nat × Nat) : Prop where
  up : ∀ q l, q + l ≤ s → Ag k far q l → l ≤ st.1
  hup : ∀ l, l ≤ s → Ag k far (s - l) l → l ≤ st.2
  hle : st.2 ≤ s
  hat : Ag k far (s - st.2) st.2
  got : ∃ q, q + st.1 ≤ s ∧ Ag k far q st.1
theorem la_inv (k : List α) (far : Nat) : ∀ s, LaInv k far s (laAt k far s) := by
  intro s
  induction s with
  | zero =>
    refine ⟨fun q l h _ => ?_, fun l h _ => ?_, Nat.le_refl _, fun i hi => ?_, 0, Nat.le_refl _, fun i hi => ?_⟩
    · show l ≤ 0; omega
    · show l ≤ 0; omega
    · exact absurd (show i < 0 from hi) (Nat.not_lt_zero _)
    · exact absurd (show i < 0 from hi) (Nat.not_lt_zero _)
  | succ s ih =>
    obtain ⟨up, hup, hle, hat, q0, hq0, hg⟩ := ih
    rw [laAt_succ]
    generalize laAt k far s = st at *
    unfold laStep
    by_cases e : cy k (s : Int) = cy k ((s : Int) + (far : Int))
    · rw [if_pos e]
      have hh : Ag k far (s + 1 - (st.2 + 1)) (st.2 + 1) := by
        intro i hi
        rw [show s + 1 - (st.2 + 1) = s - st.2 by omega]
        by_cases z : i < st.2
        · exact hat i z
        · rw [show s - st.2 + i = s by omega]; exact e
      refine ⟨fun q l h hA => ?_, fun l h hA => ?_, Nat.succ_le_succ hle, hh, ?_⟩
      · show l ≤ max st.1 (st.2 + 1)
        by_cases z : q + l ≤ s
        · have := up q l z hA; omega
        · have e2 : q = s + 1 - l := by omega
          have : l - 1 ≤ st.2 := hup (l - 1) (by omega) fun i hi => by
            have := hA i (by omega)
            rw [show s - (l - 1) + i = q + i by omega]; exact this
          omega
      · show l ≤ st.2 + 1
        have : l - 1 ≤ st.2 := hup (l - 1) (by omega) fun i hi => by
          have := hA i (by omega)
          rw [show s - (l - 1) + i = s + 1 - l + i by omega]; exact this
        omega
      · show ∃ q, q + max st.1 (st.2 + 1) ≤ s + 1 ∧ Ag k far q (max st.1 (st.2 + 1))
        by_cases z : st.1 ≤ st.2 + 1
        · rw [Nat.max_eq_right z]
          exact ⟨s + 1 - (st.2 + 1), by omega, hh⟩
        · rw [Nat.max_eq_left (by omega)]
          exact ⟨q0, by omega, hg⟩
    · rw [if_neg e]
      refine ⟨fun q l h hA => ?_, fun l h hA => ?_, Nat.zero_le _, fun i hi => absurd hi (Nat.not_lt_zero _), q0, Nat.le_succ_of_le hq0, hg⟩
      · show l ≤ st.1
        by_cases z : q + l ≤ s
        · exact up q l z hA
        · by_cases l0 : l = 0
          · omega
          · have := hA (s - q) (by omega)
            rw [show q + (s - q) = s by omega] at this
            exact absurd this e
      · show l ≤ 0
        by_cases l0 : l = 0
        · omega
        · have := hA (l - 1) (by omega)
          rw [show s + 1 - l + (l - 1) = s by omega] at this
          exact absurd this e
theorem la_le (k : List α) (far : Nat) : la k far ≤ 2 * k.length := by
  obtain ⟨q, h, _⟩ := (la_inv k far (2 * k.length)).got
  unfold la
  omega
/-- an agreement anywhere is no longer -/
theorem la_up {k : List α} {far : Nat} (hk : 0 < k.length) (hp : lr k = k.length) (hf : far % k.length ≠ 0) {p : Int} {l : Nat} (h : ∀ i : Nat, i < l → cy k (p + (i : Int)) = cy k (p + (i : Int) + (far : Int))) : l ≤ la k far := by
  -- somewhere they differ
  have hno : ¬ P k (far : Int) := fun hP => hf (Nat.mod_eq_zero_of_dvd (by rw [← hp]; exact lr_dvd hk hP))
  have hlt : l < k.length := by
    refine Nat.lt_of_not_le fun hge => hno fun j => ?_
    -- j is p + i for some i < k.length, by rounds
    have h0 : 0 ≤ (j - p) % (k.length : Int) := Int.emod_nonneg _ (by omega)
    have h1 : (j - p) % (k.length : Int) < (k.length : Int) := Int.emod_lt_of_pos _ (by omega)
    have e := h ((j - p) % (k.length : Int)).toNat (by omega)
    rw [Int.toNat_of_nonneg h0] at e
    have hd : p + (j - p) % (k.length : Int) = j + (k.length : Int) * (-((j - p) / (k.length : Int))) := by
      rw [Int.emod_def, Int.mul_neg]; omega
    rw [hd] at e
    have e1 := P_mulI (P_len k) (-((j - p) / (k.length : Int))) j
    have e2 := P_mulI (P_len k) (-((j - p) / (k.length : Int))) (j + (far : Int))
    rw [e1, show j + (k.length : Int) * (-((j - p) / (k.length : Int))) + (far : Int) = j + (far : Int) + (k.length : Int) * (-((j - p) / (k.length : Int))) by omega, e2] at e
    exact e.symm
  have h0 : 0 ≤ p % (k.length : Int) := Int.emod_nonneg _ (by omega)
  have h1 : p % (k.length : Int) < (k.length : Int) := Int.emod_lt_of_pos _ (by omega)
  have key := (la_inv k far (2 * k.length)).up (p % (k.length : Int)).toNat l (by omega) fun i hi => by
    have e := h i hi
    have hc : (((p % (k.length : Int)).toNat + i : Nat) : Int) = p + (i : Int) + (k.length : Int) * (-(p / (k.length : Int))) := by
      rw [Int.natCast_add, Int.toNat_of_nonneg h0, Int.emod_def, Int.mul_neg]; omega
    rw [hc, P_mulI (P_len k) _ (p + (i : Int)), e]
    have e2 := P_mulI (P_len k) (-(p / (k.length : Int))) (p + (i : Int) + (far : Int))
    rw [← e2]
    congr 1
    omega
  exact key
theorem la_got {k : List α} (hk : 0 < k.length) (far : Nat) : ∃ p : Nat, p < k.length ∧ ∀ i : Nat, i < la k far → cy k ((p : Int) + (i : Int)) = cy k ((p : Int) + (i : Int) + (far : Int)) := by
  obtain ⟨q, _, hg⟩ := (la_inv k far (2 * k.length)).got
  refine ⟨q % k.length, Nat.mod_lt _ hk, fun i hi => ?_⟩
  have e := hg i hi
  rw [Int.natCast_add] at e
  have hc : ((q % k.length : Nat) : Int) = (q : Int) + (k.length : Int) * (-((q : Int) / (k.length : Int))) := by
    rw [Int.natCast_emod, Int.emod_def, Int.mul_neg]; omega
  have e1 := P_mulI (P_len k) (-((q : Int) / (k.length : Int))) ((q : Int) + (i : Int))
  have e2 := P_mulI (P_len k) (-((q : Int) / (k.length : Int))) ((q : Int) + (i : Int) + (far : Int))
  rw [hc, show (q : Int) + (k.length : Int) * (-((q : Int) / (k.length : Int))) + (i : Int) = (q : Int) + (i : Int) + (k.length : Int) * (-((q : Int) / (k.length : Int))) by omega, e1,
    show (q : Int) + (i : Int) + (k.length : Int) * (-((q : Int) / (k.length : Int))) + (far : Int) = (q : Int) + (i : Int) + (far : Int) + (k.length : Int) * (-((q : Int) / (k.length : Int))) by omega, e2]
  exact e

/-! ### enough threads -/
def enStep (k : List α) (f far : Nat) : Nat := if far % k.length = 0 then f else max f (far + la k far + 1)
def enAt (k : List α) (most n : Nat) : Nat := (List.range' 1 n).foldl (enStep k) most
def en (k : List α) (most : Nat) : Nat := enAt k most most
theorem enAt_succ (k : List α) (most n : Nat) : enAt k most (n + 1) = enStep k (enAt k most n) (n + 1) := by
  unfold enAt
  rw [List.range'_1_concat, List.foldl_append, Nat.add_comm 1 n]
  rfl
theorem enAt_spec (k : List α) (most : Nat) : ∀ n, most ≤ enAt k most n ∧ (∀ far, 1 ≤ far → far ≤ n → far % k.length ≠ 0 → far + la k far + 1 ≤ enAt k most n) ∧
    (enAt k most n ≠ most → ∃ far, 1 ≤ far ∧ far ≤ n ∧ far % k.length ≠ 0 ∧ enAt k most n = far + la k far + 1) := by
  intro n
  induction n with
  | zero => exact ⟨Nat.le_refl _, fun far h1 h2 => by omega, fun h => absurd rfl h⟩
  | succ n ih =>
    obtain ⟨a, b, c⟩ := ih
    rw [enAt_succ]
    unfold enStep
    by_cases e : (n + 1) % k.length = 0
    · rw [if_pos e]
      refine ⟨a, fun far h1 h2 h3 => ?_, fun h => ?_⟩
      · by_cases z : far = n + 1
        · rw [z] at h3; exact absurd e h3
        · exact b far h1 (by omega) h3
      · obtain ⟨far, h1, h2, h3⟩ := c h
        exact ⟨far, h1, by omega, h3⟩
    · rw [if_neg e]
      refine ⟨by omega, fun far h1 h2 h3 => ?_, fun h => ?_⟩
      · by_cases z : far = n + 1
        · rw [z]; omega
        · have := b far h1 (by omega) h3; omega
      · by_cases z : enAt k most n ≤ n + 1 + la k (n + 1) + 1
        · exact ⟨n + 1, by omega, Nat.le_refl _, e, by omega⟩
        · have hm : max (enAt k most n) (n + 1 + la k (n + 1) + 1) = enAt k most n := by omega
          rw [hm] at h ⊢
          obtain ⟨far, h1, h2, h3⟩ := c h
          exact ⟨far, h1, by omega, h3⟩
theorem en_ge (k : List α) (most : Nat) : most ≤ en k most := (enAt_spec k most most).1
/-- so many threads leave the row alone -/
theorem en_one {k : List α} {most : Nat} (hk : 0 < k.length) (hp : lr k = k.length) (hm : k.length ≤ most) (b : Int) : ds (win k b (en k most)) most = [k.length] := by
  have hge := en_ge k most
  have hself := self_mem (b := b) hk hp hm (Nat.le_trans hm hge)
  have honly : ∀ d, d ∈ ds (win k b (en k most)) most → d = k.length := by
    intro d hd
    obtain ⟨⟨d1, d2⟩, hper, hlr⟩ := mem_ds.mp hd
    by_cases hz : d % k.length = 0
    · -- a multiple: the round of so many threads is k's own
      have hv : k.length ∣ d := Nat.dvd_of_mod_eq_zero hz
      rw [win_take (by omega)] at hlr
      have hPd : P k (d : Int) := by
        obtain ⟨c, rfl⟩ := hv
        rw [Int.natCast_mul]
        exact P_mul (P_len k) c
      have hPw : P (win k b d) (k.length : Int) := fun i => by
        rw [cy_win (by omega) hPd, cy_win (by omega) hPd, show i + (k.length : Int) + b = i + b + (k.length : Int) by omega, cy_len]
      have h2 := lr_dvd (by rw [win_length]; omega) hPw
      rw [hlr] at h2
      have := Nat.le_of_dvd hk h2
      have := Nat.le_of_dvd (by omega) hv
      omega
    · exfalso
      have hb := (enAt_spec k most most).2.1 d d1 d2 hz
      have hb2 : d + la k d + 1 ≤ en k most := hb
      have hl := la_up hk hp hz (p := b) (l := en k most - d) fun i hi => by
        have e := per_iff.mp hper i (by rw [win_length]; omega)
        rw [at_win (by omega), at_win (by omega), Int.natCast_add, ← Int.add_assoc] at e
        exact e
      omega
  have hpw := ds_lt (win k b (en k most)) most
  generalize ds (win k b (en k most)) most = l at *
  match l, hself, honly, hpw with
  | [], h, _, _ => exact absurd h (by simp)
  | [x], _, h, _ => rw [h x (by simp)]
  | x :: y :: r, _, h, hp =>
    have e1 := h x (by simp)
    have e2 := h y (by simp)
    have := (List.pairwise_cons.mp hp).1 y (by simp)
    omega
/-- one thread less leaves more, from some spot -/
theorem en_two {k : List α} {most : Nat} (hk : 0 < k.length) (hp : lr k = k.length) (hm : k.length ≤ most) (hne : en k most ≠ most) : ∃ p : Nat, p < k.length ∧ 1 < (ds (win k (p : Int) (en k most - 1)) most).length := by
  have hge := en_ge k most
  obtain ⟨far, f1, f2, f3, f4⟩ := (enAt_spec k most most).2.2 hne
  have f5 : en k most = far + la k far + 1 := f4
  obtain ⟨p, p1, p2⟩ := la_got hk far
  refine ⟨p, p1, ?_⟩
  have hself := self_mem (b := (p : Int)) (m := en k most - 1) hk hp hm (by omega)
  -- the piece goes round by far
  have hper : per (win k (p : Int) (en k most - 1)) far = true := per_iff.mpr fun i hi => by
    rw [win_length] at hi
    rw [at_win (by omega), at_win hi, Int.natCast_add, ← Int.add_assoc]
    exact p2 i (by omega)
  have hr : ∃ r, r ∈ ds (win k (p : Int) (en k most - 1)) most ∧ r ∣ far := by
    have hlen : (win k (p : Int) far).length = far := win_length _ _ _
    obtain ⟨r1, r2, r3, r4, _⟩ := lr_spec (t := win k (p : Int) far) (by omega)
    rw [hlen] at r2 r3
    refine ⟨lr (win k (p : Int) far), mem_ds.mpr ⟨⟨r1, by omega⟩, per_iff.mpr fun i hi => ?_, ?_⟩, r3⟩
    · rw [win_length] at hi
      have g : ∀ j, j < en k most - 1 → at_ (win k (p : Int) (en k most - 1)) j = at_ (win k (p : Int) far) (j % lr (win k (p : Int) far)) := fun j hj => by
        rw [per_mod (by omega) hper j (by rw [win_length]; exact hj)]
        have hjf : j % far < far := Nat.mod_lt _ (by omega)
        have e : at_ (win k (p : Int) (en k most - 1)) (j % far) = at_ (win k (p : Int) far) (j % far) := by
          rw [at_win (by omega), at_win hjf]
        rw [e, per_mod (by omega) r4 (j % far) (by omega), Nat.mod_mod_of_dvd _ r3]
      rw [g _ (by omega), g _ hi, Nat.add_mod_right]
    · rw [win_take (by omega)]
      have e := lr_take (t := win k (p : Int) far) (by omega)
      rw [win_take (by omega)] at e
      exact e
  obtain ⟨r, hr1, hr2⟩ := hr
  have hne2 : r ≠ k.length := fun e => f3 (Nat.mod_eq_zero_of_dvd (e ▸ hr2))
  generalize ds (win k (p : Int) (en k most - 1)) most = l at *
  match l, hself, hr1 with
  | [], h, _ => exact absurd h (by simp)
  | [x], h, h' =>
    have e1 : k.length = x := by simpa using h
    have e2 : r = x := by simpa using h'
    omega
  | x :: y :: r, _, _ =>
    rw [List.length_cons, List.length_cons]; omega
end
end SL
set_option Elab.async false
set_option linter.all false
set_option maxRecDepth 100000
set_option maxHeartbeats 4000000
namespace SL
open PySem PySem.Spec PyProof.Rows L2 He

/-! ### == of tuples and lists of texts -/
theorem dp_strs {K : PySem.W.Frag} {H : Hp} : ∀ xs : List Str, DpAll K H (xs.map V.str) (xs.map PyData.str)
  | [] => .nil
  | x :: xs => .cons (.str x) (dp_strs xs)
theorem eqv_strs : ∀ xs ys : List Str, PyData.eqvAll (xs.map PyData.str) (ys.map PyData.str) = decide (xs = ys)
  | [], [] => by simp [PyData.eqvAll]
  | [], y :: ys => by simp [PyData.eqvAll]
  | x :: xs, [] => by simp [PyData.eqvAll]
  | x :: xs, y :: ys => by
    have ih := eqv_strs xs ys
    rw [List.map_cons, List.map_cons, PyData.eqvAll, ih]
    have e : PyData.eqv (PyData.str x) (PyData.str y) = decide (x = y) := by
      simp only [PyData.eqv]
      first
        | rfl
        | (rw [Bool.beq_eq_decide_eq])
        | simp
    rw [e]
    by_cases h1 : x = y
    · by_cases h2 : xs = ys
      · simp [h1, h2]
      · simp [h1, h2]
    · simp [h1]
/-- a shade: one to three small letters -/
structure Shade (x : Str) : Prop where
  lo : 1 ≤ x.cps.size
  hi : x.cps.size ≤ 3
  abc : ∀ c ∈ x.cps.toList, 97 ≤ c ∧ c ≤ 122
theorem Shade.ok {x : Str} (h : Shade x) : PyData.strOk x = true := by
  unfold PyData.strOk
  rw [Array.all_eq_true]
  intro i hi
  have := h.abc x.cps[i] (by simp)
  exact decide_eq_true (by omega)
theorem shaped_strs (xs : List Str) (hs : ∀ x ∈ xs, Shade x) : SeqAt.shaped (.tuple (xs.map PyData.str)) = true ∧ SeqAt.shaped (.list (xs.map PyData.str)) = true := by
  have h : PyData.canLayAll0 (xs.map PyData.str) = true := by
    induction xs with
    | nil => rfl
    | cons x xs ih =>
      rw [List.map_cons]
      simp only [PyData.canLayAll0, PyData.canLay0, ih fun y hy => hs y (List.mem_cons_of_mem _ hy), (hs x List.mem_cons_self).ok]
      rfl
  have hd : PyData.depthAll (xs.map PyData.str) ≤ 1 := by
    induction xs with
    | nil => simp [PyData.depthAll]
    | cons x xs ih =>
      have h2 : PyData.canLayAll0 (xs.map PyData.str) = true := by
        rw [List.map_cons] at h
        simp only [PyData.canLayAll0, Bool.and_eq_true] at h
        exact h.2
      have := ih (fun y hy => hs y (List.mem_cons_of_mem _ hy)) h2
      rw [List.map_cons]
      simp only [PyData.depthAll, PyData.depth]
      omega
  constructor
  · unfold SeqAt.shaped
    simp only [PyData.canLay0, h, Bool.true_and, PyData.depth]
    exact decide_eq_true (by omega)
  · unfold SeqAt.shaped
    simp only [PyData.canLay0, h, Bool.true_and, PyData.depth]
    exact decide_eq_true (by omega)
def rEqTS (K : PySem.W.Frag) : R2 := fun x y H Q => ∃ (a b : Addr) (xs ys : List Str), x = .ref a ∧ y = .ref b ∧ SqT K H a (xs.map V.str) ∧ SqT K H b (ys.map V.str) ∧ (∀ x ∈ xs, Shade x) ∧ (∀ x ∈ ys, Shade x) ∧ Q (.bl (decide (xs = ys))) H
def rEqLS (K : PySem.W.Frag) : R2 := fun x y H Q => ∃ (a b : Addr) (xs ys : List Str), x = .ref a ∧ y = .ref b ∧ SqL K H a (xs.map V.str) ∧ SqL K H b (ys.map V.str) ∧ (∀ x ∈ xs, Shade x) ∧ (∀ x ∈ ys, Shade x) ∧ Q (.bl (decide (xs = ys))) H
section
variable {X : Cx}
theorem op_eqTS (hu : X.A.units + 64 < cLine) : OpR X (compareOp .Eq) (rEqTS X.K) := by
  intro pins s σ H x y v u Q I rx ry h
  obtain ⟨a, b, xs, ys, rfl, rfl, hx, hy, sx, sy, q⟩ := h
  refine op_eqD hu pins s σ H _ _ v u Q I rx ry ⟨_, _, .tup hx (dp_strs xs), .tup hy (dp_strs ys), (shaped_strs xs sx).1, (shaped_strs ys sy).1, ?_⟩
  rw [PyData.eqv, eqv_strs]
  exact q
theorem op_eqLS (hu : X.A.units + 64 < cLine) : OpR X (compareOp .Eq) (rEqLS X.K) := by
  intro pins s σ H x y v u Q I rx ry h
  obtain ⟨a, b, xs, ys, rfl, rfl, hx, hy, sx, sy, q⟩ := h
  refine op_eqD hu pins s σ H _ _ v u Q I rx ry ⟨_, _, .lst hx (dp_strs xs), .lst hy (dp_strs ys), (shaped_strs xs sx).2, (shaped_strs ys sy).2, ?_⟩
  rw [PyData.eqv, eqv_strs]
  exact q

/-! ### t[::-1] of a tuple -/
theorem rev_pick (xs : Array Value) : ((List.range xs.size).filterMap fun (m : Nat) => xs[(((xs.size : Int) - 1) + (m : Int) * (-1)).toNat]?).toArray = xs.toList.reverse.toArray := by
  have e : (List.range xs.size).filterMap (fun (m : Nat) => xs[(((xs.size : Int) - 1) + (m : Int) * (-1)).toNat]?) = ((List.range xs.size).map fun k => xs.size - 1 - k).filterMap (xs[·]?) := by
    rw [List.filterMap_map]
    congr 1
    funext m
    have : (((xs.size : Int) - 1) + (m : Int) * (-1)).toNat = xs.size - 1 - m := by omega
    rw [this]
    rfl
  rw [e, PySem.W.krv_range, List.filterMap_reverse, PySem.W.krv_all]
theorem applied_rev {prog : Program} {w : World} {A : Around} {E : Value → Shared → Prop} {s : Shared} {sl : Addr} {vs : Value} {n : Nat} {Q : Int × Int × Nat → Shared → Prop} (hs : s.heap.IsSliceOf sl .none .none vs) (ps : IsPart vs (some (-1)))
    (h : Q ((n : Int) - 1, -1, n) s) : wpAny (model prog w) A (Builtin.Slice.sliceApplied (.ref sl) (pure (n : Int))) Q E s := by
  obtain ⟨os, hos, hcs, hds⟩ := id hs
  unfold Builtin.Slice.sliceApplied Builtin.Slice.sliceFields
  refine wpAny_bind (wpAny_bind (wpAny_field hos hds (x := .none) rfl (wpAny_bind (wpAny_field hos hds (x := .none) rfl (wpAny_bind (wpAny_field hos hds (x := vs) rfl (wpAny_pure ?_)))))))
  refine wpAny_bind (HT.slicePart_ ps ?_)
  show wpAny _ _ (if ((-1 : Int) == 0) = true then _ else _) _ _ s
  rw [if_neg (by decide)]
  refine wpAny_bind (slicePart_none (wpAny_bind (slicePart_none (wpAny_bind (wpAny_pure ?_)))))
  show wpAny _ _ (match Builtin.Slice.sliceAdjust none none (-1) (n : Int) with | (lo, hi) => pure (lo, (-1 : Int), Builtin.Slice.slicePlaces lo hi (-1))) _ _ s
  have e1 : Builtin.Slice.sliceAdjust none none (-1) (n : Int) = ((n : Int) - 1, -1) := by
    unfold Builtin.Slice.sliceAdjust
    have h1 : ((-1 : Int) < 0) := by decide
    simp only [h1, if_true]
  rw [e1]
  show wpAny _ _ (pure ((n : Int) - 1, (-1 : Int), Builtin.Slice.slicePlaces ((n : Int) - 1) (-1) (-1))) _ _ s
  have e2 : Builtin.Slice.slicePlaces ((n : Int) - 1) (-1) (-1) = n := by
    unfold Builtin.Slice.slicePlaces
    have h1 : ¬ ((-1 : Int) > 0) := by decide
    have h2 : (-(-1 : Int)) = 1 := by decide
    simp only [h1, if_false, h2, Int.ediv_one]
    split <;> omega
  rw [e2]
  exact wpAny_pure h
theorem getItem_tuple_rev {prog : Program} {w : World} {A : Around} {E : Value → Shared → Prop} {s : Shared} {t sl : Addr} {items : Array Value} {vs : Value} {Q : Value → Shared → Prop} (ht : IsTup s.heap t items) (hs : s.heap.IsSliceOf sl .none .none vs) (ps : IsPart vs (some (-1)))
    (h : Q (.ref s.heap.objs.size) { s with heap := s.heap.push { cls := .type "tuple", data := .seq items.toList.reverse.toArray } })
    (hsz : items.size ≤ sizeLine) : wpAny (model prog w) A (getItem (.ref t) (.ref sl)) Q E s := by
  have htake : sizeOk (.seq items.toList.reverse.toArray) := by
    show items.toList.reverse.toArray.size ≤ sizeLine
    rw [List.size_toArray, List.length_reverse, Array.length_toList]
    exact hsz
  obtain ⟨os, hos, hcs, hds⟩ := id hs
  have hTs : s.TypeIs (.ref sl) "slice" := ⟨os, hos, hcs⟩
  unfold getItem
  try with_reducible refine wpAny_holding ?_
  first | refine wpAny_bind (wpAny_pure ?_) | skip
  refine wpAny_bind (wpAny_sequenceKey ht.typeIs (by decide) ?_)
  refine wpAny_bind (wpAny_callSpecial?_slot (name := Str.ofString "__getitem__") ht.typeIs PyProof.Rows.slot_tuple_getitem
    (wpAny_call_entry PyProof.Rows.slot_tuple_getitem ht.typeIs entry_tuple_getitem ?_ (args_tuple_getitem _ _)))
  show wpAny _ _ (Builtin.Tuple.tupleItemsOf (.ref t) >>= _) _ _ s
  refine wpAny_bind (tupleItemsOf_ ht ?_)
  refine wpAny_bind (wpAny_typeOf hTs ?_)
  rw [if_pos (by decide)]
  refine wpAny_bind (applied_rev hs ps ?_)
  have hno : ¬ ((((items.size : Int) - 1) == 0 && (-1 : Int) == 1 && items.size == items.size) = true) := by
    rw [show ((-1 : Int) == 1) = false by decide, Bool.and_false, Bool.false_and]
    exact Bool.false_ne_true
  show wpAny _ _ (if (((items.size : Int) - 1) == 0 && (-1 : Int) == 1 && items.size == items.size) = true then _ else _) _ _ s
  rw [if_neg hno, rev_pick]
  first
    | exact wpAny_bind (m := Builtin.Tuple.tupleExact _) (wpAny_newObj_type (wpAny_pure ⟨_, rfl, wpAny_pure h⟩) htake)
    | exact wpAny_bind (m := Builtin.Tuple.tupleExact _) (wpAny_newObj_type (wpAny_bind (wpAny_pure (wpAny_pure ⟨_, rfl, wpAny_pure h⟩))) htake)
    | exact wpAny_bind (wpAny_bind (m := Builtin.Tuple.tupleExact _) (wpAny_newObj_type (wpAny_pure (wpAny_pure ⟨_, rfl, wpAny_pure h⟩)) htake))
    | exact wpAny_bind (wpAny_bind (m := Builtin.Tuple.tupleExact _) (wpAny_newObj_type (wpAny_pure ⟨_, rfl, wpAny_pure h⟩) htake))
def tRevT (K : PySem.W.Frag) (te : TE) : TE := fun σ H Q => te σ H fun x H1 => ∃ a xs, x = .ref a ∧ SqT K H1 a xs ∧ ∀ p, H1 p = none → Q (.ref p) (upd H1 p (.tup xs.reverse))
theorem pe_revT {e : Expr} {te : TE} {k : Nat} {p1 p2 p3 pos : Pos} (he : PE X e te) : PE X (.Subscript e (.Slice none none (some (.UnaryOp .USub (.Constant (.int 1) k p1) p2)) p3) pos) (tRevT X.K te) := by
  refine ⟨fun pins s σ H Q I h => ?_⟩
  refine Subscript_ (thn (he.run pins s σ H _ I h) fun v s1 ⟨x, H1, I1, r1, q1⟩ => ?_)
  obtain ⟨a, xs, ex, hx, q⟩ := q1
  subst ex
  cases r1
  have hst : PO X (some (.UnaryOp .USub (.Constant (.int 1) k p1) p2)) (tPart (tUn (rU fun i => .int (-i)) (tC (.int 1)))) := po_some (pe_un un_neg pe_int)
  refine wpAny_Slice (thn (po_none.run pins s1 σ H1 (fun o H2 => o = none ∧ H2 = H1) I1 ⟨rfl, rfl⟩) fun vl s2 ⟨l, H2, I2, pl, el, e2⟩ => ?_)
  subst el e2
  refine thn (po_none.run pins s2 σ H2 (fun o H3 => o = none ∧ H3 = H2) I2 ⟨rfl, rfl⟩) fun vu s3 ⟨u, H3, I3, pu, eu, e3⟩ => ?_
  subst eu e3
  refine thn (hst.run pins s3 σ H3 (fun o H4 => o = some (-1) ∧ H4 = H3) I3 ⟨1, rfl, -1, rfl, rfl, rfl⟩) fun vs s4 ⟨o, H4, I4, ps, eo, e4⟩ => ?_
  subst eo e4
  cases pl
  cases pu
  have I5 : Inv X pins σ H4 { s4 with heap := s4.heap.push { cls := .type "slice", data := .fields #[.none, .none, vs] } } := I4.kept (t' := s4.toks) fun b ob q => Heap.get?_push_of_some _ q
  obtain ⟨its, r, ht, hz⟩ := I5.tuple hx
  have hlen := r.length
  show wpAny (model X.prog X.w) X.A (subscriptTail e (.Slice none none (some (.UnaryOp .USub (.Constant (.int 1) k p1) p2)) p3) (.ref a) (.ref s4.heap.objs.size)) (EP X pins σ Q) X.xe { s4 with heap := s4.heap.push { cls := .type "slice", data := .fields #[.none, .none, vs] } }
  refine tail_any (ops := [.ref a, .ref s4.heap.objs.size]) ht.typeIs (PyProof.Rows.slot_tuple_getitem.lookup) ?_ (by with_unfolding_all rfl)
  refine getItem_tuple_rev ht (Heap.IsSliceOf.new _ .none .none vs) ps ?_ (by rw [List.size_toArray]; omega)
  refine ⟨.ref _, _, I5.laid (t' := s4.toks) (o := .tup xs.reverse) (fun b ob q => Heap.get?_push_of_some _ q) (Nat.le_refl _) ?_, rfl, q _ (I5.hok.fresh (Nat.le_refl _))⟩
  exact ⟨by rw [List.length_reverse]; exact hz, _, r.reverse, IsTup.new _ _⟩
end

/-! ### enumerate of a tuple -/
def Itet (K : PySem.W.Frag) (a : Addr) : It :=
  ⟨fun i H => ∃ (xs : List V) (x : V), SqT K H a xs ∧ xs[i]? = some x, fun i H v H' => ∃ T x, v = .ref T ∧ H T = none ∧ H' = upd H T (.tup [.int (i : Nat), x]) ∧ ∀ xs, SqT K H a xs → xs[i]? = some x, fun i H => ∃ xs : List V, SqT K H a xs ∧ xs.length ≤ i⟩
theorem turn_enumT {P : Program} {w : World} {K : PySem.W.Frag} {elts : List Expr} {kk : Nat} {tpos : Pos} (a e it : Addr) :
    Turn P w K (.Tuple elts kk tpos) (Itet K a) [e, it] e (fun i h => (∃ old, IsEnum h e it ((i : Nat) : Int) old) ∧ h.IsTupleIter it a i ∧ e ≠ it) where
  mem := by simp
  obj := fun i h st b hb => by
    obtain ⟨⟨old, he⟩, ⟨o, ho, hc, hd⟩, _⟩ := st
    have e' : b = e ∨ b = it := by simpa using hb
    rcases e' with z | z
    · rw [z]; exact ⟨_, he, fun v q => nomatch q⟩
    · rw [z]; exact ⟨o, ho, fun v q => by rw [hd] at q; cases q⟩
  keep := fun i h h' st k => let ⟨⟨old, he⟩, hi, hne⟩ := st; ⟨⟨old, k e (by simp) _ he⟩, hi.at fun o q => k it (by simp) o q, hne⟩
  item := by
    intro X hP hw hK hc i pins s σ H E I hf st hg
    subst hP hw hK
    obtain ⟨⟨old, he⟩, hit, hne⟩ := st
    obtain ⟨xs, x, hq, hx⟩ := hg
    obtain ⟨its, rv, p, hz⟩ := I.tuple hq
    obtain ⟨u, hu, ru⟩ := rv.get hx
    have hel : e < s.heap.objs.size := Heap.lt_size he
    have hil : it < s.heap.objs.size := by obtain ⟨_, q, _⟩ := hit; exact Heap.lt_size q
    have pT : s.heap.IsTuple a its.toArray := p
    have hai : a ≠ it := by
      rintro rfl
      obtain ⟨o1, g1, c1, _⟩ := hit
      obtain ⟨o2, g2, c2, _⟩ := pT
      rw [g1] at g2
      cases g2
      rw [c1] at c2
      exact absurd c2 (by decide)
    have hea : e ≠ a := by
      rintro rfl
      obtain ⟨o2, g2, c2, _⟩ := pT
      have g1 : s.heap.get? e = some _ := he
      rw [g1] at g2
      cases g2
      exact absurd (show Value.type "enumerate" = Value.type "tuple" from c2) (by decide)
    have D := Draws.tuple (prog := X.prog) (w := X.w) (A := X.A.in1) (I.ok.hd hc) it a hai its.toArray
    have hlt : i < its.toArray.size := by
      have := (List.getElem?_eq_some_iff.mp hu).1
      simpa using this
    refine wpAny_pyNext_enum_itemD D he ⟨hit, pT⟩ hlt hne (by simp [hne, hea]) fun x' h' tk hP ho hit' hT hsz hk => ?_
    have ex : x' = u := by
      have h1 : its.toArray[i]? = some x' := hP
      have h2 : its.toArray[i]? = some u := by simpa using hu
      exact Option.some.inj (h1.symm.trans h2)
    subst ex
    refine ⟨_, rfl, wpAny_letOwnedTupleGo_enum (s := { s with heap := h', toks := tk + 1 }) ho fun h'' he' sb => ?_⟩
    have hT2 : h''.get? s.heap.objs.size = some { cls := .type "tuple", data := .seq #[.int i tk, x'] } := (sb.2 _ (Nat.ne_of_gt hel)).trans hT
    have new : ObjOk X.prog X.w (upd H s.heap.objs.size (.tup [.int (i : Nat), x])) h'' s.heap.objs.size (.tup [.int (i : Nat), x]) :=
      ⟨by show 2 ≤ sizeLine; decide, [.int i tk, x'], .cons ⟨_, rfl⟩ (.cons ru .nil), ⟨_, hT2, rfl, _, rfl⟩⟩
    have I1 : Inv X pins σ (upd H s.heap.objs.size (.tup [.int (i : Nat), x])) { s with heap := h'', toks := tk + 1 } :=
      I.turnedNew (ch := [e, it]) (fun b ob hb q => (sb.2 b (fun z => hb (by simp [z]))).trans (hk b ob (fun z => hb (by simp [z])) (fun z => hb (by simp [z])) q)) hf (Nat.le_refl _) new
    refine ⟨.ref s.heap.objs.size, _, I1, rfl, ⟨_, x, rfl, I.hok.fresh (Nat.le_refl _), rfl, fun ys hy => by rw [I.tuple_inj hy hq]; exact hx⟩, ⟨⟨x', ?_⟩, hit'.1.at fun o q => (sb.2 it (Ne.symm hne)).trans q, hne⟩, fun b hb => ?_⟩
    · have e1 : ((i + 1 : Nat) : Int) = (i : Int) + 1 := by omega
      rw [e1]; exact he'
    · have hb' : b < s.heap.objs.size := by
        have e' : b = e ∨ b = it := by simpa using hb
        rcases e' with z | z
        · rw [z]; exact hel
        · rw [z]; exact hil
      rw [upd_ne (Nat.ne_of_lt hb')]
      exact (hf b hb).1
  done := by
    intro X hP hw hK hc i pins s σ H E I hf st hg
    subst hP hw hK
    obtain ⟨⟨old, he⟩, hit, hne⟩ := st
    obtain ⟨xs, hq, hx⟩ := hg
    obtain ⟨its, rv, p, hz⟩ := I.tuple hq
    obtain ⟨f0, f1, f2, f3, f4, f5⟩ := hf it (by simp)
    have hl := rv.length
    have pT : s.heap.IsTuple a its.toArray := p
    have hT : s.TypeIs (.ref e) "enumerate" := ⟨_, he, rfl⟩
    unfold pyNext
    refine wpAny_bind (wpAny_attempt (wpAny_callSpecial?_slot (name := Str.ofString "__next__") hT F.slot_enumerate_next
      (wpAny_call_entry F.slot_enumerate_next hT F.entry_enumerate_next ?_ (F.args_enumerate_next_1 _))))
    show wpAny _ _ (field (.ref e) 2 >>= _) _ _ _
    refine wpAny_bind (wpAny_field he rfl (x := .ref it) rfl ?_)
    refine wpAny_bind (wpAny_nextOf_tuple_end (I.ok.hd hc) hit pT (by simp; omega) fun h' x he' hx' => ?_)
    obtain ⟨o, ho, hc'⟩ := hx'
    refine wpAny_bind (wpAny_isInstance (T := "StopIteration") (b := true) ⟨o, ho, hc'⟩ isSubtype_stop ?_)
    exact wpAny_pure ⟨rfl, I.turned (t' := s.toks) (fun b o hb q => he' b o hb q) f0 f1 f3 f4 f5⟩
  self := fun A i s Q E st h => let ⟨⟨_, he⟩, _⟩ := st; wpAny_pyIter_enum he h
theorem meets_enumerate_newT (l : Addr) (items : Array Value) (n : Nat) (dct : Option Addr) (sl : Array (Option Value)) :
    Meets (Builtin.«enumerate.__new__» ⟨[.type "enumerate", .ref l], []⟩) (fun _ R s => s.heap.get? l = some { cls := .type "tuple", dict := dct, data := .seq items n, slots := sl } ∧
      R (.ok (.ret (.ref (s.heap.push { cls := .type "tuple_iterator", data := .fields #[.ref l, .int 0 0] }).objs.size)))
        { s with heap := (s.heap.push { cls := .type "tuple_iterator", data := .fields #[.ref l, .int 0 0] }).push { cls := .type "enumerate", data := .fields #[.none, .bool false, .ref s.heap.objs.size, rawInt 0, .none, .none] } }) :=
  .of_wp fun prog w A R s h => by
    obtain ⟨hp, g, d, tk, os⟩ := s; obtain ⟨hl, h⟩ := h
    have hsub := sub_enumerate
    have hL : Heap.IsTuple (Shared.heap ⟨hp, g, d, tk, os⟩) l items := ⟨_, hl, rfl, n, rfl⟩
    wp_walk using AutoSeq1.wpAny_loadPart' hl
    refine wpAny_stack_any fun st => wpAny_pure ?_
    split
    · rename_i c _ _ _ _ _
      cases (c == Value.type "enumerate")
      · wp_walk using AutoSeq1.wpAny_loadPart' hl, wpAny_pyIter_tuple hL
        exact ⟨_, rfl, h⟩
      · wp_walk using AutoSeq1.wpAny_loadPart' hl, wpAny_pyIter_tuple hL
        exact ⟨_, rfl, h⟩
    · wp_walk using AutoSeq1.wpAny_loadPart' hl, wpAny_pyIter_tuple hL
      exact ⟨_, rfl, h⟩
theorem call_enumerate_tuple {prog : Program} {w : World} {A : Around} {E : Value → Shared → Prop} {s : Shared} {l : Addr} {items : Array Value} {Q : Value → Shared → Prop} (hL : s.heap.IsTuple l items)
    (h : ∀ h', IsEnum h' (s.heap.objs.size + 1) s.heap.objs.size 0 .none → h'.IsTupleIter s.heap.objs.size l 0 → h'.objs.size = s.heap.objs.size + 2 →
      (∀ b o, s.heap.get? b = some o → h'.get? b = some o) → Q (.ref (s.heap.objs.size + 1)) { s with heap := h' }) :
    wpAny (model prog w) A (call (.type "enumerate") [.ref l]) Q E s := by
  obtain ⟨⟨c, dct, dt, sl⟩, hl, hc, n, hd⟩ := hL
  replace hc : c = .type "tuple" := hc
  replace hd : dt = .seq items n := hd
  subst hc hd
  refine callType_new F.called_enumerate (by decide) (F.typeCall_enumerate_1 _) (F.newCall_enumerate_1 _) (fun obj => F.args_object_init_2 obj _) F.entry_enumerate_new
    (meets_enumerate_newT l items n dct sl) ⟨hl, ?_⟩
  have hz : (s.heap.push { cls := .type "tuple_iterator", data := .fields #[.ref l, .int 0 0] }).objs.size = s.heap.objs.size + 1 := Heap.size_push ..
  show _ ∧ _
  rw [hz]
  have he : IsEnum ((s.heap.push { cls := .type "tuple_iterator", data := .fields #[.ref l, .int 0 0] }).push
      { cls := .type "enumerate", data := .fields #[.none, .bool false, .ref s.heap.objs.size, rawInt 0, .none, .none] }) (s.heap.objs.size + 1) s.heap.objs.size 0 .none := by
    have := Heap.get?_push_size (s.heap.push { cls := .type "tuple_iterator", data := .fields #[.ref l, .int 0 0] })
      (o := { cls := .type "enumerate", data := .fields #[.none, .bool false, .ref s.heap.objs.size, rawInt 0, .none, .none] }) rfl
    rw [hz] at this; exact this
  refine ⟨⟨_, he, rfl⟩, h _ he ⟨_, Heap.get?_push_of_some _ (Heap.get?_push_size _ rfl), rfl, rfl⟩ (by rw [Heap.size_push, hz]) fun b o x => Heap.get?_push_of_some _ (Heap.get?_push_of_some _ x)⟩
def iEnumT (K : PySem.W.Frag) (ta : TA) : TI := fun σ H R => ta σ H fun vs H1 => ∃ a xs, vs = [.ref a] ∧ SqT K H1 a xs ∧ R (Itet K a) H1
theorem pi_enumT {X : Cx} {e : Expr} {ta : TA} {p pos tpos : Pos} {elts : List Expr} {kk : Nat} (hg : Gl X "enumerate") (hm : X.mg "enumerate" = none) (ha : PA X [e] ta) (hs : starEach [e] X.env = [(false, eval e X.env)] := by rfl) :
    PI X (.Tuple elts kk tpos) (.Call (.Name "enumerate" p) [e] [] pos) (iEnumT X.K ta) := by
  refine ⟨fun pins s σ H R I h => ?_⟩
  refine Call_ (ld_blt I hg hm boot_enumerate (PyProof.Rows.callWith_type1 (thn (ha.run pos pins s σ H _ I h) fun us s1 ⟨vs, H1, I1, r1, q1⟩ => ?_) hs rfl))
  obtain ⟨a, xs, ex, hq, q⟩ := q1
  subst ex
  cases r1 with
  | cons r rr =>
    cases rr
    cases r
    obtain ⟨its, rv, p', hz⟩ := I1.tuple hq
    refine call_enumerate_tuple (show s1.heap.IsTuple a its.toArray from p') fun h' he hit hsz hk => wpAny_pyIter_enum he ?_
    have I2 : Inv X pins σ H1 { s1 with heap := h' } := I1.kept (t' := s1.toks) hk
    refine ⟨s1.heap.objs.size + 1, [s1.heap.objs.size + 1, s1.heap.objs.size], _, _, H1, rfl, I2, turn_enumT a (s1.heap.objs.size + 1) s1.heap.objs.size, ⟨⟨.none, he⟩, hit, Nat.succ_ne_self _⟩, fun b hb => ?_, q⟩
    have e' : b = s1.heap.objs.size + 1 ∨ b = s1.heap.objs.size := by simpa using hb
    have hle : s1.heap.objs.size ≤ b := by
      rcases e' with z | z
      · rw [z]; exact Nat.le_add_right _ _
      · rw [z]; exact Nat.le_refl _
    exact I1.fpOk hle (I1.hok.fresh hle)
theorem walk_enumT {K : PySem.W.Frag} {a : Addr} {xs : List V} : Walk (Itet K a) xs.length (fun H => SqT K H a xs) (YPair (fun i => some (.int (i : Nat))) (fun i => xs[i]?)) := by
  refine ⟨fun i _ hi q => ⟨xs, xs[i], q, by simp [hi]⟩, fun _ q => ⟨xs, q, Nat.le_refl _⟩, fun i H v H' _ q y => ?_⟩
  obtain ⟨T, x, h1, h2, h3, h4⟩ := y
  exact ⟨T, .int (i : Nat), x, h1, h2, h3, rfl, h4 xs q⟩
end SL
set_option Elab.async false
set_option linter.all false
set_option maxRecDepth 100000
set_option maxHeartbeats 4000000
namespace SL
open PySem PySem.Spec PyProof.Rows L2 He

/-! ### len of an instance, by its own __len__ -/
section
variable {X : Cx}
def rLenI (C : Addr) (sp : Sp) : List V → Hp → VK → Prop := fun xs H Q => ∃ (p dx : Addr) (fs : List (Str × V)), xs = [.ref p] ∧ H p = some (.ins C dx fs) ∧ sp [.ref p] H (fun v H' => ∃ n : Nat, v = .int n ∧ n < 2 ^ 62 ∧ Q (.int n) H') E0
theorem call_lenI {C f : Addr} {fd : FuncData} {ps : List Str} {sp : Sp} {k : Nat} (F : FnOk X.prog X.w X.K X.mg X.base CX0 k f fd ps sp) (hr : Room (k + 1) X.A) (M : Meth X.K C "__len__" f) (hb : Binds X.K fd ps []) :
    CallR X (.builtin "len") (rLenI C sp) := by
  intro pins s σ H xs us Q I r h
  obtain ⟨p, dx, fs, rfl, hp, hsp⟩ := h
  rw [Vals.ref1 r]
  obtain ⟨mA, J, _⟩ := ins_get I.hok hp
  obtain ⟨od, J, _⟩ := J.look
  obtain ⟨m, hF⟩ := I.fr
  refine PySem.W.len_K hF I.ok.mod.kin J M.at_ M.fn ?_
  have hl := F.len _ _ _ _ hsp
  have r2 : Vals [V.ref p] [Value.ref p] := .cons rfl .nil
  refine wpAny_call (codeAny_mono (F.run X.A.in1 X.stack s H ⟨[.ref p], []⟩ [.ref p] [.ref p] _ E0 hr.in1 I.env0.in1 (by
    have := hb s [.ref p] I.kIn (by simpa using hl)
    simpa using this) r2 hsp) fun r s' hq => ?_)
  cases r with
  | error e => exact False.elim hq
  | ok fl =>
    cases fl with
    | ret w =>
      obtain ⟨z, H', I', rz, n, ez, hn, q⟩ := I.after hq
      subst ez
      obtain ⟨t, rfl⟩ := rz
      show (0 ≤ (n : Int) ∧ (n : Int) < 2 ^ 63) ∧ _
      exact ⟨⟨by omega, by omega⟩, .int n, H', I'.tok _, ⟨_, rfl⟩, q⟩
    | next => exact False.elim hq
    | brk => exact False.elim hq
    | cont => exact False.elim hq

/-! ### x != y of instances of one class with an own __eq__ -/
def rNeI (C : Addr) (sp : Sp) : R2 := fun x y H Q => ∃ (a b dx dy : Addr) (fs gs : List (Str × V)), x = .ref a ∧ y = .ref b ∧ H a = some (.ins C dx fs) ∧ H b = some (.ins C dy gs) ∧ sp [.ref a, .ref b] H (fun v H' => ∃ c : Bool, v = .bl c ∧ Q (.bl (!c)) H') E0
theorem ifBound_objNe {M : Model} {A : Around} {E : Value → Shared → Prop} {s : Shared} {K : PySem.W.Frag} {x C : Addr} {ox : Obj} {od : Option Obj} {args : List Value} {Q : Option Value → Shared → Prop} (X : K.In s.heap) (I : PySem.W.InstAt s.heap x ox C od) (hs : PySem.W.findIn K (.ref C) "__ne__" = some (some (.builtin "object.__ne__")))
    (h : wpAny M A (call (.builtin "object.__ne__") (.ref x :: args)) (fun v => Q (some v)) E s) : wpAny M A (callSpecialIfBound? (.ref x) "__ne__" args) Q E s := by
  simp only [callSpecialIfBound?, bindSpecialIfBound?]
  refine wpAny_holding (wpAny_bind (wpAny_bind (wpAny_bind (I.type.here ((PySem.W.looks_findIn X hs).here ?_)))))
  refine wpAny_bind (wpAny_askSetting (wpAny_ite ?_))
  have fin : wpAny M A (call (.builtin "object.__ne__") ([.ref x] ++ args) >>= fun v => pure (some v)) Q E s := wpAny_bind (wpAny_mono h (fun v s' h' => wpAny_pure h') fun _ _ h' => h')
  split
  · exact wpAny_bind (wpAny_of_eq (PySem.F.cmp_object.ne.bind _) (wpAny_pure (by exact fin)))
  · exact wpAny_tryCatch (wpAny_bind (wpAny_of_eq (PySem.F.cmp_object.ne.bind _) (wpAny_pure (by exact fin))))
theorem op_neI {C f : Addr} {fd : FuncData} {ps : List Str} {sp : Sp} {k : Nat} (F0 : FnOk X.prog X.w X.K X.mg X.base CX0 k f fd ps sp) (hr : Room (k + 1) X.A) (M : Meth X.K C "__eq__" f) (hb : Binds X.K fd ps [])
    (hs : PySem.W.findIn X.K (.ref C) "__ne__" = some (some (.builtin "object.__ne__"))) (hm : PySem.W.mroIn X.K C (.type "object") = some true) : OpR X (compareOp .NotEq) (rNeI C sp) := by
  intro pins s σ H x y v u Q I rx ry h
  obtain ⟨a, b, dx, dy, fs, gs, rfl, rfl, ha, hb', hsp⟩ := h
  cases rx
  cases ry
  obtain ⟨mA, J, _⟩ := ins_get I.hok ha
  obtain ⟨mB, J', _⟩ := ins_get I.hok hb'
  obtain ⟨od, J, _⟩ := J.look
  obtain ⟨od', J', _⟩ := J'.look
  obtain ⟨m, hF⟩ := I.fr
  have KX := I.kIn
  have hl := F0.len _ _ _ _ hsp
  have r2 : Vals [V.ref a, V.ref b] [Value.ref a, Value.ref b] := .cons rfl (.cons rfl .nil)
  -- object.__ne__ asks the own __eq__
  have one : wpAny (model X.prog X.w) X.A (call (.builtin "object.__ne__") [.ref a, .ref b]) (fun r s' => ∃ c : Bool, r = .bool c ∧ EP X pins σ Q (.bool c) s') X.xe s := by
    refine wpAny_call (codeAny_call_builtin PySem.F.cmp_object.ne.plain PySem.F.cmpEntry_ne (PySem.W.check_slot PySem.F.cmpKind_ne PySem.F.cmpSplit_ne (J.type.andThen (PySem.W.looks_mroIn KX hm)) (PySem.F.cmpArgs_ne _ _) ?_))
    have hcall : wpAny (model X.prog X.w) X.A.in1 (call (.ref f) [.ref a, .ref b]) (fun v s' => ∃ c : Bool, v = .bool c ∧ EP X pins σ Q (.bool (!c)) s') X.xe s := by
      refine wpAny_call (codeAny_mono (F0.run X.A.in1 X.stack s H ⟨[.ref a, .ref b], []⟩ [.ref a, .ref b] [.ref a, .ref b] _ E0 hr.in1 I.env0.in1 (by
        have := hb s [.ref a, .ref b] I.kIn (by simpa using hl)
        simpa using this) r2 hsp) fun r s' hq => ?_)
      cases r with
      | error e => exact False.elim hq
      | ok fl =>
        cases fl with
        | ret w =>
          obtain ⟨z, H', I', rz, c, ez, q⟩ := I.after hq
          subst ez
          cases rz
          exact ⟨c, rfl, .bl (!c), H', I', rfl, q⟩
        | next => exact False.elim hq
        | brk => exact False.elim hq
        | cont => exact False.elim hq
    unfold Builtin.«object.__ne__»
    have hu := hr.in1.units0
    repeat (first
      | with_reducible refine wpAny_cRoomFor hu ?_
      | (refine wpAny_bind (m := callSpecialIfBound? (.ref a) (Str.ofString "__eq__") [.ref b])
          (PySem.W.ifBound_K KX J M.at_ M.fn (wpAny_mono hcall (fun r s' hr => by
            obtain ⟨c, rfl, hq⟩ := hr
            repeat (first | exact ⟨_, rfl, hq⟩ | exact wpAny_pure ⟨_, rfl, hq⟩ | exact wpAny_truthy_bool ⟨_, rfl, hq⟩ | (refine wpAny_bind (m := truthy (.bool _)) (wpAny_truthy_bool ?_)) | wp_step)) fun _ _ e => e)))
      | wp_step)
  have two : wpAny (model X.prog X.w) X.A (tryCompare (.ref a) "__ne__" (.ref b)) (fun r s' => ∃ c : Bool, r = some (.bool c) ∧ EP X pins σ Q (.bool c) s') X.xe s := by
    unfold tryCompare
    refine wpAny_bind (ifBound_objNe KX J hs (wpAny_mono one (fun v s' hv => ?_) fun _ _ e => e))
    obtain ⟨c, rfl, hq⟩ := hv
    exact wpAny_pure ⟨c, rfl, hq⟩
  show wpAny (model X.prog X.w) X.A (richCompare .NotEq (.ref a) (.ref b)) (EP X pins σ Q) X.xe s
  unfold richCompare
  simp only [oneThing_ref]
  refine wpAny_holding (wpAny_bind (wpAny_cRoomFor hr.units0 ?_))
  refine wpAny_bind (J.type.here (wpAny_bind (J'.type.here ?_)))
  rw [show (Value.ref C != Value.ref C) = false from by simp]
  simp only [Bool.false_eq_true, if_false]
  refine wpAny_bind (wpAny_pure ?_)
  simp only [Bool.false_eq_true, if_false]
  refine wpAny_bind (wpAny_mono two (fun r s' z => ?_) fun _ _ e => e)
  obtain ⟨c, rfl, hq⟩ := z
  first | exact wpAny_pure hq | exact hq
end

/-! ### tuple * k, k from 1 on -/
def rRepT1 (K : PySem.W.Frag) : R2 := fun x y H Q => ∃ l k xs, x = .ref l ∧ y = .int k ∧ SqT K H l xs ∧ xs ≠ [] ∧ 1 ≤ k ∧ k ≤ 1000 ∧ xs.length ≤ 1000 ∧ (k = 1 → Q (.ref l) H) ∧ (k ≠ 1 → ∀ p, H p = none → Q (.ref p) (upd H p (.tup (List.replicate k.toNat xs).flatten)))
theorem tuple_mul1 (l : Addr) (items : Array Value) (n : Nat) (dd : Option Addr) (sl : Array (Option Value)) (u : Tok) :
    Meets (Builtin.«tuple.__mul__» ⟨[.ref l, .int 1 u], []⟩) (fun _ R s => s.heap.get? l = some { cls := .type "tuple", dict := dd, data := .seq items n, slots := sl } ∧
      R (.ok (.ret (Value.ref l))) s) :=
  .of_wp fun prog w A R s h => by
    obtain ⟨hp, g, d, tk, os⟩ := s
    obtain ⟨hl, h⟩ := h
    have f1 := AutoSeq1.idx_int
    wp_walk using AutoSeq1.wpAny_loadPart' hl
    repeat (first
      | (refine wpAny_ite_false (decide_eq_false (by decide)) ?_; wp_walk using AutoSeq1.wpAny_loadPart' hl)
      | (refine wpAny_ite_true (decide_eq_true (by simp)) ?_; wp_walk using AutoSeq1.wpAny_loadPart' hl))
    exact ⟨_, rfl, h⟩
section
variable {X : Cx}
theorem op_repT1 : OpR X (binaryOp .Mult) (rRepT1 X.K) := by
  intro pins s σ H x y v u Q I rx ry h
  obtain ⟨l, k, xs, rfl, rfl, hT, hne, h1, h2, hz, q1, q2⟩ := h
  by_cases hk : k = 1
  · subst hk
    cases rx
    obtain ⟨t, rfl⟩ := ry
    obtain ⟨its, r, ⟨⟨cls, dd, data, sl⟩, ho, hc, n, hd⟩, hs⟩ := I.tuple hT
    simp only at hc hd
    subst hc hd
    refine wpAny_binaryOp_repeat_ref (T := "tuple") (U := "int") (by decide) ⟨_, ho, rfl⟩ (fun s' => typeIs_int s' 1 t) noFill_tuple_mul F.fills_int_mul F.slot_int_rmul repeat_tuple F.slot_int_index.lookup
      (call_meets F.slot_int_rmul (typeIs_int s 1 t) F.entry_int_rmul (F.args_int_rmul_2 _ _) (int_rmul_tuple 1 t l its.toArray n dd sl)
        ⟨ho, rfl, ⟨_, ho, rfl⟩, call_meets F.slot_tuple_mul ⟨_, ho, rfl⟩ F.entry_tuple_mul (F.args_tuple_mul_2 _ _) (tuple_mul1 l its.toArray n dd sl t) ⟨ho, ?_⟩⟩)
    exact ⟨.ref l, H, I, rfl, q1 rfl⟩
  · exact op_repT pins s σ H _ _ v u Q I rx ry ⟨l, k, xs, rfl, rfl, hT, hne, by omega, h2, hz, q2 hk⟩
end
end SL
set_option Elab.async false
set_option linter.all false
set_option maxRecDepth 100000
set_option maxHeartbeats 4000000
namespace SL
open PySem PySem.Spec PyProof.Rows L2 He
/-! ### the text by places -/
def top (i : Nat) : Stmt := PySem.Challenge.pw_stripelay_k27_whole_seen_in_part.main.body.getD i (.Pass ⟨0, 0, 0, 0⟩)
abbrev s_is_whole : Stmt := top 15
theorem sc_is_whole : FnScope ["x"] ["x"] (defScope s_is_whole) := ⟨rfl, rfl, rfl, by decide +kernel, rfl, by decide +kernel, by decide +kernel⟩
abbrev s_is_between : Stmt := top 16
theorem sc_is_between : FnScope ["x", "low", "high"] ["x", "low", "high"] (defScope s_is_between) := ⟨rfl, rfl, rfl, by decide +kernel, rfl, by decide +kernel, by decide +kernel⟩
abbrev s_is_word : Stmt := top 17
theorem sc_is_word : FnScope ["thing", "most", "sign"] ["thing", "most"] (defScope s_is_word) := ⟨rfl, rfl, rfl, by decide +kernel, rfl, by decide +kernel, by decide +kernel⟩
abbrev s_is_shade : Stmt := top 18
theorem sc_is_shade : FnScope ["thing"] ["thing"] (defScope s_is_shade) := ⟨rfl, rfl, rfl, by decide +kernel, rfl, by decide +kernel, by decide +kernel⟩
abbrev s_is_stripe : Stmt := top 19
theorem sc_is_stripe : FnScope ["thing"] ["thing"] (defScope s_is_stripe) := ⟨rfl, rfl, rfl, by decide +kernel, rfl, by decide +kernel, by decide +kernel⟩
abbrev s_check_stripes : Stmt := top 20
theorem sc_check_stripes : FnScope ["thing", "many", "number", "stripe"] ["thing"] (defScope s_check_stripes) := ⟨rfl, rfl, rfl, by decide +kernel, rfl, by decide +kernel, by decide +kernel⟩
abbrev s_threads_of : Stmt := top 21
theorem sc_threads_of : FnScope ["stripes", "found", "shade", "count"] ["stripes"] (defScope s_threads_of) := ⟨rfl, rfl, rfl, by decide +kernel, rfl, by decide +kernel, by decide +kernel⟩
abbrev s_are_threads : Stmt := top 22
theorem sc_are_threads : FnScope ["thing", "shade"] ["thing"] (defScope s_are_threads) := ⟨rfl, rfl, rfl, by decide +kernel, rfl, by decide +kernel, by decide +kernel⟩
abbrev s_merged : Stmt := top 23
theorem sc_merged : FnScope ["threads", "found", "shade"] ["threads"] (defScope s_merged) := ⟨rfl, rfl, rfl, by decide +kernel, rfl, by decide +kernel, by decide +kernel⟩
abbrev s_run_word : Stmt := top 25
theorem sc_run_word : FnScope ["threads"] ["threads"] (defScope s_run_word) := ⟨rfl, rfl, rfl, by decide +kernel, rfl, by decide +kernel, by decide +kernel⟩
abbrev s_pivot_word : Stmt := top 26
theorem sc_pivot_word : FnScope ["threads"] ["threads"] (defScope s_pivot_word) := ⟨rfl, rfl, rfl, by decide +kernel, rfl, by decide +kernel, by decide +kernel⟩
abbrev s_fold_word : Stmt := top 27
theorem sc_fold_word : FnScope ["threads"] ["threads"] (defScope s_fold_word) := ⟨rfl, rfl, rfl, by decide +kernel, rfl, by decide +kernel, by decide +kernel⟩
abbrev s_left_word : Stmt := top 28
theorem sc_left_word : FnScope ["threads"] ["threads"] (defScope s_left_word) := ⟨rfl, rfl, rfl, by decide +kernel, rfl, by decide +kernel, by decide +kernel⟩
abbrev s_right_word : Stmt := top 29
theorem sc_right_word : FnScope ["threads"] ["threads"] (defScope s_right_word) := ⟨rfl, rfl, rfl, by decide +kernel, rfl, by decide +kernel, by decide +kernel⟩
abbrev s_is_manner : Stmt := top 31
theorem sc_is_manner : FnScope ["thing"] ["thing"] (defScope s_is_manner) := ⟨rfl, rfl, rfl, by decide +kernel, rfl, by decide +kernel, by decide +kernel⟩
abbrev s_check_spot : Stmt := top 32
theorem sc_check_spot : FnScope ["thing"] ["thing"] (defScope s_check_spot) := ⟨rfl, rfl, rfl, by decide +kernel, rfl, by decide +kernel, by decide +kernel⟩
abbrev s_least_round : Stmt := top 33
theorem sc_least_round : FnScope ["threads", "many", "size"] ["threads"] (defScope s_least_round) := ⟨rfl, rfl, rfl, by decide +kernel, rfl, by decide +kernel, by decide +kernel⟩
abbrev s_least_begun : Stmt := top 34
theorem sc_least_begun : FnScope ["threads", "at"] ["threads"] (defScope s_least_begun) := ⟨rfl, rfl, rfl, by decide +kernel, rfl, by decide +kernel, by decide +kernel⟩
abbrev s_R_init : Stmt := inClass (top 35) 0
theorem sc_R_init : FnScope ["self", "stripes", "manner", "start", "threads", "lay", "word", "size", "spot"] ["self", "stripes", "manner", "start"] (defScope s_R_init) := ⟨rfl, rfl, rfl, by decide +kernel, rfl, by decide +kernel, by decide +kernel⟩
abbrev s_R_len : Stmt := inClass (top 35) 1
theorem sc_R_len : FnScope ["self"] ["self"] (defScope s_R_len) := ⟨rfl, rfl, rfl, by decide +kernel, rfl, by decide +kernel, by decide +kernel⟩
abbrev s_R_thread : Stmt := inClass (top 35) 5
theorem sc_R_thread : FnScope ["self", "spot"] ["self", "spot"] (defScope s_R_thread) := ⟨rfl, rfl, rfl, by decide +kernel, rfl, by decide +kernel, by decide +kernel⟩
abbrev s_R_threads : Stmt := inClass (top 35) 7
theorem sc_R_threads : FnScope ["self"] ["self"] (defScope s_R_threads) := ⟨rfl, rfl, rfl, by decide +kernel, rfl, by decide +kernel, by decide +kernel⟩
abbrev s_R_moved : Stmt := inClass (top 35) 9
theorem sc_R_moved : FnScope ["self", "by", "spot"] ["self", "by"] (defScope s_R_moved) := ⟨rfl, rfl, rfl, by decide +kernel, rfl, by decide +kernel, by decide +kernel⟩
abbrev s_R_alike : Stmt := inClass (top 35) 11
theorem sc_R_alike : FnScope ["self", "other"] ["self", "other"] (defScope s_R_alike) := ⟨rfl, rfl, rfl, by decide +kernel, rfl, by decide +kernel, by decide +kernel⟩
abbrev s_row_of_threads : Stmt := top 36
theorem sc_row_of_threads : FnScope ["threads", "size"] ["threads"] (defScope s_row_of_threads) := ⟨rfl, rfl, rfl, by decide +kernel, rfl, by decide +kernel, by decide +kernel⟩
abbrev s_can_be : Stmt := top 38
theorem sc_can_be : FnScope ["piece", "most", "many", "threads", "found", "size"] ["piece", "most"] (defScope s_can_be) := ⟨rfl, rfl, rfl, by decide +kernel, rfl, by decide +kernel, by decide +kernel⟩
abbrev s_longest_agreement : Stmt := top 39
theorem sc_longest_agreement : FnScope ["threads", "far", "size", "longest", "here", "spot"] ["threads", "far"] (defScope s_longest_agreement) := ⟨rfl, rfl, rfl, by decide +kernel, rfl, by decide +kernel, by decide +kernel⟩
abbrev s_enough : Stmt := top 40
theorem sc_enough : FnScope ["row", "most", "threads", "found", "far"] ["row", "most"] (defScope s_enough) := ⟨rfl, rfl, rfl, by decide +kernel, rfl, by decide +kernel, by decide +kernel⟩
abbrev s_is_there : Stmt := top 42
theorem sc_is_there : FnScope ["row", "piece", "spot", "number", "shade"] ["row", "piece", "spot"] (defScope s_is_there) := ⟨rfl, rfl, rfl, by decide +kernel, rfl, by decide +kernel, by decide +kernel⟩
abbrev s_fits : Stmt := top 43
theorem sc_fits : FnScope ["row", "piece", "spot"] ["row", "piece"] (defScope s_fits) := ⟨rfl, rfl, rfl, by decide +kernel, rfl, by decide +kernel, by decide +kernel⟩
abbrev s_P_init : Stmt := inClass (top 45) 0
theorem sc_P_init : FnScope ["self", "threads"] ["self", "threads"] (defScope s_P_init) := ⟨rfl, rfl, rfl, by decide +kernel, rfl, by decide +kernel, by decide +kernel⟩
abbrev s_P_len : Stmt := inClass (top 45) 1
theorem sc_P_len : FnScope ["self"] ["self"] (defScope s_P_len) := ⟨rfl, rfl, rfl, by decide +kernel, rfl, by decide +kernel, by decide +kernel⟩
abbrev s_P_eq : Stmt := inClass (top 45) 2
theorem sc_P_eq : FnScope ["self", "other"] ["self", "other"] (defScope s_P_eq) := ⟨rfl, rfl, rfl, by decide +kernel, rfl, by decide +kernel, by decide +kernel⟩
abbrev s_P_threads : Stmt := inClass (top 45) 5
theorem sc_P_threads : FnScope ["self"] ["self"] (defScope s_P_threads) := ⟨rfl, rfl, rfl, by decide +kernel, rfl, by decide +kernel, by decide +kernel⟩
abbrev s_P_joined : Stmt := inClass (top 45) 6
theorem sc_P_joined : FnScope ["self", "other", "both"] ["self", "other"] (defScope s_P_joined) := ⟨rfl, rfl, rfl, by decide +kernel, rfl, by decide +kernel, by decide +kernel⟩
abbrev s_cut : Stmt := top 46
theorem sc_cut : FnScope ["row", "first", "last", "spot"] ["row", "first", "last"] (defScope s_cut) := ⟨rfl, rfl, rfl, by decide +kernel, rfl, by decide +kernel, by decide +kernel⟩
abbrev s_l_pool : Stmt := top 48
theorem sc_l_pool : FnScope ["_law_script", "_law_k", "_law_cell", "_law_more", "_law_wide", "_law_found", "_law_turn"] ["_law_script", "_law_k"] (defScope s_l_pool) := ⟨rfl, rfl, rfl, by decide +kernel, rfl, by decide +kernel, by decide +kernel⟩
abbrev s_l_take : Stmt := top 49
theorem sc_l_take : FnScope ["_law_pool_here", "_law_many", "_law_digit"] ["_law_pool_here", "_law_many"] (defScope s_l_take) := ⟨rfl, rfl, rfl, by decide +kernel, rfl, by decide +kernel, by decide +kernel⟩
abbrev s_l_far : Stmt := top 50
theorem sc_l_far : FnScope ["_law_pool_here", "_law_size", "_law_found", "_law_turn"] ["_law_pool_here", "_law_size"] (defScope s_l_far) := ⟨rfl, rfl, rfl, by decide +kernel, rfl, by decide +kernel, by decide +kernel⟩
abbrev s_l_some_shades : Stmt := top 51
theorem sc_l_some_shades : FnScope ["_law_pool_here", "_law_many", "_law_letters", "_law_words", "_law_found", "_law_turn", "_law_word_here", "_law_some", "_law_place", "_law_letter", "_law_one"] ["_law_pool_here", "_law_many"] (defScope s_l_some_shades) := ⟨rfl, rfl, rfl, by decide +kernel, rfl, by decide +kernel, by decide +kernel⟩
abbrev s_l_parts : Stmt := top 52
theorem sc_l_parts : FnScope ["_law_pool_here", "_law_upto", "_law_wide", "_law_shades", "_law_found", "_law_turn"] ["_law_pool_here", "_law_upto", "_law_wide"] (defScope s_l_parts) := ⟨rfl, rfl, rfl, by decide +kernel, rfl, by decide +kernel, by decide +kernel⟩
abbrev s_l_word : Stmt := top 53
theorem sc_l_word : FnScope ["_law_parts_here", "_law_tack", "_law_words", "_law_tint", "_law_count"] ["_law_parts_here", "_law_tack"] (defScope s_l_word) := ⟨rfl, rfl, rfl, by decide +kernel, rfl, by decide +kernel, by decide +kernel⟩
abbrev s_l_round : Stmt := top 54
theorem sc_l_round : FnScope ["_law_words", "_law_size"] ["_law_words"] (defScope s_l_round) := ⟨rfl, rfl, rfl, by decide +kernel, rfl, by decide +kernel, by decide +kernel⟩
abbrev s_l_drawn : Stmt := top 55
theorem sc_l_drawn : FnScope ["_law_pool_here", "_law_upto", "_law_wide", "_law_parts_here", "_law_tack", "_law_begun", "_law_words", "_law_at"] ["_law_pool_here", "_law_upto", "_law_wide"] (defScope s_l_drawn) := ⟨rfl, rfl, rfl, by decide +kernel, rfl, by decide +kernel, by decide +kernel⟩
abbrev s_l_among : Stmt := top 56
theorem sc_l_among : FnScope ["_law_band", "_law_bands", "_law_one"] ["_law_band", "_law_bands"] (defScope s_l_among) := ⟨rfl, rfl, rfl, by decide +kernel, rfl, by decide +kernel, by decide +kernel⟩
abbrev s_l_shown : Stmt := top 57
theorem sc_l_shown : FnScope ["_law_piece", "_law_upto", "_law_found", "_law_last", "_law_one"] ["_law_piece", "_law_upto"] (defScope s_l_shown) := ⟨rfl, rfl, rfl, by decide +kernel, rfl, by decide +kernel, by decide +kernel⟩
abbrev s_l_piece_right : Stmt := top 58
theorem sc_l_piece_right : FnScope ["_law_pool_here", "_law_band", "_law_begun", "_law_many", "_law_piece", "_law_upto", "_law_longer", "_law_words", "_law_one"] ["_law_pool_here", "_law_band"] (defScope s_l_piece_right) := ⟨rfl, rfl, rfl, by decide +kernel, rfl, by decide +kernel, by decide +kernel⟩
abbrev s_l_enough_right : Stmt := top 59
theorem sc_l_enough_right : FnScope ["_law_pool_here", "_law_band", "_law_upto", "_law_many", "_law_begun", "_law_found", "_law_more", "_law_at"] ["_law_pool_here", "_law_band"] (defScope s_l_enough_right) := ⟨rfl, rfl, rfl, by decide +kernel, rfl, by decide +kernel, by decide +kernel⟩
abbrev s_law : Stmt := top 60
theorem sc_law : FnScope ["_law_script", "_law_k", "_law_band", "_law_words", "_law_pool_here", "_law_turn"] ["_law_script"] (defScope s_law) := ⟨rfl, rfl, rfl, by decide +kernel, rfl, by decide +kernel, by decide +kernel⟩

/-! ### what the top has left -/
def FnA (K : PySem.W.Frag) (mg : Str → Option Value) (x : Str) (st : Stmt) : Prop := (∃ fd, FunD K x x (defArgs st) (defBody st) (defScope st) [] [] (ga K x) fd) ∧ mg x = some (.ref (ga K x))
def MtA (K : PySem.W.Frag) (C m q : Str) (st : Stmt) : Prop := (∃ fd, FunD K m q (defArgs st) (defBody st) (defScope st) [] [] (ma K (ga K C) m) fd) ∧ Meth K (ga K C) m (ma K (ga K C) m)
/-- what isinstance asks of an instance's class -/
structure IsiA (K : PySem.W.Frag) (C : Addr) : Prop where
  ha : PySem.W.findIn K (.ref C) "__class__" = some (some (.builtin "object.__class__"))
  hn : PySem.W.specialIn K (.builtin "object.__class__") "__get__" = some (some (.builtin "getset_descriptor.__get__"))
  htk : PySem.W.takesIn K (.builtin "object.__class__") = some true
  hm : PySem.W.mroIn K C (.type "object") = some true
/-- a class of the text, with its one field kept -/
structure ClsA (K : PySem.W.Frag) (mg : Str → Option Value) (C : Str) : Prop where
  cl : Cls K (ga K C)
  no : NoAttr K (ga K C) "kept"
  mkr : Mk K (ga K C) (ma K (ga K C) "__init__")
  gl : mg C = some (.ref (ga K C))
  isi : IsiA K (ga K C)
structure Gs (K : PySem.W.Frag) (w : World) (mg : Str → Option Value) : Prop where
  f_is_whole : FnA K mg "is_whole" s_is_whole
  f_is_between : FnA K mg "is_between" s_is_between
  f_is_word : FnA K mg "is_word" s_is_word
  f_is_shade : FnA K mg "is_shade" s_is_shade
  f_is_stripe : FnA K mg "is_stripe" s_is_stripe
  f_check_stripes : FnA K mg "check_stripes" s_check_stripes
  f_threads_of : FnA K mg "threads_of" s_threads_of
  f_are_threads : FnA K mg "are_threads" s_are_threads
  f_merged : FnA K mg "merged" s_merged
  f_run_word : FnA K mg "run_word" s_run_word
  f_pivot_word : FnA K mg "pivot_word" s_pivot_word
  f_fold_word : FnA K mg "fold_word" s_fold_word
  f_left_word : FnA K mg "left_word" s_left_word
  f_right_word : FnA K mg "right_word" s_right_word
  f_is_manner : FnA K mg "is_manner" s_is_manner
  f_check_spot : FnA K mg "check_spot" s_check_spot
  f_least_round : FnA K mg "least_round" s_least_round
  f_row_of_threads : FnA K mg "row_of_threads" s_row_of_threads
  f_longest_agreement : FnA K mg "longest_agreement" s_longest_agreement
  f_enough : FnA K mg "enough" s_enough
  f_is_there : FnA K mg "is_there" s_is_there
  f_fits : FnA K mg "fits" s_fits
  f_cut : FnA K mg "cut" s_cut
  f_l_pool : FnA K mg "_law_pool" s_l_pool
  f_l_take : FnA K mg "_law_take" s_l_take
  f_l_far : FnA K mg "_law_far" s_l_far
  f_l_some_shades : FnA K mg "_law_some_shades" s_l_some_shades
  f_l_parts : FnA K mg "_law_parts" s_l_parts
  f_l_word : FnA K mg "_law_word" s_l_word
  f_l_round : FnA K mg "_law_round" s_l_round
  f_l_drawn : FnA K mg "_law_drawn" s_l_drawn
  f_l_among : FnA K mg "_law_among" s_l_among
  f_l_shown : FnA K mg "_law_shown" s_l_shown
  f_l_piece_right : FnA K mg "_law_piece_right" s_l_piece_right
  f_l_enough_right : FnA K mg "_law_enough_right" s_l_enough_right
  f_law : FnA K mg "law" s_law
  m_R_len : MtA K "Row" "__len__" "Row.__len__" s_R_len
  m_R_thread : MtA K "Row" "thread" "Row.thread" s_R_thread
  m_R_threads : MtA K "Row" "threads" "Row.threads" s_R_threads
  m_R_moved : MtA K "Row" "moved" "Row.moved" s_R_moved
  m_R_alike : MtA K "Row" "alike" "Row.alike" s_R_alike
  m_P_init : MtA K "Piece" "__init__" "Piece.__init__" s_P_init
  m_P_len : MtA K "Piece" "__len__" "Piece.__len__" s_P_len
  m_P_eq : MtA K "Piece" "__eq__" "Piece.__eq__" s_P_eq
  m_P_threads : MtA K "Piece" "threads" "Piece.threads" s_P_threads
  m_P_joined : MtA K "Piece" "joined" "Piece.joined" s_P_joined
  f_can_be : ∃ fd, FunD K "can_be" "can_be" (defArgs s_can_be) (defBody s_can_be) (defScope s_can_be) [.non] [] (ga K "can_be") fd
  g_can_be : mg "can_be" = some (.ref (ga K "can_be"))
  k_can_be : PySem.W.keepIn K (.ref (ga K "can_be")) = true
  f_R_init : ∃ fd, FunD K "__init__" "Row.__init__" (defArgs s_R_init) (defBody s_R_init) (defScope s_R_init) [.str "run", .int 0] [] (ma K (ga K "Row") "__init__") fd
  row : ClsA K mg "Row"
  pie : ClsA K mg "Piece"
  neP : PySem.W.findIn K (.ref (ga K "Piece")) "__ne__" = some (some (.builtin "object.__ne__"))
  big : ∃ t, mg "BIG" = some (.int (10 ^ 30) t)
  most : ∃ t, mg "MOST" = some (.int 240 t)
  letters : ∃ t, mg "LETTERS" = some (.str "abcdefghijklmnopqrstuvwxyz" t)
  g_man : mg "MANNERS" = some (.ref (ga K "MANNERS"))
  man : ∃ es n, KDict K w (ga K "MANNERS") es n
  man1 : ∃ u, PySem.W.nsIn K (ga K "MANNERS") "run" = some (some u) ∧ RelV (.ref (ga K "run_word")) u
  man2 : ∃ u, PySem.W.nsIn K (ga K "MANNERS") "pivot" = some (some u) ∧ RelV (.ref (ga K "pivot_word")) u
  man3 : ∃ u, PySem.W.nsIn K (ga K "MANNERS") "fold" = some (some u) ∧ RelV (.ref (ga K "fold_word")) u
  man4 : ∃ u, PySem.W.nsIn K (ga K "MANNERS") "left" = some (some u) ∧ RelV (.ref (ga K "left_word")) u
  man5 : ∃ u, PySem.W.nsIn K (ga K "MANNERS") "right" = some (some u) ∧ RelV (.ref (ga K "right_word")) u
  z_len : mg "len" = none
  z_isinstance : mg "isinstance" = none
  z_int : mg "int" = none
  z_bool : mg "bool" = none
  z_str : mg "str" = none
  z_tuple : mg "tuple" = none
  z_all : mg "all" = none
  z_enumerate : mg "enumerate" = none
  z_range : mg "range" = none
  z_max : mg "max" = none
  z_min : mg "min" = none
  z_sum : mg "sum" = none
  z_abs : mg "abs" = none
  z_divmod : mg "divmod" = none
  z_list : mg "list" = none

/-! ### a def that keeps its promise -/
/-- a def of the module: level, name, parameters, promise -/
structure Dg (P : Program) (w : World) (K : PySem.W.Frag) (mg : Str → Option Value) (base : Heap) (k : Nat) (x : Str) (ps : List Str) (sp : Sp) : Prop where
  ex : ∃ fd, FnOk P w K mg base CX0 k (ga K x) fd ps sp ∧ Binds K fd ps []
  gl : mg x = some (.ref (ga K x))
  kp : PySem.W.keepIn K (.ref (ga K x)) = true
/-- a method -/
structure Dm (P : Program) (w : World) (K : PySem.W.Frag) (mg : Str → Option Value) (base : Heap) (k : Nat) (C m : Str) (ps : List Str) (sp : Sp) : Prop where
  ex : ∃ fd, FnOk P w K mg base CX0 k (ma K (ga K C) m) fd ps sp ∧ Binds K fd ps []
  mt : Meth K (ga K C) m (ma K (ga K C) m)
section
variable {X : Cx} {k : Nat} {x C m : Str} {ps : List Str} {sp : Sp} {e o : Expr} {es : List Expr} {t : TA} {ta : TE} {p pos apos : Pos}
theorem pe_dg (D : Dg X.prog X.w X.K X.mg X.base k x ps sp) (hr : Room k X.A) (ha : PA X (e :: es) t) (hg : Gl X x := by rfl) (hdb : (x == ("__debug__" : Str)) = false := by decide)
    (he : starEach (e :: es) X.env = (false, eval e X.env) :: starEach es X.env := by rfl) (hpl : (backTo pos (starEach es X.env)).any (·.1) = false := by rfl) : PE X (.Call (.Name x p) (e :: es) [] pos) (tCall sp [] E0 t) := by
  obtain ⟨fd, F, hb⟩ := D.ex
  exact pe_call F hr hg D.gl D.kp hb .nil pass0 ha hdb he hpl
theorem pe_dm {KK : PySem.W.Frag} (he : PE X o ta) (c : Cls KK (ga KK C)) (D : Dm X.prog X.w KK X.mg X.base k C m ps sp) (hr : Room k X.A) (ha : PA X (e :: es) t) {pl : Sem Bool} (hK : X.K = KK := by rfl)
    (hst : starEach (e :: es) X.env = (false, eval e X.env) :: starEach es X.env := by rfl) (hpl : (backTo pos (starEach es X.env)).any (·.1) = false := by rfl)
    (ht : eval (.Call (.Attribute o m apos) (e :: es) [] pos) X.env = (do
      let ov ← eval o X.env
      standAt apos.atName
      let (f, first) ← holding [ov] (getMethod ov m pl)
      callWith pos f first (backTo pos (starEach (e :: es) X.env)) (backToKw pos (keywordEach [] X.env))) := by rfl) :
    PE X (.Call (.Attribute o m apos) (e :: es) [] pos) (tMeth (ga KK C) m sp [] E0 ta t) := by
  subst hK
  obtain ⟨fd, F, hb⟩ := D.ex
  exact pe_meth he c D.mt F hr hb .nil pass0 ha hst hpl ht
theorem pe_dm0 {KK : PySem.W.Frag} (he : PE X o ta) (c : Cls KK (ga KK C)) (D : Dm X.prog X.w KK X.mg X.base k C m ps sp) (hr : Room k X.A) {pl : Sem Bool} (hK : X.K = KK := by rfl)
    (ht : eval (.Call (.Attribute o m apos) [] [] pos) X.env = (do
      let ov ← eval o X.env
      standAt apos.atName
      let (f, first) ← holding [ov] (getMethod ov m pl)
      callWith pos f first (backTo pos (starEach [] X.env)) (backToKw pos (keywordEach [] X.env))) := by rfl) :
    PE X (.Call (.Attribute o m apos) [] [] pos) (tMeth (ga KK C) m sp [] E0 ta tNil) := by
  subst hK
  obtain ⟨fd, F, hb⟩ := D.ex
  exact pe_meth0 he c D.mt F hr hb .nil pass0 ht
theorem call_lenD {KK : PySem.W.Frag} (D : Dm X.prog X.w KK X.mg X.base k C "__len__" ps sp) (hr : Room (k + 1) X.A) (hK : X.K = KK := by rfl) : CallR X (.builtin "len") (rLenI (ga KK C) sp) := by
  subst hK
  obtain ⟨fd, F, hb⟩ := D.ex
  exact call_lenI F hr D.mt hb
end
section
variable {P : Program} {w : World} {K : PySem.W.Frag} {mg : Str → Option Value} {base : Heap} {x C m q : Str} {st : Stmt} {N ps : List Str} {k : Nat} {sp : Sp}
theorem dg_of (A : FnA K mg x st) (S : FnScope N ps (defScope st))
    (hb : ∀ (kV doc pm : Value) (an : Option Addr) (cdv ct : Value) (us : List Value), us.length = ps.length → bindArgs (PySem.W.fnOf x x (defArgs st) (defBody st) (defScope st) .none kV doc pm an cdv ct) ⟨us, []⟩ = pure (ps.zip us))
    (len : ∀ vs H Q E, sp vs H Q E → vs.length = ps.length)
    (hbody : ∀ (cdv : Value) (A : Around) (outer : List Env) (s : Shared) (H : Hp) (vs : List V) (Q : VK) (E : XK), Room k (A.deeper (envOfC x (defScope st) s.heap.objs.size (ga K x) cdv)) → sp vs H Q E →
      ∃ t, PSs (cxOf CX0 P w K mg base N x (defScope st) (ga K x) cdv A outer s H E).nox (defBody st) t ∧ t { nx := fun _ H' => Q .non H', rt := Q } (start N vs) H) : Dg P w K mg base (k + 1) x ps sp := by
  obtain ⟨⟨fd, F⟩, gl⟩ := A
  refine ⟨⟨fd, F.ok S len fun cdv A outer s H vs Q E hr hsp => ?_, F.bindsN hb⟩, gl, F.kp⟩
  obtain ⟨t, h, q⟩ := hbody cdv A outer s H vs Q E hr hsp
  exact ⟨t, h.nox, q⟩
theorem dm_of (A : MtA K C m q st) (S : FnScope N ps (defScope st))
    (hb : ∀ (kV doc pm : Value) (an : Option Addr) (cdv ct : Value) (us : List Value), us.length = ps.length → bindArgs (PySem.W.fnOf m q (defArgs st) (defBody st) (defScope st) .none kV doc pm an cdv ct) ⟨us, []⟩ = pure (ps.zip us))
    (len : ∀ vs H Q E, sp vs H Q E → vs.length = ps.length)
    (hbody : ∀ (cdv : Value) (A : Around) (outer : List Env) (s : Shared) (H : Hp) (vs : List V) (Q : VK) (E : XK), Room k (A.deeper (envOfC q (defScope st) s.heap.objs.size (ma K (ga K C) m) cdv)) → sp vs H Q E →
      ∃ t, PSs (cxOf CX0 P w K mg base N q (defScope st) (ma K (ga K C) m) cdv A outer s H E).nox (defBody st) t ∧ t { nx := fun _ H' => Q .non H', rt := Q } (start N vs) H) : Dm P w K mg base (k + 1) C m ps sp := by
  obtain ⟨⟨fd, F⟩, mt⟩ := A
  refine ⟨⟨fd, F.ok S len fun cdv A outer s H vs Q E hr hsp => ?_, F.bindsN hb⟩, mt⟩
  obtain ⟨t, h, q⟩ := hbody cdv A outer s H vs Q E hr hsp
  exact ⟨t, h.nox, q⟩
end

/-! ### what stands in the heap -/
theorem same_upd {H : Hp} {p : Addr} {o : HO} (h : H p = none) : Same H (upd H p o) := fun b x e => by
  rw [upd_ne (ne_of_none e h)]
  exact e
/-- an object that H does not know may change -/
theorem Same.mut {H H' : Hp} {p : Addr} {o : HO} (e : Same H H') (h : H p = none) : Same H (upd H' p o) := fun a u ha => by
  rw [upd_ne (ne_of_none ha h)]
  exact e a u ha
def StrT (H : Hp) (t : Addr) (ts : List Str) : Prop := H t = some (.tup (ts.map V.str))
theorem StrT.sq {K : PySem.W.Frag} {H : Hp} {t : Addr} {ts : List Str} (h : StrT H t ts) : SqT K H t (ts.map V.str) := SqT.of h
/-- a row whose threads from 0 on are ts; a piece -/
def ObA (K : PySem.W.Frag) (C : Str) (H : Hp) (p : Addr) (ts : List Str) : Prop := ∃ (dx t : Addr), H p = some (.ins (ga K C) dx [("kept", V.ref t)]) ∧ StrT H t ts
theorem ObA.same {K : PySem.W.Frag} {C : Str} {H H' : Hp} {p : Addr} {ts : List Str} (h : ObA K C H p ts) (e : Same H H') : ObA K C H' p ts := by
  obtain ⟨dx, t, h1, h2⟩ := h
  exact ⟨dx, t, e _ _ h1, e _ _ h2⟩
theorem kept_look (t : Addr) : ([("kept", V.ref t)] : List (Str × V)).lookup ("kept" : Str) = some (.ref t) := by
  have h := lookup_putF "kept" "kept" (V.ref t) []
  rw [if_pos rfl] at h
  exact h
theorem kept_no (t : Addr) {m : Str} (h : ¬ m = "kept") : ([("kept", V.ref t)] : List (Str × V)).lookup m = none := by
  have h1 := lookup_putF "kept" m (V.ref t) []
  rw [if_neg h] at h1
  exact h1
structure Shades (ts : List Str) : Prop where
  pos : 1 ≤ ts.length
  le : ts.length ≤ 240
  sh : ∀ x ∈ ts, Shade x
structure RowOk (ts : List Str) : Prop extends Shades ts where
  prim : lr ts = ts.length
theorem sz_of {n : Nat} (h : n ≤ 100000) : n ≤ sizeLine := Nat.le_trans h (by decide)
theorem sz_lt {n : Nat} (h : n < 100000) : n < sizeLine := Nat.lt_of_lt_of_le h (by decide)
end SL
set_option Elab.async false
set_option linter.all false
set_option maxRecDepth 100000
set_option maxHeartbeats 4000000
namespace SL
open PySem PySem.Spec PyProof.Rows L2 He
/-! ### comprehensions that only add to the heap -/
theorem lc_flt {J : It} {n : Nat} {G : Hp → Prop} {Y : Nat → Hp → V → Hp → Prop} (w : Walk J n G Y) {te : TE} {tt : TT} {j : Nat} {vs : List Nat} {σ : L2.St} {H1 : Hp} {D : Addr} {Qd : Hp → Prop} (f : Nat → Bool) (v : Nat → V)
    (hD : H1 D = none) (hn : n ≤ 50000) (hG : ∀ H, Same H1 H → G H) (hY : ∀ i H x H', Y i H x H' → H' = H) (hw : ∀ x, wipe ((wipe σ vs).set j (some x)) vs = wipe σ vs)
    (ht : ∀ i x H, i < n → Same H1 H → Y i H x H → ∀ Q : Bool → Hp → Prop, (∀ H', Same H H' → Q (f i) H') → tt ((wipe σ vs).set j (some x)) H Q)
    (he : ∀ i x H, i < n → f i = true → Same H1 H → (∃ H0, Y i H0 x H0) → ∀ Q : VK, (∀ H', Same H H' → Q (v i) H') → te ((wipe σ vs).set j (some x)) H Q)
    (hd : ∀ H, Same H1 H → H D = some (.lst (((List.range n).filter f).map v)) → Qd H) :
    ∃ W : Nat → Nat → Hp → Prop, (∃ m, W 0 m (upd H1 D (.lst []))) ∧ ∀ i m H, W i m H →
      (J.stop i H ∧ Qd H) ∨ (J.go i H ∧ ∃ Nx : Hp → Prop, (∀ H', Nx H' → ∃ m', m' < m ∧ W (i + 1) m' H') ∧ ∀ x H', J.yld i H x H' → gName j x (wipe σ vs) H' fun σ2 H2 => wipe σ2 vs = wipe σ vs ∧ tt σ2 H2 fun b H3 =>
        if b = true then te σ2 H3 fun y H4 => ∃ acc, H4 D = some (.lst acc) ∧ acc.length < sizeLine ∧ Nx (upd H4 D (.lst (acc ++ [y]))) else Nx H3) := by
  refine lc_it w (fun i H => Same H1 H ∧ H D = some (.lst (((List.range i).filter f).map v))) ⟨same_upd hD, upd_same⟩ (fun i H _ p => hG H p.1) (fun i x H H' hi p y => ?_) (fun H p => hd H p.1 p.2)
  obtain rfl := hY i H x H' y
  show wipe ((wipe σ vs).set j (some x)) vs = wipe σ vs ∧ _
  refine ⟨hw x, ht i x H' hi p.1 y _ fun H3 s3 => ?_⟩
  cases hf : f i with
  | true =>
    refine iteT (he i x H3 hi hf (p.1.trans s3) ⟨_, y⟩ _ fun H4 s4 => ⟨_, s4 _ _ (s3 _ _ p.2), ?_, Same.mut ((p.1.trans s3).trans s4) hD, ?_⟩)
    · rw [List.length_map]
      have := List.length_filter_le f (List.range i)
      rw [List.length_range] at this
      exact sz_lt (by omega)
    · rw [upd_same, List.range_succ, List.filter_append, List.map_append, List.filter_cons, if_pos hf] <;> rfl
  | false =>
    refine iteF ⟨p.1.trans s3, ?_⟩
    rw [List.range_succ, List.filter_append, List.map_append, List.filter_cons, if_neg (by rw [hf]; exact Bool.false_ne_true)]
    show H3 D = some (.lst (_ ++ []))
    rw [List.append_nil]
    exact s3 _ _ p.2
theorem lc_map {J : It} {n : Nat} {G : Hp → Prop} {Y : Nat → Hp → V → Hp → Prop} (w : Walk J n G Y) {te : TE} {j : Nat} {vs : List Nat} {σ : L2.St} {H1 : Hp} {D : Addr} {Qd : Hp → Prop} (v : Nat → V)
    (hD : H1 D = none) (hn : n ≤ 50000) (hG : ∀ H, Same H1 H → G H) (hY : ∀ i H x H', Y i H x H' → H' = H) (hw : ∀ x, wipe ((wipe σ vs).set j (some x)) vs = wipe σ vs)
    (he : ∀ i x H, i < n → Same H1 H → (∃ H0, Y i H0 x H0) → ∀ Q : VK, (∀ H', Same H H' → Q (v i) H') → te ((wipe σ vs).set j (some x)) H Q)
    (hd : ∀ H, Same H1 H → H D = some (.lst ((List.range n).map v)) → Qd H) :
    ∃ W : Nat → Nat → Hp → Prop, (∃ m, W 0 m (upd H1 D (.lst []))) ∧ ∀ i m H, W i m H →
      (J.stop i H ∧ Qd H) ∨ (J.go i H ∧ ∃ Nx : Hp → Prop, (∀ H', Nx H' → ∃ m', m' < m ∧ W (i + 1) m' H') ∧ ∀ x H', J.yld i H x H' → gName j x (wipe σ vs) H' fun σ2 H2 => wipe σ2 vs = wipe σ vs ∧ tYes σ2 H2 fun b H3 =>
        if b = true then te σ2 H3 fun y H4 => ∃ acc, H4 D = some (.lst acc) ∧ acc.length < sizeLine ∧ Nx (upd H4 D (.lst (acc ++ [y]))) else Nx H3) :=
  lc_flt w (fun _ => true) v hD hn hG hY hw (fun i x H _ _ _ Q q => q H (Same.refl H)) (fun i x H hi _ s y => he i x H hi s y) (fun H s e => hd H s (by
    rw [List.filter_eq_self.mpr (fun _ _ => rfl)] at e
    exact e))
theorem yat_same {xs : List V} : ∀ i H x H', YAt xs i H x H' → H' = H := fun _ _ _ _ y => y.1
theorem yfn_same {f : Nat → V} : ∀ i H x H', YFn f i H x H' → H' = H := fun _ _ _ _ y => y.1

/-! ### tests whose answer is known -/
theorem iteFe {b : Bool} {A B : Prop} (hb : b = false) (h : B) : if b = true then A else B := by
  rw [hb]
  exact iteF h
theorem iteTe {b : Bool} {A B : Prop} (hb : b = true) (h : A) : if b = true then A else B := by
  rw [hb]
  exact iteT h
theorem iteB {b : Bool} {A B : Prop} (h1 : b = true → A) (h2 : b = false → B) : if b = true then A else B := by
  cases b with
  | true => exact iteT (h1 rfl)
  | false => exact iteF (h2 rfl)
/-! ### all -/
theorem seq_true {K : PySem.W.Frag} {H : Hp} {p : Addr} {n : Nat} (h : H p = some (.lst ((List.range n).map fun _ => V.bl true))) : SqL K H p ((List.replicate n true).map V.bl) := by
  have e : (List.replicate n true).map V.bl = (List.range n).map fun _ => V.bl true := by
    rw [List.map_replicate, List.map_const', List.length_range]
  rw [e]
  exact SqL.of h
theorem all_rep (n : Nat) : (List.replicate n true).all id = true := by simp
theorem seq_bls {K : PySem.W.Frag} {H : Hp} {p : Addr} {n : Nat} {f : Nat → Bool} (h : H p = some (.lst ((List.range n).map fun i => V.bl (f i)))) : SqL K H p (((List.range n).map f).map V.bl) := by
  rw [List.map_map]
  exact SqL.of h
theorem all_bls (n : Nat) (f : Nat → Bool) : ((List.range n).map f).all id = (List.range n).all f := by simp
theorem kit_own {K : PySem.W.Frag} {C : Addr} : PySem.W.kitOne K (.ref C) (.ref C) = some true := by
  unfold PySem.W.kitOne
  simp
theorem ty_own {K : PySem.W.Frag} {H : Hp} {C dx p : Addr} {fs : List (Str × V)} (hp : H p = some (.ins C dx fs)) (cl : Cls K C) (I : IsiA K C) : TyX K H (.ref p) (.ref C) := .base (.ins hp cl I.ha I.hn I.htk I.hm)
end SL
set_option Elab.async false
set_option linter.all false
set_option maxRecDepth 100000
set_option maxHeartbeats 4000000
namespace SL
open PySem PySem.Spec PyProof.Rows L2 He
/-! ### range(a, b), however great -/
theorem turn_long {P : Program} {w : World} {K : PySem.W.Frag} {tg : Expr} (it : Addr) (lo : Int) (n : Nat) : Turn P w K tg (Itr lo n) [it] it (fun i h => IsLongIter h it (lo + (i : Nat) * 1) ((n : Int) - (i : Nat)) 1) where
  mem := by simp
  obj := fun i h st b hb => by
    have e : b = it := by simpa using hb
    subst e
    exact ⟨_, st, fun v z => by
      have z' : Data.fields _ = Data.cell v := z
      cases z'⟩
  keep := fun i h h' st k => k it (by simp) _ st
  item := by
    intro X hP hw hK hc i pins s σ H E I hf st hg
    subst hP hw hK
    obtain ⟨f0, f1, f2, f3, f4, f5⟩ := hf it (by simp)
    have W := Walks.longrange (prog := X.prog) (w := X.w) (I.ok.hd hc) it lo 1 n
    refine W.item i s _ _ hg st fun v h' tk hv st' kk => ?_
    obtain ⟨t, rfl⟩ := hv
    have I1 : Inv X pins σ H { s with heap := h', toks := tk } := I.turned (fun b o hb e => kk b o (by simpa using hb) e) f0 f1 f3 f4 f5
    refine ⟨_, rfl, go_of (s := { s with heap := h', toks := tk }) (n := "longrange_iterator") st' rfl rfl (by decide) ⟨.int (lo + i), H, I1, ⟨t, ?_⟩, ⟨rfl, rfl⟩, st', fun b hb => (hf b hb).1⟩⟩
    rw [Int.mul_one]
  done := by
    intro X hP hw hK hc i pins s σ H E I hf st hg
    subst hP hw hK
    obtain ⟨f0, f1, f2, f3, f4, f5⟩ := hf it (by simp)
    exact wpAny_pyNext_long_end (I.ok.hd hc) st (by have : n ≤ i := hg; omega) fun h' eb => ⟨rfl, I.turned (t' := s.toks) (fun b o hb e => eb b o hb e) f0 f1 f3 f4 f5⟩
  self := fun _ _ _ _ _ st h => wpAny_pyIter_longiter st h
section
variable {X : Cx} {tg : Expr}
theorem range_itA {pins : List (Addr × Obj)} {σ : L2.St} {H : Hp} {s : Shared} {R : It → Hp → Prop} {E : Value → Shared → Prop} {lo hi : Int} {t u v : Tok} {tk : Nat} (I : Inv X pins σ H s)
    (q : R (Itr lo (hi - lo).toNat) H) : wpAny (model X.prog X.w) X.A (pyIter (.ref s.heap.objs.size)) (PIE X pins σ tg R) E { s with heap := s.heap.push { cls := .type "range", data := .fields #[.int lo t, .int hi u, .int 1 v] }, toks := tk } := by
  have I1 : Inv X pins σ H { s with heap := s.heap.push { cls := .type "range", data := .fields #[.int lo t, .int hi u, .int 1 v] }, toks := tk } := I.kept fun b o e => Heap.get?_push_of_some _ e
  have e1 : lo + ((0 : Nat) : Int) * 1 = lo := by simp
  have e2 : (((hi - lo).toNat : Nat) : Int) - ((0 : Nat) : Int) = Builtin.Range.rangeSize lo hi 1 := by rw [rangeSize_one]; split <;> omega
  have hfp : ∀ b ∈ [(s.heap.push { cls := .type "range", data := .fields #[.int lo t, .int hi u, .int 1 v] }).objs.size], FpOk X pins H b := fun b hb => by
    have e : b = (s.heap.push { cls := .type "range", data := .fields #[.int lo t, .int hi u, .int 1 v] }).objs.size := by simpa using hb
    subst e
    exact I1.fpOk (Nat.le_refl _) (I1.hok.fresh (Nat.le_refl _))
  by_cases hsm : Builtin.Range.small lo hi 1 = true
  · refine wpAny_pyIter_range (IsRange.new ..) hsm ?_
    refine ⟨_, _, _, _, H, rfl, I1.kept (t' := tk) fun b o e => Heap.get?_push_of_some _ e, turn_range _ lo (hi - lo).toNat, ?_, hfp, q⟩
    show IsRangeIter _ _ (lo + ((0 : Nat) : Int) * 1) ((((hi - lo).toNat : Nat) : Int) - ((0 : Nat) : Int)) 1
    rw [e1, e2]
    exact Heap.get?_push_size _ rfl
  · refine wpAny_pyIter_longrange (IsRange.new ..) (by simpa using hsm) ?_
    refine ⟨_, _, _, _, H, rfl, I1.kept (t' := tk) fun b o e => Heap.get?_push_of_some _ e, turn_long _ lo (hi - lo).toNat, ?_, hfp, q⟩
    show IsLongIter _ _ (lo + ((0 : Nat) : Int) * 1) ((((hi - lo).toNat : Nat) : Int) - ((0 : Nat) : Int)) 1
    rw [e1, e2]
    exact Heap.get?_push_size _ rfl
def iRng2A (ta : TA) : TI := fun σ H R => ta σ H fun vs H1 => ∃ i j : Int, vs = [.int i, .int j] ∧ R (Itr i (j - i).toNat) H1
theorem pi_range2A {a b : Expr} {ta : TA} {p pos : Pos} (hg : Gl X "range") (hm : X.mg "range" = none) (ha : PA X [a, b] ta) (hs : starEach [a, b] X.env = [(false, eval a X.env), (false, eval b X.env)] := by rfl) (hs2 : starEach [b] X.env = [(false, eval b X.env)] := by rfl) :
    PI X tg (.Call (.Name "range" p) [a, b] [] pos) (iRng2A ta) := by
  refine ⟨fun pins s σ H R I h => ?_⟩
  refine Call_ (ld_blt I hg hm boot_range (PyProof.Rows.callWith_type1 (thn (ha.run pos pins s σ H _ I h) fun us s1 ⟨vs, H1, I1, r1, q1⟩ => ?_) (by rw [hs, hs2]) (by rw [hs2]; rfl)))
  obtain ⟨i, j, e, q⟩ := q1
  subst e
  cases r1 with
  | cons r rr =>
    cases rr with
    | cons r' rr =>
      cases rr
      obtain ⟨t, rfl⟩ := r
      obtain ⟨t', rfl⟩ := r'
      exact call_range_2 (range_itA I1 q)
end
end SL
set_option Elab.async false
set_option linter.all false
set_option maxRecDepth 100000
set_option maxHeartbeats 4000000
namespace SL
open PySem PySem.Spec PyProof.Rows L2 He
section
variable {P : Program} {w : World} {K : PySem.W.Frag} {mg : Str → Option Value} {base : Heap}
/-! ### is_whole -/
def spIsWhole : Sp := fun vs H Q _ => ∃ n : Int, vs = [.int n] ∧ Q (.bl true) H
theorem ok_is_whole (G : Gs K w mg) : Dg P w K mg base 1 "is_whole" ["x"] spIsWhole := by
  refine dg_of G.f_is_whole sc_is_whole (fun _ _ _ _ _ _ us hl => match us, hl with | [_], _ => rfl) (fun vs H Q E h => ?_) (fun cdv A outer s H vs Q E hr h => ?_)
  · obtain ⟨n, rfl, _⟩ := h
    rfl
  · obtain ⟨n, rfl, q⟩ := h
    refine ⟨_, pss_one (ps_ret (pe_and (pe_callB call_isi (by rfl) G.z_isinstance (by decide +kernel) (pa_cons (pv 0) (pa_cons (pe_bltn (v := .ty "int") (by rfl) G.z_int (by decide +kernel) rfl) pa_nil)))
      (pe_one (pe_not (pe_callB call_isi (by rfl) G.z_isinstance (by decide +kernel) (pa_cons (pv 0) (pa_cons (pe_bltn (v := .ty "bool") (by rfl) G.z_bool (by decide +kernel) rfl) pa_nil))))))), ?_⟩
    refine ⟨_, rfl, _, _, _, _, true, rfl, .ty _, .base (.int n), kit_ty (by decide +kernel), true, rfl, iteT ?_⟩
    exact ⟨_, rfl, _, _, _, _, false, rfl, .ty _, .base (.int n), kit_ty (by decide +kernel), false, rfl, q⟩
/-! ### is_between -/
def spIsBetween : Sp := fun vs H Q _ => ∃ n lo hi : Int, vs = [.int n, .int lo, .int hi] ∧ (lo ≤ n ∧ n ≤ hi) ∧ Q (.bl true) H
theorem ok_is_between (G : Gs K w mg) : Dg P w K mg base 2 "is_between" ["x", "low", "high"] spIsBetween := by
  have D1 : Dg P w K mg base 1 "is_whole" ["x"] spIsWhole := ok_is_whole G
  refine dg_of G.f_is_between sc_is_between (fun _ _ _ _ _ _ us hl => match us, hl with | [_, _, _], _ => rfl) (fun vs H Q E h => ?_) (fun cdv A outer s H vs Q E hr h => ?_)
  · obtain ⟨n, lo, hi, rfl, _⟩ := h
    rfl
  · obtain ⟨n, lo, hi, rfl, ⟨h1, h2⟩, q⟩ := h
    refine ⟨_, pss_one (ps_ret (pe_and (pe_dg D1 hr (pa_cons (pv 0) pa_nil)) (pe_one (pe_chain op_le op_le (pv 1) (pv 0) (pv 2))))), ?_⟩
    refine ⟨_, rfl, n, rfl, true, rfl, iteT ?_⟩
    refine ⟨_, rfl, _, rfl, _, _, rfl, rfl, _, rfl, ?_⟩
    rw [decide_eq_true h1]
    refine iteT ⟨_, rfl, _, _, rfl, rfl, ?_⟩
    show Q (.bl (decide (n ≤ hi))) H
    rw [decide_eq_true h2]
    exact q
/-! ### is_word, is_shade -/
theorem letter_in {c : Nat} (h : 97 ≤ c ∧ c ≤ 122) : c ∈ ("abcdefghijklmnopqrstuvwxyz" : Str).cps.toList := by
  have e : ("abcdefghijklmnopqrstuvwxyz" : Str).cps.toList = (List.range 26).map (· + 97) := by decide +kernel
  rw [e]
  exact List.mem_map.mpr ⟨c - 97, List.mem_range.mpr (by omega), by omega⟩
def spIsWord : Sp := fun vs H Q _ => ∃ (z : Str) (m : Int), vs = [.str z, .int m] ∧ Shade z ∧ 3 ≤ m ∧ ∀ H', Same H H' → Q (.bl true) H'
theorem ok_is_word (G : Gs K w mg) : Dg P w K mg base 1 "is_word" ["thing", "most"] spIsWord := by
  refine dg_of G.f_is_word sc_is_word (fun _ _ _ _ _ _ us hl => match us, hl with | [_, _], _ => rfl) (fun vs H Q E h => ?_) (fun cdv A outer s H vs Q E hr h => ?_)
  · obtain ⟨z, m, rfl, _⟩ := h
    rfl
  · obtain ⟨z, m, rfl, hz, hm, q⟩ := h
    obtain ⟨tk, hL⟩ := G.letters
    refine ⟨_, pss_one (ps_ret (pe_and (pe_callB call_isi (by rfl) G.z_isinstance (by decide +kernel) (pa_cons (pv 0) (pa_cons (pe_bltn (v := .ty "str") (by rfl) G.z_str (by decide +kernel) rfl) pa_nil)))
      (pe_and (pe_chain op_le op_le pe_int (pe_callB call_len_str (by rfl) G.z_len PySem.boot_len (pa_cons (pv 0) pa_nil)) (pv 1))
      (pe_one (pe_callB (cr_all rfl) (by rfl) G.z_all (by decide +kernel) (pa_cons
        (pe_lc (own := [("sign", 2)]) (g := gName 2) rfl sc_is_word.nd (pi_str (pv 0)) (blkOk_by (N := ["thing", "most", "sign"]) (sc := defScope s_is_word) (by decide +kernel)) (fun _ _ _ _ _ => pg_name (i := 2) sc_is_word.nd rfl (Or.inl rfl)) (fun _ _ _ _ _ => pts_nil)
          (fun _ _ _ _ _ => pe_cmpR op_in_sign (pv 2) (pe_glob (v := .str "abcdefghijklmnopqrstuvwxyz") (by rfl) hL ⟨tk, rfl⟩) (by rfl))) pa_nil)))))), ?_⟩
    refine ⟨_, rfl, _, _, _, _, true, rfl, .ty _, .base (.str z), kit_ty (by decide +kernel), true, rfl, iteT ?_⟩
    have l1 : z.length = z.cps.size := rfl
    have h1 := hz.lo
    have h2 := hz.hi
    refine ⟨_, rfl, z, rfl, sz_of (by omega), _, _, rfl, rfl, _, rfl, ?_⟩
    rw [decide_eq_true (show (1 : Int) ≤ (z.length : Int) by omega)]
    refine iteT ⟨_, rfl, _, _, rfl, rfl, _, rfl, ?_⟩
    rw [decide_eq_true (show (z.length : Int) ≤ m by omega)]
    refine iteT ⟨_, rfl, z, rfl, fun D hD => ?_⟩
    refine lc_map walk_str (fun _ => .bl true) hD (by omega) (fun _ _ => trivial) (fun _ _ _ _ y => y.1) (fun _ => rfl) (fun i x H1 hi s1 y Q1 k => ?_) (fun H1 s1 e1 => ?_)
    · obtain ⟨_, _, c, hc, rfl⟩ := y
      refine ⟨_, rfl, c, _, rfl, rfl, ?_⟩
      rw [decide_eq_true (letter_in (hz.abc c (by
        have := Array.getElem?_eq_some_iff.mp hc
        obtain ⟨hlt, e⟩ := this
        rw [← e]
        simp)))]
      exact k _ (Same.refl _)
    · refine ⟨D, _, rfl, seq_true e1, ?_⟩
      rw [all_rep]
      exact q _ s1
def spIsShade : Sp := fun vs H Q _ => ∃ z : Str, vs = [.str z] ∧ Shade z ∧ ∀ H', Same H H' → Q (.bl true) H'
theorem ok_is_shade (G : Gs K w mg) : Dg P w K mg base 2 "is_shade" ["thing"] spIsShade := by
  have D1 : Dg P w K mg base 1 "is_word" ["thing", "most"] spIsWord := ok_is_word G
  refine dg_of G.f_is_shade sc_is_shade (fun _ _ _ _ _ _ us hl => match us, hl with | [_], _ => rfl) (fun vs H Q E h => ?_) (fun cdv A outer s H vs Q E hr h => ?_)
  · obtain ⟨z, rfl, _⟩ := h
    rfl
  · obtain ⟨z, rfl, hz, q⟩ := h
    refine ⟨_, pss_one (ps_ret (pe_dg D1 hr (pa_cons (pv 0) (pa_cons pe_int pa_nil)))), ?_⟩
    exact ⟨_, rfl, z, 3, rfl, hz, by omega, q⟩
end
end SL
set_option Elab.async false
set_option linter.all false
set_option maxRecDepth 100000
set_option maxHeartbeats 4000000
namespace SL
open PySem PySem.Spec PyProof.Rows L2 He
/-! ### stripes -/
abbrev Prr := Str × Int
def prV (p : Prr) : List V := [.str p.1, .int p.2]
structure Prs (H : Hp) (as : List Addr) (ps : List Prr) : Prop where
  len : as.length = ps.length
  at_ : ∀ (i : Nat) (a : Addr) (p : Prr), as[i]? = some a → ps[i]? = some p → H a = some (.tup (prV p))
theorem Prs.same {H H' : Hp} {as : List Addr} {ps : List Prr} (h : Prs H as ps) (e : Same H H') : Prs H' as ps := ⟨h.len, fun i a p h1 h2 => e _ _ (h.at_ i a p h1 h2)⟩
theorem Prs.get {H : Hp} {as : List Addr} {ps : List Prr} (h : Prs H as ps) {i : Nat} {a : Addr} (e : as[i]? = some a) : ∃ p, ps[i]? = some p ∧ H a = some (.tup (prV p)) := by
  have hi := (List.getElem?_eq_some_iff.mp e).1
  have hi2 : i < ps.length := by rw [← h.len]; exact hi
  exact ⟨ps[i], List.getElem?_eq_getElem hi2, h.at_ i a _ e (List.getElem?_eq_getElem hi2)⟩
theorem Prs.nil {H : Hp} : Prs H [] [] := ⟨rfl, fun i a p h _ => by simp at h⟩
theorem Prs.snoc {H : Hp} {as : List Addr} {ps : List Prr} (h : Prs H as ps) {a : Addr} {p : Prr} (ha : H a = some (.tup (prV p))) : Prs H (as ++ [a]) (ps ++ [p]) := by
  refine ⟨by rw [List.length_append, List.length_append, h.len]; rfl, fun i b q h1 h2 => ?_⟩
  by_cases hi : i < as.length
  · rw [List.getElem?_append_left hi] at h1
    rw [List.getElem?_append_left (by rw [← h.len]; exact hi)] at h2
    exact h.at_ i b q h1 h2
  · rw [List.getElem?_append_right (by omega)] at h1
    rw [List.getElem?_append_right (by rw [← h.len]; omega), ← h.len] at h2
    have h0 : i - as.length = 0 := by
      have := (List.getElem?_eq_some_iff.mp h1).1
      simp at this
      omega
    rw [h0] at h1 h2
    have e1 : a = b := Option.some.inj h1
    have e2 : p = q := Option.some.inj h2
    rw [← e1, ← e2]
    exact ha
theorem Prs.init {H : Hp} {as : List Addr} {ps : List Prr} {a : Addr} {p : Prr} (h : Prs H (as ++ [a]) (ps ++ [p])) : Prs H as ps ∧ H a = some (.tup (prV p)) := by
  have hl : as.length = ps.length := by
    have := h.len
    rw [List.length_append, List.length_append] at this
    simpa using this
  refine ⟨⟨hl, fun i b q h1 h2 => ?_⟩, ?_⟩
  · have i1 := (List.getElem?_eq_some_iff.mp h1).1
    have i2 := (List.getElem?_eq_some_iff.mp h2).1
    exact h.at_ i b q (by rw [List.getElem?_append_left i1]; exact h1) (by rw [List.getElem?_append_left i2]; exact h2)
  · refine h.at_ as.length a p ?_ ?_
    · rw [List.getElem?_append_right (Nat.le_refl _), Nat.sub_self]; rfl
    · rw [hl, List.getElem?_append_right (Nat.le_refl _), Nat.sub_self]; rfl
def StAt (H : Hp) (t : Addr) (ps : List Prr) : Prop := ∃ as : List Addr, H t = some (.tup (as.map V.ref)) ∧ Prs H as ps
theorem StAt.same {H H' : Hp} {t : Addr} {ps : List Prr} (h : StAt H t ps) (e : Same H H') : StAt H' t ps := by
  obtain ⟨as, h1, h2⟩ := h
  exact ⟨as, e _ _ h1, h2.same e⟩
structure StOk (ps : List Prr) : Prop where
  ne : 0 < ps.length
  sh : ∀ p ∈ ps, Shade p.1 ∧ 1 ≤ p.2
  sum : (ps.map (·.2)).sum ≤ 240
def expand (ps : List Prr) : List Str := ps.flatMap fun p => List.replicate p.2.toNat p.1
theorem expand_snoc (ps : List Prr) (p : Prr) : expand (ps ++ [p]) = expand ps ++ List.replicate p.2.toNat p.1 := by
  unfold expand
  rw [List.flatMap_append]
  simp
theorem expand_sh {ps : List Prr} (h : ∀ p ∈ ps, Shade p.1 ∧ 1 ≤ p.2) : ∀ x ∈ expand ps, Shade x := fun x hx => by
  obtain ⟨p, hp, hx⟩ := List.mem_flatMap.mp hx
  rw [(List.mem_replicate.mp hx).2]
  exact (h p hp).1
theorem expand_len {ps : List Prr} (h : ∀ p ∈ ps, Shade p.1 ∧ 1 ≤ p.2) : ((expand ps).length : Int) = (ps.map (·.2)).sum := by
  induction ps with
  | nil => rfl
  | cons p ps ih =>
    have h1 := (h p List.mem_cons_self).2
    have ih := ih fun q hq => h q (List.mem_cons_of_mem _ hq)
    show (((List.replicate p.2.toNat p.1) ++ expand ps).length : Int) = _
    rw [List.length_append, List.length_replicate, List.map_cons, List.sum_cons]
    omega
theorem sum_pos {ps : List Prr} (h : ∀ p ∈ ps, Shade p.1 ∧ 1 ≤ p.2) : (ps.length : Int) ≤ (ps.map (·.2)).sum := by
  induction ps with
  | nil => exact Int.le_refl 0
  | cons p ps ih =>
    have h1 := (h p List.mem_cons_self).2
    have ih := ih fun q hq => h q (List.mem_cons_of_mem _ hq)
    rw [List.map_cons, List.sum_cons, List.length_cons]
    omega
theorem expand_ok {ps : List Prr} (h : StOk ps) : Shades (expand ps) := by
  have e := expand_len h.sh
  have e2 := sum_pos h.sh
  have e3 := h.sum
  have e4 := h.ne
  exact ⟨by omega, by omega, expand_sh h.sh⟩
theorem sum_take_le {l : List Int} (h : ∀ x ∈ l, 1 ≤ x) : ∀ n, (l.take n).sum ≤ l.sum := by
  induction l with
  | nil => intro n; rw [List.take_nil]; exact Int.le_refl _
  | cons a l ih =>
    intro n
    have ha := h a List.mem_cons_self
    have hs : ∀ m : List Int, (∀ x ∈ m, 1 ≤ x) → 0 ≤ m.sum := fun m hm => by
      induction m with
      | nil => exact Int.le_refl 0
      | cons b m ihm =>
        have := hm b List.mem_cons_self
        have := ihm fun x hx => hm x (List.mem_cons_of_mem _ hx)
        rw [List.sum_cons]; omega
    cases n with
    | zero =>
      rw [List.take_zero]
      exact hs _ h
    | succ n =>
      have := ih (fun x hx => h x (List.mem_cons_of_mem _ hx)) n
      rw [List.take_succ_cons, List.sum_cons, List.sum_cons]; omega
/-! data of them -/
def prD (p : Prr) : PyData := .tuple [.str p.1, .int p.2]
theorem dp_pr {K : PySem.W.Frag} {H : Hp} {a : Addr} {p : Prr} (h : H a = some (.tup (prV p))) : Dp K H (.ref a) (prD p) := .tup (SqT.of h) (.cons (.str _) (.cons (.int _) .nil))
theorem dp_prs {K : PySem.W.Frag} {H : Hp} : ∀ {as : List Addr} {ps : List Prr}, Prs H as ps → DpAll K H (as.map V.ref) (ps.map prD)
  | [], [], _ => .nil
  | [], p :: ps, h => by have := h.len; simp at this
  | a :: as, [], h => by have := h.len; simp at this
  | a :: as, p :: ps, h => .cons (dp_pr (h.at_ 0 a p rfl rfl)) (dp_prs ⟨by have := h.len; simpa using this, fun i b q h1 h2 => h.at_ (i + 1) b q (by simpa using h1) (by simpa using h2)⟩)
theorem shaped_prs {ps : List Prr} (h : ∀ p ∈ ps, Shade p.1 ∧ 1 ≤ p.2) : SeqAt.shaped (.tuple (ps.map prD)) = true ∧ SeqAt.shaped (.list (ps.map prD)) = true := by
  have h1 : PyData.canLayAll0 (ps.map prD) = true := by
    induction ps with
    | nil => rfl
    | cons p ps ih =>
      rw [List.map_cons]
      simp only [PyData.canLayAll0, prD, PyData.canLay0, (h p List.mem_cons_self).1.ok, Bool.and_true, Bool.true_and]
      exact ih fun q hq => h q (List.mem_cons_of_mem _ hq)
  have hd : PyData.depthAll (ps.map prD) ≤ 4 := by
    clear h h1
    induction ps with
    | nil => simp [PyData.depthAll]
    | cons p ps ih =>
      rw [List.map_cons]
      simp only [PyData.depthAll, prD, PyData.depth]
      omega
  constructor
  · unfold SeqAt.shaped
    simp only [PyData.canLay0, h1, Bool.true_and, PyData.depth]
    exact decide_eq_true (by omega)
  · unfold SeqAt.shaped
    simp only [PyData.canLay0, h1, Bool.true_and, PyData.depth]
    exact decide_eq_true (by omega)
theorem eqv_nil_tup (ps : List Prr) : PyData.eqv (.tuple (ps.map prD)) (.tuple []) = decide (ps.length = 0) := by
  cases ps with
  | nil => simp [PyData.eqv, PyData.eqvAll]
  | cons p ps => simp [PyData.eqv, PyData.eqvAll]
theorem eqv_nil_lst (ps : List Prr) : PyData.eqv (.list (ps.map prD)) (.list []) = decide (ps.length = 0) := by
  cases ps with
  | nil => simp [PyData.eqv, PyData.eqvAll]
  | cons p ps => simp [PyData.eqv, PyData.eqvAll]
def rEqNil (K : PySem.W.Frag) : R2 := fun x y H Q => ∃ (a b : Addr) (as : List Addr) (ps : List Prr), x = .ref a ∧ y = .ref b ∧ H a = some (.tup (as.map V.ref)) ∧ Prs H as ps ∧ (∀ p ∈ ps, Shade p.1 ∧ 1 ≤ p.2) ∧ H b = some (.tup []) ∧ Q (.bl (decide (ps.length = 0))) H
def rNeNil (K : PySem.W.Frag) : R2 := fun x y H Q => ∃ (a b : Addr) (as : List Addr) (ps : List Prr), x = .ref a ∧ y = .ref b ∧ H a = some (.lst (as.map V.ref)) ∧ Prs H as ps ∧ (∀ p ∈ ps, Shade p.1 ∧ 1 ≤ p.2) ∧ H b = some (.lst []) ∧ Q (.bl (!decide (ps.length = 0))) H
section
variable {X : Cx}
theorem op_eqNil (hu : X.A.units + 64 < cLine) : OpR X (compareOp .Eq) (rEqNil X.K) := by
  intro pins s σ H x y v u Q I rx ry h
  obtain ⟨a, b, as, ps, rfl, rfl, ha, hp, hs, hb, q⟩ := h
  refine op_eqD hu pins s σ H _ _ v u Q I rx ry ⟨_, _, .tup (SqT.of ha) (dp_prs hp), .tup (SqT.of hb) .nil, (shaped_prs hs).1, by decide, ?_⟩
  rw [eqv_nil_tup]
  exact q
theorem op_neNil (hu : X.A.units + 64 < cLine) : OpR X (compareOp .NotEq) (rNeNil X.K) := by
  intro pins s σ H x y v u Q I rx ry h
  obtain ⟨a, b, as, ps, rfl, rfl, ha, hp, hs, hb, q⟩ := h
  refine op_neD hu pins s σ H _ _ v u Q I rx ry ⟨_, _, .lst (SqL.of ha) (dp_prs hp), .lst (SqL.of hb) .nil, (shaped_prs hs).2, by decide, ?_⟩
  rw [eqv_nil_lst]
  exact q
end

section
variable {P : Program} {w : World} {K : PySem.W.Frag} {mg : Str → Option Value} {base : Heap}
/-! ### is_stripe -/
def spIsStripe : Sp := fun vs H Q _ => ∃ (a : Addr) (p : Prr), vs = [.ref a] ∧ H a = some (.tup (prV p)) ∧ (Shade p.1 ∧ 1 ≤ p.2) ∧ ∀ H', Same H H' → Q (.bl true) H'
theorem ok_is_stripe (G : Gs K w mg) : Dg P w K mg base 3 "is_stripe" ["thing"] spIsStripe := by
  have D1 : Dg P w K mg base 1 "is_whole" ["x"] spIsWhole := ok_is_whole G
  have D2 : Dg P w K mg base 2 "is_shade" ["thing"] spIsShade := ok_is_shade G
  refine dg_of G.f_is_stripe sc_is_stripe (fun _ _ _ _ _ _ us hl => match us, hl with | [_], _ => rfl) (fun vs H Q E h => ?_) (fun cdv A outer s H vs Q E hr h => ?_)
  · obtain ⟨a, p, rfl, _⟩ := h
    rfl
  · obtain ⟨a, ⟨z, n⟩, rfl, ha, ⟨hz, hn⟩, q⟩ := h
    refine ⟨_, pss_cons (ps_if (PW.pt (pw_or (pt_not (pt_val (pe_callB call_isi (by rfl) G.z_isinstance (by decide +kernel) (pa_cons (pv 0) (pa_cons (pe_bltn (v := .ty "tuple") (by rfl) G.z_tuple (by decide +kernel) rfl) pa_nil)))))
        (pw_or1 (pt_cmpR op_ne (pe_callB call_len_seq (by rfl) G.z_len PySem.boot_len (pa_cons (pv 0) pa_nil)) pe_int (nomark _))))) pss_never pss_nil)
      (pss_one (ps_ret (pe_and (pe_dg D2 hr (pa_cons (pe_ix ix_tup (pv 0) pe_int (fun _ _ => rfl)) pa_nil)) (pe_and (pe_dg D1 (hr.mono (by decide)) (pa_cons (pe_ix ix_tup (pv 0) pe_int (fun _ _ => rfl)) pa_nil))
        (pe_one (pe_cmpR op_gt (pe_ix ix_tup (pv 0) pe_int (fun _ _ => rfl)) pe_int (nomark _))))))), ?_⟩
    refine ⟨_, rfl, _, _, _, _, true, rfl, .ty _, .base (.tup ha), kit_ty (by decide +kernel), true, rfl, iteF ?_⟩
    refine ⟨_, rfl, a, _, rfl, .inr (SqT.of ha), rfl, _, rfl, ?_⟩
    rw [show (!decide (V.int ((prV (z, n)).length : Nat) = V.int 2)) = false from rfl]
    refine iteF ?_
    refine ⟨_, rfl, a, _, 0, .str z, rfl, rfl, SqT.of ha, rfl, z, rfl, hz, fun H1 s1 => ⟨true, rfl, iteT ?_⟩⟩
    refine ⟨_, rfl, a, _, 1, .int n, rfl, rfl, SqT.of (s1 _ _ ha), rfl, n, rfl, true, rfl, iteT ?_⟩
    refine ⟨_, rfl, a, _, 1, .int n, rfl, rfl, SqT.of (s1 _ _ ha), rfl, n, 0, rfl, rfl, ?_⟩
    show Q (.bl (decide (0 < n))) H1
    rw [decide_eq_true (show 0 < n by omega)]
    exact q _ s1
/-! ### check_stripes -/
def spCheckStripes : Sp := fun vs H Q _ => ∃ (t : Addr) (ps : List Prr), vs = [.ref t] ∧ StAt H t ps ∧ StOk ps ∧ ∀ H', Same H H' → Q .non H'
theorem ok_check_stripes (G : Gs K w mg) : Dg P w K mg base 4 "check_stripes" ["thing"] spCheckStripes := by
  have D1 : Dg P w K mg base 3 "is_stripe" ["thing"] spIsStripe := ok_is_stripe G
  refine dg_of G.f_check_stripes sc_check_stripes (fun _ _ _ _ _ _ us hl => match us, hl with | [_], _ => rfl) (fun vs H Q E h => ?_) (fun cdv A outer s H vs Q E hr h => ?_)
  · obtain ⟨t, ps, rfl, _⟩ := h
    rfl
  · obtain ⟨t, ps, rfl, hS, hk, q⟩ := h
    obtain ⟨as, ht, hp⟩ := id hS
    obtain ⟨tk, hM⟩ := G.most
    refine ⟨_, pss_cons (ps_if (PW.pt (pw_or (pt_not (pt_val (pe_callB call_isi (by rfl) G.z_isinstance (by decide +kernel) (pa_cons (pv 0) (pa_cons (pe_bltn (v := .ty "tuple") (by rfl) G.z_tuple (by decide +kernel) rfl) pa_nil)))))
        (pw_or1 (pt_cmpR (op_eqNil hr.units) (pv 0) (pe_tup pa_nil) (nomark _))))) pss_never pss_nil)
      (pss_cons (ps_set (i := 1) sc_check_stripes.nd rfl (Or.inl rfl) pe_int)
      (pss_one (ps_for PassesOwn.never rfl (pi_enumT (by rfl) G.z_enumerate (pa_cons (pv 0) pa_nil)) (pg_tup rfl (pgs_cons (pg_name (i := 2) sc_check_stripes.nd rfl (Or.inl rfl)) (pgs_cons (pg_name (i := 3) sc_check_stripes.nd rfl (Or.inl rfl)) pgs_nil)))
        (pss_cons (ps_if (pt_not (pt_val (pe_dg D1 hr (pa_cons (pv 3) pa_nil)))) pss_never pss_nil)
        (pss_cons (ps_aug (i := 1) sc_check_stripes.nd rfl (Or.inl rfl) (pe_ix ix_tup (pv 3) pe_int (fun _ _ => rfl)) ip_add)
        (pss_one (ps_if (pt_cmpR op_gt (pv 1) (pe_glob (v := .int 240) (by rfl) hM ⟨tk, rfl⟩) (nomark _)) pss_never pss_nil))))))), ?_⟩
    refine ⟨_, rfl, _, _, _, _, true, rfl, .ty _, .base (.tup ht), kit_ty (by decide +kernel), true, rfl, iteF ?_⟩
    refine ⟨_, rfl, Nat.zero_le _, fun e he => ?_⟩
    have s1 : Same H (upd H e (.tup [])) := same_upd he
    refine ⟨t, e, as, ps, rfl, rfl, s1 _ _ ht, hp.same s1, hk.sh, upd_same, _, rfl, ?_⟩
    rw [decide_eq_false (show ¬ ps.length = 0 by have := hk.ne; omega)]
    refine iteF ?_
    refine ⟨_, rfl, t, _, rfl, SqT.of (s1 _ _ ht), ?_⟩
    have hlen : (as.map V.ref).length = ps.length := by rw [List.length_map, hp.len]
    refine for_it (walk_enumT (xs := as.map V.ref)) (fun i σ H' => ∃ y2 y3, σ = [some (.ref t), some (.int ((ps.map (·.2)).take i).sum), y2, y3] ∧ Same H H') ⟨none, none, rfl, s1⟩ (fun i σ H' _ p => ?_) (fun i x σ H1 H2 hi p y => ?_) (fun σ H' p => ?_)
    · obtain ⟨_, _, _, s2⟩ := p
      exact SqT.of (s2 _ _ ht)
    · obtain ⟨y2, y3, rfl, s2⟩ := p
      obtain ⟨T, x1, x2, rfl, nT, rfl, f1, f2⟩ := y
      have ex1 : x1 = .int (i : Nat) := (Option.some.inj f1).symm
      subst ex1
      have f3 : (as.map V.ref)[i]? = some x2 := f2
      rw [List.getElem?_map] at f3
      obtain ⟨a, ha, rfl⟩ := Option.map_eq_some_iff.mp f3
      obtain ⟨⟨z, n⟩, hps, hat⟩ := hp.get ha
      have hmem := List.mem_of_getElem? hps
      obtain ⟨hz, hn⟩ := hk.sh _ hmem
      have s3 : Same H1 (upd H1 T (.tup [.int (i : Nat), .ref a])) := same_upd nT
      have s4 := s2.trans s3
      refine ⟨T, _, rfl, SqT.of upd_same, rfl, _, _, rfl, _, _, rfl, rfl, ?_⟩
      refine ⟨_, rfl, a, (z, n), rfl, s4 _ _ hat, ⟨hz, hn⟩, fun H3 s5 => ⟨true, rfl, iteF ?_⟩⟩
      have s6 := s4.trans s5
      refine ⟨_, rfl, _, rfl, a, _, 1, .int n, rfl, rfl, SqT.of (s6 _ _ hat), rfl, _, _, rfl, rfl, ?_⟩
      have esum : ((ps.map (·.2)).take (i + 1)).sum = ((ps.map (·.2)).take i).sum + n := sum_take (by rw [List.getElem?_map, hps]; rfl)
      have hle : ((ps.map (·.2)).take (i + 1)).sum ≤ 240 := Int.le_trans (sum_take_le (fun x hx => by
        obtain ⟨p, hp', rfl⟩ := List.mem_map.mp hx
        exact (hk.sh p hp').2) _) hk.sum
      refine ⟨_, rfl, _, _, rfl, rfl, _, rfl, ?_⟩
      refine iteFe (decide_eq_false (show ¬ (240 : Int) < ((ps.map (·.2)).take i).sum + n by omega)) ?_
      refine ⟨some (.int (i : Nat)), some (.ref a), ?_, s6⟩
      rw [esum]
      rfl
    · obtain ⟨_, _, _, s2⟩ := p
      exact q _ s2
end
end SL
set_option Elab.async false
set_option linter.all false
set_option maxRecDepth 100000
set_option maxHeartbeats 4000000
namespace SL
open PySem PySem.Spec PyProof.Rows L2 He
theorem take_snoc {α : Type} {l : List α} {i : Nat} {z : α} (h : l[i]? = some z) : l.take (i + 1) = l.take i ++ [z] := by
  rw [List.take_add_one, h]
  rfl
theorem map_at {α : Type} {f : α → V} {l : List α} {i : Nat} {x : V} (h : (l.map f)[i]? = some x) : ∃ a, l[i]? = some a ∧ x = f a := by
  rw [List.getElem?_map] at h
  obtain ⟨a, h1, h2⟩ := Option.map_eq_some_iff.mp h
  exact ⟨a, h1, h2.symm⟩
theorem ixN_last (n : Nat) : ixN (n + 1) (-1) = some n := by
  unfold ixN
  rw [if_neg (by omega), if_pos (by omega)]
  congr 1
  omega
theorem Prs.mut {H : Hp} {as : List Addr} {ps : List Prr} {l : Addr} {xs : List V} {o : HO} (h : Prs H as ps) (hl : H l = some (.lst xs)) : Prs (upd H l o) as ps :=
  ⟨h.len, fun i a p h1 h2 => by
    have e := h.at_ i a p h1 h2
    rw [upd_ne (ne_of e hl (by intro z; cases z))]
    exact e⟩
section
variable {P : Program} {w : World} {K : PySem.W.Frag} {mg : Str → Option Value} {base : Heap}
/-! ### threads_of -/
def spThreadsOf : Sp := fun vs H Q _ => ∃ (t : Addr) (ps : List Prr), vs = [.ref t] ∧ StAt H t ps ∧ StOk ps ∧ ∀ H' p, Same H H' → StrT H' p (expand ps) → Q (.ref p) H'
theorem ok_threads_of (G : Gs K w mg) : Dg P w K mg base 5 "threads_of" ["stripes"] spThreadsOf := by
  have D1 : Dg P w K mg base 4 "check_stripes" ["thing"] spCheckStripes := ok_check_stripes G
  refine dg_of G.f_threads_of sc_threads_of (fun _ _ _ _ _ _ us hl => match us, hl with | [_], _ => rfl) (fun vs H Q E h => ?_) (fun cdv A outer s H vs Q E hr h => ?_)
  · obtain ⟨t, ps, rfl, _⟩ := h
    rfl
  · obtain ⟨t, ps, rfl, hS, hk, q⟩ := h
    refine ⟨_, pss_cons (ps_expr (pe_dg D1 hr (pa_cons (pv 0) pa_nil)))
      (pss_cons (ps_set (i := 1) sc_threads_of.nd rfl (Or.inl rfl) (pe_lst pa_nil))
      (pss_cons (ps_for PassesOwn.never rfl (pi_tup (pv 0)) (pg_tup rfl (pgs_cons (pg_name (i := 2) sc_threads_of.nd rfl (Or.inl rfl)) (pgs_cons (pg_name (i := 3) sc_threads_of.nd rfl (Or.inl rfl)) pgs_nil)))
        (pss_one (ps_expr (pe_bm PySem.F.plainAttrs_list PySem.F.slot_list_extend PySem.F.type_list_extend mt_extend (pv 1) (pa_cons (pe_op op_rep (pe_lst (pa_cons (pv 2) pa_nil)) (pv 3)) pa_nil)))))
      (pss_one (ps_ret (pe_callTy call_tuple_of (by rfl) G.z_tuple (by decide +kernel) (pa_cons (pv 1) pa_nil)))))), ?_⟩
    refine ⟨_, rfl, t, ps, rfl, hS, hk, fun H1 s1 => ?_⟩
    refine ⟨Nat.zero_le _, fun l hl => ?_⟩
    obtain ⟨as, ht, hp⟩ := hS.same s1
    have hl0 : H l = none := s1.free hl
    have s2 : Same H (upd H1 l (.lst [])) := s1.trans (same_upd hl)
    have htl : t ≠ l := ne_of_none ht hl
    have hlen : (as.map V.ref).length = ps.length := by rw [List.length_map, hp.len]
    refine ⟨_, rfl, t, rfl, ⟨_, SqT.of (same_upd hl _ _ ht)⟩, ?_⟩
    refine for_it (walk_tup (xs := as.map V.ref)) (fun i σ H' => ∃ y2 y3, σ = [some (.ref t), some (.ref l), y2, y3] ∧ Same H1 H' ∧ H' l = some (.lst ((expand (ps.take i)).map V.str))) ⟨none, none, rfl, same_upd hl, upd_same⟩ (fun i σ H' _ p => ?_) (fun i x σ H2 H3 hi p y => ?_) (fun σ H' p => ?_)
    · obtain ⟨_, _, _, s3, _⟩ := p
      exact SqT.of (s3 _ _ ht)
    · obtain ⟨y2, y3, rfl, s3, e3⟩ := p
      obtain ⟨rfl, hx⟩ := y
      obtain ⟨a, ha, rfl⟩ := map_at hx
      obtain ⟨⟨z, n⟩, hps, hat⟩ := hp.get ha
      have hmem := List.mem_of_getElem? hps
      obtain ⟨hz, hn⟩ := hk.sh _ hmem
      have hn' : 1 ≤ n := hn
      have hn2 : n ≤ 240 := by
        have h1 := sum_pos hk.sh
        have h2 := expand_len hk.sh
        have h3 := hk.sum
        have h4 := expand_len (ps := ps.take (i + 1)) fun p hp => hk.sh p (List.mem_of_mem_take hp)
        have h5 : ((ps.map (·.2)).take (i + 1)).sum = ((ps.map (·.2)).take i).sum + n := sum_take (by rw [List.getElem?_map, hps]; rfl)
        have h6 := sum_take_le (l := ps.map (·.2)) (fun x hx => by
          obtain ⟨p, hp', rfl⟩ := List.mem_map.mp hx
          exact (hk.sh p hp').2) (i + 1)
        have h7 := expand_len (ps := ps.take i) fun p hp => hk.sh p (List.mem_of_mem_take hp)
        rw [List.map_take] at h7
        omega
      refine ⟨a, _, rfl, SqT.of (s3 _ _ hat), rfl, _, _, rfl, _, _, rfl, rfl, ?_⟩
      refine ⟨_, rfl, .inl ⟨rfl, _, SqL.of e3⟩, _, rfl, (by show 1 ≤ sizeLine; decide), fun u hu => ?_⟩
      refine ⟨_, rfl, u, n, _, rfl, rfl, upd_same, by omega, by omega, sz_of (by show 1 * n.toNat ≤ 100000; omega), fun v hv => ?_⟩
      have nul : l ≠ u := ne_of_none e3 hu
      have e4 : (upd H3 u (.lst [.str z])) l = some (.lst ((expand (ps.take i)).map V.str)) := by rw [upd_ne nul]; exact e3
      have nvl : l ≠ v := ne_of_none e4 hv
      have hlen2 : ((expand (ps.take i)).length : Int) ≤ 240 := by
        have h7 := expand_len (ps := ps.take i) fun p hp => hk.sh p (List.mem_of_mem_take hp)
        rw [List.map_take] at h7
        have h6 := sum_take_le (l := ps.map (·.2)) (fun x hx => by
          obtain ⟨p, hp', rfl⟩ := List.mem_map.mp hx
          exact (hk.sh p hp').2) i
        have h3 := hk.sum
        omega
      refine ⟨l, v, _, _, rfl, rfl, by rw [upd_ne nvl]; exact e4, upd_same, ?_, ?_⟩
      · rw [List.length_map, List.length_flatten, List.map_replicate, List.sum_replicate_nat]
        exact sz_of (by show (expand (ps.take i)).length + n.toNat * 1 ≤ 100000; omega)
      · refine ⟨_, _, rfl, Same.mut ((s3.trans (same_upd hu)).trans (same_upd hv)) hl, ?_⟩
        rw [upd_same, take_snoc hps, expand_snoc, List.map_append, List.map_replicate]
        congr 3
        show (List.replicate n.toNat [V.str z]).flatten = List.replicate n.toNat (V.str z)
        exact List.flatten_replicate_singleton
    · obtain ⟨y2, y3, rfl, s3, e3⟩ := p
      refine ⟨_, rfl, l, _, rfl, .inl ⟨SqL.of e3, fun p hp => ?_⟩⟩
      rw [hlen, List.take_of_length_le (Nat.le_refl _)]
      exact q _ p ((s1.trans s3).trans (same_upd hp)) upd_same
/-! ### are_threads -/
def spAreThreads : Sp := fun vs H Q _ => ∃ (t : Addr) (ts : List Str), vs = [.ref t] ∧ StrT H t ts ∧ Shades ts ∧ ∀ H', Same H H' → Q (.bl true) H'
theorem ok_are_threads (G : Gs K w mg) : Dg P w K mg base 3 "are_threads" ["thing"] spAreThreads := by
  have D1 : Dg P w K mg base 2 "is_shade" ["thing"] spIsShade := ok_is_shade G
  refine dg_of G.f_are_threads sc_are_threads (fun _ _ _ _ _ _ us hl => match us, hl with | [_], _ => rfl) (fun vs H Q E h => ?_) (fun cdv A outer s H vs Q E hr h => ?_)
  · obtain ⟨t, ts, rfl, _⟩ := h
    rfl
  · obtain ⟨t, ts, rfl, ht, hs, q⟩ := h
    obtain ⟨tk, hM⟩ := G.most
    refine ⟨_, pss_one (ps_ret (pe_and (pe_callB call_isi (by rfl) G.z_isinstance (by decide +kernel) (pa_cons (pv 0) (pa_cons (pe_bltn (v := .ty "tuple") (by rfl) G.z_tuple (by decide +kernel) rfl) pa_nil)))
      (pe_and (pe_chain op_le op_le pe_int (pe_callB call_len_seq (by rfl) G.z_len PySem.boot_len (pa_cons (pv 0) pa_nil)) (pe_glob (v := .int 240) (by rfl) hM ⟨tk, rfl⟩))
      (pe_one (pe_callB (cr_all rfl) (by rfl) G.z_all (by decide +kernel) (pa_cons
        (pe_lc (own := [("shade", 1)]) (g := gName 1) rfl sc_are_threads.nd (pi_tup (pv 0)) (blkOk_by (N := ["thing", "shade"]) (sc := defScope s_are_threads) (by decide +kernel)) (fun _ _ _ _ _ => pg_name (i := 1) sc_are_threads.nd rfl (Or.inl rfl)) (fun _ _ _ _ _ => pts_nil)
          (fun _ _ _ _ _ => pe_dg D1 hr (pa_cons (pv 1) pa_nil))) pa_nil)))))), ?_⟩
    have h1 := hs.pos
    have h2 := hs.le
    refine ⟨_, rfl, _, _, _, _, true, rfl, .ty _, .base (.tup ht), kit_ty (by decide +kernel), true, rfl, iteT ?_⟩
    refine ⟨_, rfl, t, _, rfl, .inr (SqT.of ht), _, _, rfl, rfl, _, rfl, ?_⟩
    have hl : (ts.map V.str).length = ts.length := List.length_map _
    refine iteTe (decide_eq_true (show (1 : Int) ≤ ((ts.map V.str).length : Int) by omega)) ⟨_, _, rfl, rfl, _, rfl, ?_⟩
    refine iteTe (decide_eq_true (show ((ts.map V.str).length : Int) ≤ 240 by omega)) ⟨_, rfl, t, rfl, ⟨_, SqT.of ht⟩, fun D hD => ?_⟩
    refine lc_map (walk_tup (xs := ts.map V.str)) (fun _ => .bl true) hD (by omega) (fun _ s1 => SqT.of (s1 _ _ ht)) yat_same (fun _ => rfl) (fun i x H1 hi s1 y Q1 k => ?_) (fun H1 s1 e1 => ?_)
    · obtain ⟨_, _, hx⟩ := y
      obtain ⟨z, hz, rfl⟩ := map_at hx
      exact ⟨_, rfl, z, rfl, hs.sh z (List.mem_of_getElem? hz), fun H2 s2 => k _ s2⟩
    · refine ⟨D, _, rfl, seq_true e1, ?_⟩
      rw [all_rep]
      exact q _ s1
/-! ### merged -/
def spMerged : Sp := fun vs H Q _ => ∃ (t : Addr) (ts : List Str), vs = [.ref t] ∧ StrT H t ts ∧ Shades ts ∧ ∀ H' p ps, Same H H' → StAt H' p ps → StOk ps → expand ps = ts → Q (.ref p) H'
theorem ok_merged (G : Gs K w mg) : Dg P w K mg base 1 "merged" ["threads"] spMerged := by
  refine dg_of G.f_merged sc_merged (fun _ _ _ _ _ _ us hl => match us, hl with | [_], _ => rfl) (fun vs H Q E h => ?_) (fun cdv A outer s H vs Q E hr h => ?_)
  · obtain ⟨t, ts, rfl, _⟩ := h
    rfl
  · obtain ⟨t, ts, rfl, ht, hs, q⟩ := h
    refine ⟨_, pss_cons (ps_set (i := 1) sc_merged.nd rfl (Or.inl rfl) (pe_lst pa_nil))
      (pss_cons (ps_for PassesOwn.never rfl (pi_tup (pv 0)) (pg_name (i := 2) sc_merged.nd rfl (Or.inl rfl))
        (pss_one (ps_if (PW.pt (pw_and (pt_cmpR (op_neNil hr.units) (pv 1) (pe_lst pa_nil) (nomark _)) (pw_and1 (pt_cmpR op_eq (pe_ix ix_tup (pe_ix ix_list (pv 1) (pe_un un_neg pe_int) (fun _ _ => rfl)) pe_int (fun _ _ => rfl)) (pv 2) (nomark _)))))
          (pss_one (ps_asg (pe_tup (pa_cons (pv 2) (pa_cons (pe_op op_add (pe_ix ix_tup (pe_ix ix_list (pv 1) (pe_un un_neg pe_int) (fun _ _ => rfl)) pe_int (fun _ _ => rfl)) pe_int) pa_nil))) (pg_sub (pv 1) (pe_un un_neg pe_int) set_list)))
          (pss_one (ps_expr (pe_bm PySem.F.plainAttrs_list PySem.F.slot_list_append PySem.F.type_list_append mt_append (pv 1) (pa_cons (pe_tup (pa_cons (pv 2) (pa_cons pe_int pa_nil))) pa_nil)))))))
      (pss_one (ps_ret (pe_callTy call_tuple_of (by rfl) G.z_tuple (by decide +kernel) (pa_cons (pv 1) pa_nil))))), ?_⟩
    refine ⟨Nat.zero_le _, fun l hl => ?_⟩
    have h2 := hs.le
    have htl : t ≠ l := ne_of_none ht hl
    refine ⟨_, rfl, t, rfl, ⟨_, SqT.of (same_upd hl _ _ ht)⟩, ?_⟩
    refine for_it (walk_tup (xs := ts.map V.str)) (fun i σ H' => ∃ as ps y2, σ = [some (.ref t), some (.ref l), y2] ∧ Same H H' ∧ H' l = some (.lst (as.map V.ref)) ∧ Prs H' as ps ∧ (∀ p ∈ ps, Shade p.1 ∧ 1 ≤ p.2) ∧ expand ps = ts.take i)
      ⟨[], [], none, rfl, same_upd hl, upd_same, Prs.nil, (fun p hp => absurd hp (by simp)), rfl⟩ (fun i σ H' _ p => ?_) (fun i x σ H1 H2 hi p y => ?_) (fun σ H' p => ?_)
    · obtain ⟨_, _, _, _, s3, _⟩ := p
      exact SqT.of (s3 _ _ ht)
    · obtain ⟨as, ps, y2, rfl, s1, e1, hp, hsh, hex⟩ := p
      obtain ⟨rfl, hx⟩ := y
      obtain ⟨z, hz, rfl⟩ := map_at hx
      have hzs := hs.sh z (List.mem_of_getElem? hz)
      have hasl : as.length ≤ 240 := by
        have a1 := sum_pos hsh
        have a2 := expand_len hsh
        rw [hex, List.length_take] at a2
        rw [hp.len]
        omega
      refine ⟨_, rfl, Nat.zero_le _, fun e he => ?_⟩
      have s2 : Same H2 (upd H2 e (.lst [])) := same_upd he
      have e2 := s2 _ _ e1
      have hp2 := hp.same s2
      refine ⟨l, e, as, ps, rfl, rfl, e2, hp2, hsh, upd_same, _, rfl, ?_⟩
      -- a new stripe
      have fin : ∀ H3, Same H2 H3 → ∀ p, H3 p = none → ∃ as' ps' y2', [some (V.ref t), some (.ref l), some (.str z)] = [some (V.ref t), some (.ref l), y2'] ∧ Same H (upd (upd H3 p (.tup [.str z, .int 1])) l (.lst (as.map V.ref ++ [.ref p]))) ∧ (upd (upd H3 p (.tup [.str z, .int 1])) l (.lst (as.map V.ref ++ [.ref p]))) l = some (.lst (as'.map V.ref)) ∧ Prs (upd (upd H3 p (.tup [.str z, .int 1])) l (.lst (as.map V.ref ++ [.ref p]))) as' ps' ∧ (∀ p ∈ ps', Shade p.1 ∧ 1 ≤ p.2) ∧ expand ps' = ts.take (i + 1) := by
        intro H3 s3 p hpn
        have s4 := s3.trans (same_upd (o := .tup [.str z, .int 1]) hpn)
        refine ⟨as ++ [p], ps ++ [(z, 1)], _, rfl, Same.mut (s1.trans s4) hl, ?_, Prs.mut (Prs.snoc (hp.same s4) upd_same) (s4 _ _ e1), fun p' hp' => ?_, ?_⟩
        · rw [upd_same, List.map_append] <;> rfl
        · rcases List.mem_append.mp hp' with h | h
          · exact hsh _ h
          · rw [List.mem_singleton.mp h]
            exact ⟨hzs, Int.le_refl 1⟩
        · rw [expand_snoc, hex, take_snoc hz] <;> rfl
      by_cases h0 : ps.length = 0
      · refine iteFe (by rw [decide_eq_true h0]; rfl) (iteF ?_)
        refine ⟨_, rfl, .inl ⟨rfl, _, SqL.of e2⟩, _, rfl, (by show 2 ≤ sizeLine; decide), fun p hpn => ?_⟩
        refine ⟨l, _, _, rfl, rfl, same_upd hpn _ _ e2, sz_lt (by rw [List.length_map]; omega), ?_⟩
        exact fin _ s2 p hpn
      · refine iteTe (by rw [decide_eq_false h0]; rfl) ?_
        obtain ⟨ps0, ⟨y, n⟩, rfl⟩ : ∃ ps0 pr, ps = ps0 ++ [pr] := ⟨ps.dropLast, ps.getLast (fun z => h0 (by rw [z]; rfl)), (List.dropLast_concat_getLast _).symm⟩
        have has : as.length ≠ 0 := by rw [hp.len]; exact h0
        obtain ⟨as0, a, rfl⟩ : ∃ as0 a, as = as0 ++ [a] := ⟨as.dropLast, as.getLast (fun z => has (by rw [z]; rfl)), (List.dropLast_concat_getLast _).symm⟩
        obtain ⟨hp0, hat⟩ := hp2.init
        have hyn := hsh (y, n) (List.mem_append_right _ (List.mem_singleton.mpr rfl))
        have hn1 : 1 ≤ n := hyn.2
        have eL : (as0 ++ [a]).map V.ref = as0.map V.ref ++ [V.ref a] := by rw [List.map_append]; rfl
        refine ⟨_, rfl, 1, rfl, l, _, -1, .ref a, rfl, rfl, SqL.of e2, by rw [eL]; exact atI_last _ _, a, _, 0, .str y, rfl, rfl, SqT.of hat, rfl, _, rfl, rfl, _, rfl, ?_⟩
        by_cases hyz : y = z
        · subst hyz
          refine iteTe (decide_eq_true rfl) ?_
          refine ⟨_, rfl, _, rfl, 1, rfl, l, _, -1, .ref a, rfl, rfl, SqL.of e2, by rw [eL]; exact atI_last _ _, a, _, 1, .int n, rfl, rfl, SqT.of hat, rfl, n, 1, rfl, rfl, (by show 2 ≤ sizeLine; decide), fun p hpn => ?_⟩
          have s4 : Same H2 (upd (upd H2 e (.lst [])) p (.tup [.str y, .int (n + 1)])) := s2.trans (same_upd hpn)
          refine ⟨_, rfl, 1, rfl, l, _, -1, as0.length, rfl, rfl, s4 _ _ e1, ?_, ?_⟩
          · rw [List.length_map, List.length_append]
            exact ixN_last _
          · refine ⟨as0 ++ [p], ps0 ++ [(y, n + 1)], _, rfl, Same.mut (s1.trans s4) hl, ?_, Prs.mut (Prs.snoc ((Prs.init hp).1.same s4) upd_same) (s4 _ _ e1), fun p' hp' => ?_, ?_⟩
            · rw [upd_same]
              congr 2
              show ((as0 ++ [a]).map V.ref).set as0.length (V.ref p) = _
              rw [eL, List.set_append_right _ _ (by rw [List.length_map]; exact Nat.le_refl _), List.length_map, Nat.sub_self, List.map_append] <;> rfl
            · rcases List.mem_append.mp hp' with h | h
              · exact hsh _ (List.mem_append_left _ h)
              · rw [List.mem_singleton.mp h]
                exact ⟨hzs, show 1 ≤ n + 1 by omega⟩
            · rw [expand_snoc, take_snoc hz, ← hex, expand_snoc]
              show expand ps0 ++ List.replicate (n + 1).toNat y = expand ps0 ++ List.replicate n.toNat y ++ [y]
              rw [show (n + 1).toNat = n.toNat + 1 by omega, List.replicate_succ', List.append_assoc]
        · refine iteFe (decide_eq_false (fun q => hyz (V.str.inj q))) ?_
          refine ⟨_, rfl, .inl ⟨rfl, _, SqL.of e2⟩, _, rfl, (by show 2 ≤ sizeLine; decide), fun p hpn => ?_⟩
          refine ⟨l, _, _, rfl, rfl, same_upd hpn _ _ e2, sz_lt (by rw [List.length_map]; omega), ?_⟩
          exact fin _ s2 p hpn
    · obtain ⟨as, ps, y2, rfl, s1, e1, hp, hsh, hex⟩ := p
      rw [List.length_map, List.take_of_length_le (Nat.le_refl _)] at hex
      refine ⟨_, rfl, l, _, rfl, .inl ⟨SqL.of e1, fun p hpn => ?_⟩⟩
      have h3 := expand_len hsh
      have h4 := hs.pos
      rw [hex] at h3
      refine q _ p ps (s1.trans (same_upd hpn)) ⟨as, upd_same, hp.same (same_upd hpn)⟩ ⟨?_, hsh, by omega⟩ hex
      refine Nat.pos_of_ne_zero fun z => ?_
      have e0 : ps = [] := List.eq_nil_of_length_eq_zero z
      subst e0
      have : ts = [] := hex.symm
      rw [this] at h4
      exact absurd h4 (by decide)
end
end SL
set_option Elab.async false
set_option linter.all false
set_option maxRecDepth 100000
set_option maxHeartbeats 4000000
namespace SL
open PySem PySem.Spec PyProof.Rows L2 He
/-! ### slices and sums of tuples of texts -/
def cutG {α : Type} (xs : List α) (lo hi : Option Int) : List α := (xs.drop (HT.sIx xs.length 0 lo)).take (HT.sIx xs.length xs.length hi - HT.sIx xs.length 0 lo)
theorem cutV_map {α : Type} (f : α → V) (xs : List α) (lo hi : Option Int) : cutV (xs.map f) lo hi = (cutG xs lo hi).map f := by
  unfold cutV cutG
  rw [List.length_map, List.map_take, List.map_drop]
theorem cutG_drop {α : Type} (xs : List α) (k : Nat) : cutG xs (some (k : Int)) none = xs.drop k := by
  unfold cutG
  rw [HT.sIx_nat, HT.sIx_none]
  by_cases h : k ≤ xs.length
  · rw [Nat.min_eq_left h, List.take_of_length_le (by rw [List.length_drop]; omega)]
  · rw [Nat.min_eq_right (by omega), Nat.sub_self, List.take_zero, List.drop_eq_nil_of_le (by omega)]
theorem cutG_take {α : Type} (xs : List α) (k : Nat) : cutG xs none (some (k : Int)) = xs.take k := by
  unfold cutG
  rw [HT.sIx_nat, HT.sIx_none, List.drop_zero, Nat.sub_zero]
  by_cases h : k ≤ xs.length
  · rw [Nat.min_eq_left h]
  · rw [Nat.min_eq_right (by omega), List.take_of_length_le (Nat.le_refl _), List.take_of_length_le (by omega)]
theorem cutG_len {α : Type} (xs : List α) (lo hi : Option Int) : (cutG xs lo hi).length ≤ xs.length := by
  unfold cutG
  rw [List.length_take, List.length_drop]
  omega
theorem cutG_mem {α : Type} {xs : List α} {lo hi : Option Int} {x : α} (h : x ∈ cutG xs lo hi) : x ∈ xs := List.mem_of_mem_drop (List.mem_of_mem_take h)
def rSlS : V → Option Int → Option Int → Hp → VK → Prop := fun x lo hi H Q => ∃ (a : Addr) (ts : List Str), x = .ref a ∧ StrT H a ts ∧ ∀ p H1, Same H H1 → StrT H1 p (cutG ts lo hi) → Q (.ref p) H1
def rCatS : R2 := fun x y H Q => ∃ (a b : Addr) (ts us : List Str), x = .ref a ∧ y = .ref b ∧ StrT H a ts ∧ StrT H b us ∧ ts.length + us.length ≤ 100000 ∧ ∀ p H1, Same H H1 → StrT H1 p (ts ++ us) → Q (.ref p) H1
def tRevS (te : TE) : TE := fun σ H Q => te σ H fun x H1 => ∃ (a : Addr) (ts : List Str), x = .ref a ∧ StrT H1 a ts ∧ ∀ p H2, Same H1 H2 → StrT H2 p ts.reverse → Q (.ref p) H2
section
variable {X : Cx}
theorem sl_str : SlR X rSlS := by
  intro pins s σ H x v vl vu lo hi sl Q I rx hs pl pu h
  obtain ⟨a, ts, rfl, ht, q⟩ := h
  refine sl_tupA pins s σ H _ v vl vu lo hi sl Q I rx hs pl pu ⟨a, ts.map V.str, rfl, SqT.of ht, fun hw => ?_, fun _ p hp => ?_⟩
  · refine q a H (Same.refl H) ?_
    have e : cutG ts lo hi = ts := by
      unfold cutG
      rw [List.length_map] at hw
      rw [hw.1, hw.2, List.drop_zero, Nat.sub_zero, List.take_of_length_le (Nat.le_refl _)]
    rw [e]
    exact ht
  · refine q p _ (same_upd hp) ?_
    show upd H p _ p = _
    rw [upd_same, cutV_map]
theorem op_catS : OpR X (binaryOp .Add) rCatS := by
  intro pins s σ H x y v u Q I rx ry h
  obtain ⟨a, b, ts, us, rfl, rfl, ha, hb, hz, q⟩ := h
  refine op_catA pins s σ H _ _ v u Q I rx ry ⟨a, b, ts.map V.str, us.map V.str, rfl, rfl, SqT.of ha, SqT.of hb, by rw [List.length_map, List.length_map]; exact sz_of hz, fun e => ?_, fun _ e => ?_, fun _ _ p hp => ?_⟩
  · have e0 : ts = [] := by simpa using e
    subst e0
    exact q b H (Same.refl H) hb
  · have e0 : us = [] := by simpa using e
    subst e0
    exact q a H (Same.refl H) (by rw [List.append_nil]; exact ha)
  · refine q p _ (same_upd hp) ?_
    show upd H p _ p = _
    rw [upd_same, List.map_append]
end
theorem rev_at {H : Hp} {p : Addr} {ts : List Str} : StrT (upd H p (.tup (ts.map V.str).reverse)) p ts.reverse := by
  show upd H p _ p = _
  rw [upd_same, List.map_reverse]
def YN (f : Nat → Nat) : Nat → Hp → V → Hp → Prop := fun i H x H' => H' = H ∧ x = .int ((f i : Nat) : Int)
theorem yn_same {f : Nat → Nat} : ∀ i H x H', YN f i H x H' → H' = H := fun _ _ _ _ y => y.1
theorem walk_range0 {n : Nat} : Walk (Itr 0 n) n (fun _ => True) (YN fun i => i) := walk_range.mono (fun _ _ => trivial) fun i H x H' _ _ y => ⟨y.1, y.2.trans (by show V.int (0 + (i : Int)) = V.int (i : Int); rw [Int.zero_add])⟩
theorem walk_range1 {n : Nat} : Walk (Itr 1 n) n (fun _ => True) (YN fun i => 1 + i) := walk_range.mono (fun _ _ => trivial) fun i H x H' _ _ y => ⟨y.1, y.2.trans (by show V.int (1 + (i : Int)) = V.int ((1 + i : Nat) : Int); congr 1)⟩
/-! ### the least round, first found -/
theorem lr_first {α : Type} [DecidableEq α] [Inhabited α] {t : List α} {s : Nat} (h0 : 0 < t.length) (h : ∀ d, 1 ≤ d → d < s → lrTest t d = false) (h1 : 1 ≤ s) (h2 : lrTest t s = true) : lr t = s := by
  obtain ⟨a, b, c, d, e⟩ := lr_spec h0
  unfold lrTest at h2
  obtain ⟨p1, p2⟩ := Bool.and_eq_true_iff.mp h2
  have hv : s ∣ t.length := Nat.dvd_of_mod_eq_zero (of_decide_eq_true p1)
  have hle : lr t ≤ s := by
    refine Nat.le_of_not_lt fun q => ?_
    have := e s h1 q hv
    rw [p2] at this
    cases this
  have hge : ¬ lr t < s := fun q => by
    have := h (lr t) a q
    unfold lrTest at this
    rw [decide_eq_true (Nat.mod_eq_zero_of_dvd c), d] at this
    cases this
  omega
theorem lr_none {α : Type} [DecidableEq α] [Inhabited α] {t : List α} (h0 : 0 < t.length) (h : ∀ d, 1 ≤ d → d < t.length → lrTest t d = false) : lr t = t.length := by
  obtain ⟨a, b, c, d, e⟩ := lr_spec h0
  refine Nat.le_antisymm b (Nat.le_of_not_lt fun q => ?_)
  have := h (lr t) a q
  unfold lrTest at this
  rw [decide_eq_true (Nat.mod_eq_zero_of_dvd c), d] at this
  cases this
section
variable {P : Program} {w : World} {K : PySem.W.Frag} {mg : Str → Option Value} {base : Heap}
/-! ### the manners -/
/-- what a manner makes of threads -/
def WordOf (ts ws : List Str) : Prop := ts.length ≤ ws.length ∧ ws.length ≤ 2 * ts.length ∧ ∀ x ∈ ws, x ∈ ts
def spRun : Sp := fun vs H Q _ => ∃ t : Addr, vs = [.ref t] ∧ Q (.ref t) H
def spWord : Sp := fun vs H Q _ => ∃ (t : Addr) (ts : List Str), vs = [.ref t] ∧ StrT H t ts ∧ ts.length ≤ 1000 ∧ ∀ H' p ws, Same H H' → StrT H' p ws → WordOf ts ws → Q (.ref p) H'
theorem wordOf_add {ts us : List Str} (h : us.length ≤ ts.length) (h2 : ∀ x ∈ us, x ∈ ts) : WordOf ts (ts ++ us) := by
  refine ⟨by rw [List.length_append]; omega, by rw [List.length_append]; omega, fun x hx => ?_⟩
  rcases List.mem_append.mp hx with z | z
  · exact z
  · exact h2 x z
theorem ok_run_word (G : Gs K w mg) : Dg P w K mg base 1 "run_word" ["threads"] spRun := by
  refine dg_of G.f_run_word sc_run_word (fun _ _ _ _ _ _ us hl => match us, hl with | [_], _ => rfl) (fun vs H Q E h => ?_) (fun cdv A outer s H vs Q E hr h => ?_)
  · obtain ⟨t, rfl, _⟩ := h
    rfl
  · obtain ⟨t, rfl, q⟩ := h
    refine ⟨_, pss_one (ps_ret (pv 0)), ?_⟩
    exact ⟨_, rfl, q⟩
theorem ok_fold_word (G : Gs K w mg) : Dg P w K mg base 1 "fold_word" ["threads"] spWord := by
  refine dg_of G.f_fold_word sc_fold_word (fun _ _ _ _ _ _ us hl => match us, hl with | [_], _ => rfl) (fun vs H Q E h => ?_) (fun cdv A outer s H vs Q E hr h => ?_)
  · obtain ⟨t, ts, rfl, _⟩ := h
    rfl
  · obtain ⟨t, ts, rfl, ht, hl, q⟩ := h
    refine ⟨_, pss_one (ps_ret (pe_op op_catS (pv 0) (pe_revT (pv 0)))), ?_⟩
    refine ⟨_, rfl, _, rfl, t, _, rfl, SqT.of ht, fun p hp => ?_⟩
    refine ⟨t, p, ts, ts.reverse, rfl, rfl, same_upd hp _ _ ht, rev_at, by rw [List.length_reverse]; omega, fun p2 H2 s2 h2 => ?_⟩
    exact q H2 p2 _ ((same_upd hp).trans s2) h2 (wordOf_add (by rw [List.length_reverse]; exact Nat.le_refl _) fun x hx => List.mem_reverse.mp hx)
theorem ok_pivot_word (G : Gs K w mg) : Dg P w K mg base 1 "pivot_word" ["threads"] spWord := by
  refine dg_of G.f_pivot_word sc_pivot_word (fun _ _ _ _ _ _ us hl => match us, hl with | [_], _ => rfl) (fun vs H Q E h => ?_) (fun cdv A outer s H vs Q E hr h => ?_)
  · obtain ⟨t, ts, rfl, _⟩ := h
    rfl
  · obtain ⟨t, ts, rfl, ht, hl, q⟩ := h
    refine ⟨_, pss_one (ps_ret (pe_op op_catS (pv 0) (pe_revT (pe_slice sl_str (pv 0) (po_some pe_int) (po_some (pe_un un_neg pe_int)))))), ?_⟩
    refine ⟨_, rfl, _, rfl, 1, rfl, _, rfl, _, rfl, t, ts, rfl, ht, fun p1 H1 s1 h1 => ?_⟩
    refine ⟨p1, _, rfl, SqT.of h1, fun p hp => ?_⟩
    have s2 := s1.trans (same_upd (o := .tup ((cutG ts (some 1) (some (-1))).map V.str).reverse) hp)
    have hc := cutG_len ts (some 1) (some (-1))
    refine ⟨t, p, ts, (cutG ts (some 1) (some (-1))).reverse, rfl, rfl, s2 _ _ ht, rev_at, by rw [List.length_reverse]; omega, fun p2 H2 s3 h2 => ?_⟩
    exact q H2 p2 _ (s2.trans s3) h2 (wordOf_add (by rw [List.length_reverse]; exact hc) fun x hx => cutG_mem (List.mem_reverse.mp hx))
theorem ok_left_word (G : Gs K w mg) : Dg P w K mg base 1 "left_word" ["threads"] spWord := by
  refine dg_of G.f_left_word sc_left_word (fun _ _ _ _ _ _ us hl => match us, hl with | [_], _ => rfl) (fun vs H Q E h => ?_) (fun cdv A outer s H vs Q E hr h => ?_)
  · obtain ⟨t, ts, rfl, _⟩ := h
    rfl
  · obtain ⟨t, ts, rfl, ht, hl, q⟩ := h
    refine ⟨_, pss_one (ps_ret (pe_op op_catS (pv 0) (pe_revT (pe_slice sl_str (pv 0) (po_some pe_int) po_none)))), ?_⟩
    refine ⟨_, rfl, _, rfl, 1, rfl, t, ts, rfl, ht, fun p1 H1 s1 h1 => ?_⟩
    refine ⟨p1, _, rfl, SqT.of h1, fun p hp => ?_⟩
    have s2 := s1.trans (same_upd (o := .tup ((cutG ts (some 1) none).map V.str).reverse) hp)
    have hc := cutG_len ts (some 1) none
    refine ⟨t, p, ts, (cutG ts (some 1) none).reverse, rfl, rfl, s2 _ _ ht, rev_at, by rw [List.length_reverse]; omega, fun p2 H2 s3 h2 => ?_⟩
    exact q H2 p2 _ (s2.trans s3) h2 (wordOf_add (by rw [List.length_reverse]; exact hc) fun x hx => cutG_mem (List.mem_reverse.mp hx))
theorem ok_right_word (G : Gs K w mg) : Dg P w K mg base 1 "right_word" ["threads"] spWord := by
  refine dg_of G.f_right_word sc_right_word (fun _ _ _ _ _ _ us hl => match us, hl with | [_], _ => rfl) (fun vs H Q E h => ?_) (fun cdv A outer s H vs Q E hr h => ?_)
  · obtain ⟨t, ts, rfl, _⟩ := h
    rfl
  · obtain ⟨t, ts, rfl, ht, hl, q⟩ := h
    refine ⟨_, pss_one (ps_ret (pe_op op_catS (pv 0) (pe_revT (pe_slice sl_str (pv 0) po_none (po_some (pe_un un_neg pe_int)))))), ?_⟩
    refine ⟨_, rfl, _, rfl, _, rfl, _, rfl, t, ts, rfl, ht, fun p1 H1 s1 h1 => ?_⟩
    refine ⟨p1, _, rfl, SqT.of h1, fun p hp => ?_⟩
    have s2 := s1.trans (same_upd (o := .tup ((cutG ts none (some (-1))).map V.str).reverse) hp)
    have hc := cutG_len ts none (some (-1))
    refine ⟨t, p, ts, (cutG ts none (some (-1))).reverse, rfl, rfl, s2 _ _ ht, rev_at, by rw [List.length_reverse]; omega, fun p2 H2 s3 h2 => ?_⟩
    exact q H2 p2 _ (s2.trans s3) h2 (wordOf_add (by rw [List.length_reverse]; exact hc) fun x hx => cutG_mem (List.mem_reverse.mp hx))
/-! ### is_manner, check_spot -/
def spIsManner (K : PySem.W.Frag) : Sp := fun vs H Q _ => ∃ (m : Str) (u : Value), vs = [.str m] ∧ PySem.W.nsIn K (ga K "MANNERS") m = some (some u) ∧ Q (.bl true) H
theorem ok_is_manner (G : Gs K w mg) : Dg P w K mg base 1 "is_manner" ["thing"] (spIsManner K) := by
  refine dg_of G.f_is_manner sc_is_manner (fun _ _ _ _ _ _ us hl => match us, hl with | [_], _ => rfl) (fun vs H Q E h => ?_) (fun cdv A outer s H vs Q E hr h => ?_)
  · obtain ⟨m, u, rfl, _⟩ := h
    rfl
  · obtain ⟨m, u, rfl, hu, q⟩ := h
    obtain ⟨es, n, D⟩ := G.man
    refine ⟨_, pss_one (ps_ret (pe_and (pe_callB call_isi (by rfl) G.z_isinstance (by decide +kernel) (pa_cons (pv 0) (pa_cons (pe_bltn (v := .ty "str") (by rfl) G.z_str (by decide +kernel) rfl) pa_nil)))
      (pe_one (pe_cmpR (op_in_kd D) (pv 0) (pe_glob (v := .ref (ga K "MANNERS")) (by rfl) G.g_man rfl) (by rfl))))), ?_⟩
    refine ⟨_, rfl, _, _, _, _, true, rfl, .ty _, .base (.str m), kit_ty (by decide +kernel), true, rfl, iteT ?_⟩
    exact ⟨_, rfl, m, some u, rfl, rfl, hu, q⟩
def spCheckSpot : Sp := fun vs H Q _ => ∃ n : Int, vs = [.int n] ∧ (-(10 ^ 30) ≤ n ∧ n ≤ 10 ^ 30) ∧ Q .non H
theorem ok_check_spot (G : Gs K w mg) : Dg P w K mg base 3 "check_spot" ["thing"] spCheckSpot := by
  have D1 : Dg P w K mg base 2 "is_between" ["x", "low", "high"] spIsBetween := ok_is_between G
  refine dg_of G.f_check_spot sc_check_spot (fun _ _ _ _ _ _ us hl => match us, hl with | [_], _ => rfl) (fun vs H Q E h => ?_) (fun cdv A outer s H vs Q E hr h => ?_)
  · obtain ⟨n, rfl, _⟩ := h
    rfl
  · obtain ⟨n, rfl, ⟨h1, h2⟩, q⟩ := h
    obtain ⟨tk, hB⟩ := G.big
    refine ⟨_, pss_one (ps_if (pt_not (pt_val (pe_dg D1 hr (pa_cons (pv 0) (pa_cons (pe_op op_sub pe_int (pe_glob (v := .int (10 ^ 30)) (by rfl) hB ⟨tk, rfl⟩)) (pa_cons (pe_glob (v := .int (10 ^ 30)) (by rfl) hB ⟨tk, rfl⟩) pa_nil)))))) pss_never pss_nil), ?_⟩
    refine ⟨_, rfl, _, _, rfl, rfl, n, 0 - 10 ^ 30, 10 ^ 30, rfl, ⟨by omega, h2⟩, true, rfl, iteF ?_⟩
    exact q
/-! ### least_round -/
def spLeastRound : Sp := fun vs H Q _ => ∃ (t : Addr) (ts : List Str), vs = [.ref t] ∧ StrT H t ts ∧ (1 ≤ ts.length ∧ ts.length ≤ 1000 ∧ ∀ x ∈ ts, Shade x) ∧ ∀ H', Same H H' → Q (.int (lr ts : Nat)) H'
theorem per_dec {ts : List Str} (d : Nat) : decide (ts.drop d = ts.take (ts.length - d)) = per ts d := rfl
theorem ok_least_round (G : Gs K w mg) : Dg P w K mg base 1 "least_round" ["threads"] spLeastRound := by
  refine dg_of G.f_least_round sc_least_round (fun _ _ _ _ _ _ us hl => match us, hl with | [_], _ => rfl) (fun vs H Q E h => ?_) (fun cdv A outer s H vs Q E hr h => ?_)
  · obtain ⟨t, ts, rfl, _⟩ := h
    rfl
  · obtain ⟨t, ts, rfl, ht, ⟨h1, h2, hs⟩, q⟩ := h
    refine ⟨_, pss_cons (ps_set (i := 1) sc_least_round.nd rfl (Or.inl rfl) (pe_callB call_len_seq (by rfl) G.z_len PySem.boot_len (pa_cons (pv 0) pa_nil)))
      (pss_cons (ps_for PassesOwn.never rfl (pi_range2 (by rfl) G.z_range (pa_cons pe_int (pa_cons (pv 1) pa_nil))) (pg_name (i := 2) sc_least_round.nd rfl (Or.inl rfl))
        (pss_one (ps_if (PW.pt (pw_and (pt_cmpR op_eq (pe_op op_mod (pv 1) (pv 2)) pe_int (nomark _)) (pw_and1 (pt_cmpR (op_eqTS hr.units) (pe_slice sl_str (pv 0) (po_some (pv 2)) po_none) (pe_slice sl_str (pv 0) po_none (po_some (pe_op op_sub (pv 1) (pv 2)))) (nomark _)))))
          (pss_one (ps_ret (pv 2))) pss_nil)))
      (pss_one (ps_ret (pv 1)))), ?_⟩
    refine ⟨_, rfl, t, _, rfl, .inr ht.sq, ?_⟩
    rw [List.length_map]
    refine ⟨_, rfl, _, _, rfl, ⟨by omega, by omega, by omega, by omega⟩, ?_⟩
    have hn : (((ts.length : Nat) : Int) - 1).toNat = ts.length - 1 := by omega
    rw [hn]
    refine for_it walk_range1 (fun i σ H' => ∃ y2, σ = [some (.ref t), some (.int (ts.length : Nat)), y2] ∧ Same H H' ∧ ∀ d, 1 ≤ d → d < 1 + i → lrTest ts d = false) ⟨none, rfl, Same.refl H, fun d a b => by omega⟩ (fun _ _ _ _ _ => trivial) (fun i x σ H1 H2 hi p y => ?_) (fun σ H' p => ?_)
    · obtain ⟨y2, rfl, s1, hd⟩ := p
      obtain ⟨rfl, hx⟩ := y
      replace hx : x = V.int ((1 + i : Nat) : Int) := hx
      subst hx
      -- many % size == 0
      refine ⟨_, rfl, _, rfl, _, _, rfl, rfl, (show (0 : Int) < ((1 + i : Nat) : Int) by omega), rfl, _, rfl, ?_⟩
      have no : lrTest ts (1 + i) = false → ∀ d, 1 ≤ d → d < 1 + (i + 1) → lrTest ts d = false := fun hf d a b => by
        by_cases z : d = 1 + i
        · rw [z]; exact hf
        · exact hd d a (by omega)
      have e2 : ((ts.length : Nat) : Int) % ((1 + i : Nat) : Int) = ((ts.length % (1 + i) : Nat) : Int) := (Int.natCast_emod _ _).symm
      by_cases hm : ts.length % (1 + i) = 0
      · refine iteTe (decide_eq_true (by show V.int (((ts.length : Nat) : Int) % ((1 + i : Nat) : Int)) = V.int 0; rw [e2, hm]; rfl)) ?_
        refine ⟨_, rfl, _, rfl, _, rfl, t, ts, rfl, s1 _ _ ht, fun p1 H3 s2 g1 => ?_⟩
        rw [cutG_drop] at g1
        have e3 : ((ts.length : Nat) : Int) - ((1 + i : Nat) : Int) = ((ts.length - (1 + i) : Nat) : Int) := by omega
        refine ⟨_, rfl, _, rfl, _, rfl, _, _, rfl, rfl, ?_⟩
        refine ⟨((ts.length : Nat) : Int) - ((1 + i : Nat) : Int), rfl, t, ts, rfl, s2 _ _ (s1 _ _ ht), fun p2 H4 s3 g2 => ?_⟩
        rw [e3, cutG_take] at g2
        refine ⟨p1, p2, ts.drop (1 + i), ts.take (ts.length - (1 + i)), rfl, rfl, (show StrT H4 p1 _ from s3 _ _ g1).sq, g2.sq, fun x hx => hs x (List.mem_of_mem_drop hx), fun x hx => hs x (List.mem_of_mem_take hx), _, rfl, ?_⟩
        refine iteB (fun hb => ?_) (fun hb => ?_)
        · have e4 : lr ts = 1 + i := lr_first h1 hd (by omega) (by
            unfold lrTest
            rw [decide_eq_true hm]
            exact hb)
          refine ⟨_, rfl, ?_⟩
          have k := q H4 ((s1.trans s2).trans s3)
          rw [e4] at k
          exact k
        · exact ⟨_, rfl, (s1.trans s2).trans s3, no (by
            unfold lrTest
            rw [decide_eq_true hm]
            exact hb)⟩
      · refine iteFe (decide_eq_false (by show ¬ V.int (((ts.length : Nat) : Int) % ((1 + i : Nat) : Int)) = V.int 0; rw [e2]; intro z; have := V.int.inj z; omega)) (iteF ?_)
        exact ⟨_, rfl, s1, no (by unfold lrTest; rw [decide_eq_false hm]; rfl)⟩
    · obtain ⟨y2, rfl, s1, hd⟩ := p
      refine ⟨_, rfl, ?_⟩
      have e4 : lr ts = ts.length := lr_none h1 fun d a b => hd d a (by omega)
      have k := q H' s1
      rw [e4] at k
      exact k
end
end SL
set_option Elab.async false
set_option linter.all false
set_option maxRecDepth 100000
set_option maxHeartbeats 4000000
namespace SL
open PySem PySem.Spec PyProof.Rows L2 He
theorem atI_cyN {ts : List Str} {x : Int} {s : Nat} (h1 : 0 < s) (h2 : s ≤ ts.length) (hP : SL.P ts (s : Int)) : atI (ts.map V.str) (x % (s : Int)) = some (.str (cy ts x)) := by
  have h0 : 0 ≤ x % (s : Int) := Int.emod_nonneg _ (by omega)
  have h3 : x % (s : Int) < (s : Int) := Int.emod_lt_of_pos _ (by omega)
  have e : x % (s : Int) = (((x % (s : Int)).toNat : Nat) : Int) := (Int.toNat_of_nonneg h0).symm
  rw [← cy_P_emod hP x, e, cy_at (by omega)]
  refine atI_nat ?_
  rw [List.getElem?_map, at_get (by omega)]
  rfl
theorem atI_cy {ts : List Str} (h : 0 < ts.length) (x : Int) : atI (ts.map V.str) (x % (ts.length : Int)) = some (.str (cy ts x)) := atI_cyN h (Nat.le_refl _) (P_len ts)
theorem cy_mem {ts : List Str} (h : 0 < ts.length) (x : Int) : cy ts x ∈ ts := by
  have h0 : 0 ≤ x % (ts.length : Int) := Int.emod_nonneg _ (by omega)
  have h3 : x % (ts.length : Int) < (ts.length : Int) := Int.emod_lt_of_pos _ (by omega)
  unfold cy
  exact List.mem_of_getElem? (at_get (by omega))
theorem win_mem {ts : List Str} (h : 0 < ts.length) {b : Int} {n : Nat} {x : Str} (hx : x ∈ win ts b n) : x ∈ ts := by
  obtain ⟨i, _, rfl⟩ := List.mem_map.mp hx
  exact cy_mem h _
theorem win_self {α : Type} [DecidableEq α] [Inhabited α] (ts : List α) : win ts 0 ts.length = ts := by
  apply ext_at
  · rw [win_length]
  · intro i hi
    rw [win_length] at hi
    rw [at_win hi, Int.zero_add, cy_at hi]
theorem win_strs (ts : List Str) (b : Int) (n : Nat) : (List.range n).map (fun i : Nat => V.str (cy ts (b + (i : Int)))) = (win ts b n).map V.str := by
  unfold win
  rw [List.map_map]
  rfl
theorem rowOk_win {ws : List Str} (h : 0 < ws.length) (hl : lr ws ≤ 240) (hs : ∀ x ∈ ws, Shade x) (b : Int) : RowOk (win ws b (lr ws)) :=
  ⟨⟨by rw [win_length]; exact (lr_spec h).1, by rw [win_length]; exact hl, fun x hx => hs x (win_mem h hx)⟩, prim_kept h⟩
theorem rowOk_turn {ts : List Str} (h : RowOk ts) (b : Int) : RowOk (win ts b ts.length) := by
  have e := rowOk_win (ws := ts) h.pos (by rw [h.prim]; exact h.le) h.sh b
  rw [h.prim] at e
  exact e
section
variable {P : Program} {w : World} {K : PySem.W.Frag} {mg : Str → Option Value} {base : Heap}
/-! ### the manners' table -/
def spLay (run : Bool) : Sp := fun vs H Q _ => ∃ (t : Addr) (ts : List Str), vs = [.ref t] ∧ StrT H t ts ∧ ts.length ≤ 1000 ∧ ∀ H' p ws, Same H H' → StrT H' p ws → WordOf ts ws → (run = true → ws = ts) → Q (.ref p) H'
structure LayOk (P : Program) (w : World) (K : PySem.W.Frag) (mg : Str → Option Value) (base : Heap) (m : Str) (f : Addr) : Prop where
  u : ∃ u, PySem.W.nsIn K (ga K "MANNERS") m = some (some u) ∧ RelV (.ref f) u
  ok : ∃ fd, FnOk P w K mg base CX0 1 f fd ["threads"] (spLay (decide (m = "run"))) ∧ Binds K fd ["threads"] []
  kp : PySem.W.keepIn K (.ref f) = true
def manners : List Str := ["run", "pivot", "fold", "left", "right"]
theorem lay_word {b : Bool} {vs : List V} {H : Hp} {Q : VK} {E : XK} (hb : b = false) (h : spLay b vs H Q E) : spWord vs H Q E := by
  obtain ⟨t, ts, rfl, ht, hl, q⟩ := h
  exact ⟨t, ts, rfl, ht, hl, fun H' p ws s1 g wo => q H' p ws s1 g wo fun z => by rw [hb] at z; cases z⟩
theorem lay_ok (G : Gs K w mg) {m : Str} (hm : m ∈ manners) : ∃ f, LayOk P w K mg base m f := by
  have other : ∀ {x m : Str}, Dg P w K mg base 1 x ["threads"] spWord → (∃ u, PySem.W.nsIn K (ga K "MANNERS") m = some (some u) ∧ RelV (.ref (ga K x)) u) → decide (m = "run") = false → ∃ f, LayOk P w K mg base m f := by
    intro x m D hu hf
    obtain ⟨fd, F, hb⟩ := D.ex
    exact ⟨_, hu, ⟨fd, F.imp fun vs H Q E h => lay_word hf h, hb⟩, D.kp⟩
  simp only [manners, List.mem_cons, List.not_mem_nil, or_false] at hm
  rcases hm with rfl | rfl | rfl | rfl | rfl
  · have D : Dg P w K mg base 1 "run_word" ["threads"] spRun := ok_run_word G
    obtain ⟨fd, F, hb⟩ := D.ex
    refine ⟨_, G.man1, ⟨fd, F.imp fun vs H Q E h => ?_, hb⟩, D.kp⟩
    obtain ⟨t, ts, rfl, ht, hl, q⟩ := h
    exact ⟨t, rfl, q H t ts (Same.refl H) ht ⟨Nat.le_refl _, by omega, fun x hx => hx⟩ fun _ => rfl⟩
  · exact other (ok_pivot_word G) G.man2 (by decide +kernel)
  · exact other (ok_fold_word G) G.man3 (by decide +kernel)
  · exact other (ok_left_word G) G.man4 (by decide +kernel)
  · exact other (ok_right_word G) G.man5 (by decide +kernel)
/-! ### Row.__init__ -/
def spRowInit (K : PySem.W.Frag) : Sp := fun vs H Q _ => ∃ (p dx t : Addr) (ps : List Prr) (m : Str) (st : Int), vs = [.ref p, .ref t, .str m, .int st] ∧ H p = some (.ins (ga K "Row") dx []) ∧ StAt H t ps ∧ StOk ps ∧
  m ∈ manners ∧ (-(10 ^ 30) ≤ st ∧ st ≤ 10 ^ 30) ∧ (m = "run" ∨ (expand ps).length ≤ 120) ∧
  ∀ H' ws, (∀ b o, H b = some o → b ≠ p → H' b = some o) → ObA K "Row" H' p (win ws st (lr ws)) → RowOk (win ws st (lr ws)) → (m = "run" → ws = expand ps) → Q .non H'
theorem ok_R_init (G : Gs K w mg) : ∃ fd, FnOk P w K mg base CX0 6 (ma K (ga K "Row") "__init__") fd ["self", "stripes", "manner", "start"] (spRowInit K) ∧
    (∃ ds, Vals [.str "run", .int 0] ds ∧ Binds K fd ["self", "stripes", "manner", "start"] ds) ∧ Binds K fd ["self", "stripes", "manner", "start"] [] := by
  have D1 : Dg P w K mg base 5 "threads_of" ["stripes"] spThreadsOf := ok_threads_of G
  have D2 : Dg P w K mg base 1 "is_manner" ["thing"] (spIsManner K) := ok_is_manner G
  have D3 : Dg P w K mg base 3 "check_spot" ["thing"] spCheckSpot := ok_check_spot G
  have D4 : Dg P w K mg base 1 "least_round" ["threads"] spLeastRound := ok_least_round G
  obtain ⟨fd, F⟩ := G.f_R_init
  refine ⟨fd, F.ok sc_R_init (fun vs H Q E h => ?_) (fun cdv A outer s H vs Q E hr h => ?_), ?_, ?_⟩
  · obtain ⟨p, dx, t, ps, m, st, rfl, _⟩ := h
    rfl
  · obtain ⟨p, dx, t, ps, m, st, rfl, hpi, hS, hk, hm, ⟨hs1, hs2⟩, hlen, q⟩ := h
    obtain ⟨f, L⟩ := lay_ok (P := P) (base := base) G hm
    obtain ⟨u, hu, ru⟩ := L.u
    obtain ⟨fl, FL, bL⟩ := L.ok
    obtain ⟨es, n, KD⟩ := G.man
    obtain ⟨tk, hM⟩ := G.most
    have X : ∃ t0, PSs (cxOf CX0 P w K mg base ["self", "stripes", "manner", "start", "threads", "lay", "word", "size", "spot"] "Row.__init__" (defScope s_R_init) (ma K (ga K "Row") "__init__") cdv A outer s H E).nox (defBody s_R_init) t0 ∧
        t0 { nx := fun _ H' => Q .non H', rt := Q } (start ["self", "stripes", "manner", "start", "threads", "lay", "word", "size", "spot"] [.ref p, .ref t, .str m, .int st]) H := by
      refine ⟨_, pss_cons (ps_set (i := 4) sc_R_init.nd rfl (Or.inl rfl) (pe_dg D1 hr (pa_cons (pv 1) pa_nil)))
        (pss_cons (ps_if (pt_not (pt_val (pe_dg D2 (hr.mono (by decide)) (pa_cons (pv 2) pa_nil)))) pss_never pss_nil)
        (pss_cons (ps_expr (pe_dg D3 (hr.mono (by decide)) (pa_cons (pv 3) pa_nil)))
        (pss_cons (ps_set (i := 5) sc_R_init.nd rfl (Or.inl rfl) (pe_ix ix_kdict (pe_glob (v := .ref (ga K "MANNERS")) (by rfl) G.g_man rfl) (pv 2) (fun _ _ => rfl)))
        (pss_cons (ps_set (i := 6) sc_R_init.nd rfl (Or.inr rfl) (pe_callL (i := 5) (f := f) FL (hr.mono (by decide)) rfl (Or.inl rfl) L.kp bL .nil pass0 (pa_cons (pv 4) pa_nil)))
        (pss_cons (ps_set (i := 7) sc_R_init.nd rfl (Or.inr rfl) (pe_dg D4 (hr.mono (by decide)) (pa_cons (pv 6) pa_nil)))
        (pss_cons (ps_if (pt_cmpR op_gt (pv 7) (pe_glob (v := .int 240) (by rfl) hM ⟨tk, rfl⟩) (nomark _)) pss_never pss_nil)
        (pss_one (ps_fld (pv 0) (pe_callTy call_tuple_of (by rfl) G.z_tuple (by decide +kernel) (pa_cons
          (pe_lc (own := [("spot", 8)]) (g := gName 8) rfl sc_R_init.nd (pi_range1 (by rfl) G.z_range (pa_cons (pv 7) pa_nil)) (blkOk_by (N := ["self", "stripes", "manner", "start", "threads", "lay", "word", "size", "spot"]) (sc := defScope s_R_init) (by decide +kernel)) (fun _ _ _ _ _ => pg_name (i := 8) sc_R_init.nd rfl (Or.inl rfl)) (fun _ _ _ _ _ => pts_nil)
            (fun _ _ _ _ _ => pe_ix (r := rIxT K) ix_tup (pv 6) (pe_op op_mod (pe_op op_add (pv 8) (pv 3)) (pv 7)) (fun _ _ => rfl))) pa_nil)) rfl)))))))), ?_⟩
      have hx := expand_ok hk
      refine ⟨_, rfl, t, ps, rfl, hS, hk, fun H1 p1 s1 g1 => ?_⟩
      refine ⟨_, rfl, m, u, rfl, hu, true, rfl, iteF ?_⟩
      refine ⟨_, rfl, st, rfl, ⟨hs1, hs2⟩, ?_⟩
      refine ⟨_, rfl, _, m, .ref f, rfl, rfl, ⟨es, n, u, KD.at_, KD.lit, hu, ru⟩, ?_⟩
      refine ⟨rfl, _, rfl, p1, expand ps, rfl, g1, by have := hx.le; omega, fun H2 p2 ws s2 g2 wo hrun => ?_⟩
      obtain ⟨w1, w2, w3⟩ := wo
      have hw0 : 1 ≤ ws.length := by have := hx.pos; omega
      have hwl : ws.length ≤ 240 := by
        rcases hlen with e | e
        · rw [hrun (decide_eq_true e)]
          exact hx.le
        · omega
      have hwsh : ∀ x ∈ ws, Shade x := fun x hx' => hx.sh x (w3 x hx')
      refine ⟨_, rfl, p2, ws, rfl, g2, ⟨hw0, by omega, hwsh⟩, fun H3 s3 => ?_⟩
      obtain ⟨l1, l2, _⟩ := lr_spec hw0
      refine ⟨_, rfl, _, _, rfl, rfl, _, rfl, ?_⟩
      refine iteFe (decide_eq_false (show ¬ (240 : Int) < ((lr ws : Nat) : Int) by omega)) ?_
      have s13 : Same H H3 := (s1.trans s2).trans s3
      refine ⟨_, rfl, ((lr ws : Nat) : Int), rfl, by omega, by omega, fun D hD => ?_⟩
      have hn : (((lr ws : Nat) : Int)).toNat = lr ws := Int.toNat_natCast _
      rw [hn]
      refine lc_map walk_range0 (fun i : Nat => .str (cy ws (st + (i : Int)))) hD (by omega) (fun _ _ => trivial) yn_same (fun _ => rfl) (fun i x H4 hi s4 y Q1 k => ?_) (fun H4 s4 e4 => ?_)
      · obtain ⟨_, _, hx4⟩ := y
        replace hx4 : x = V.int (i : Int) := hx4
        subst hx4
        refine ⟨_, rfl, _, rfl, _, rfl, (i : Int), st, rfl, rfl, _, rfl, _, _, rfl, rfl, (show (0 : Int) < ((lr ws : Nat) : Int) by omega), ?_⟩
        refine ⟨p2, _, _, .str (cy ws (st + (i : Int))), rfl, rfl, SqT.of (s4 _ _ (s3 _ _ g2)), ?_, k _ (Same.refl _)⟩
        have := atI_cyN (ts := ws) (x := (i : Int) + st) (s := lr ws) (by omega) l2 (lr_P hw0)
        rw [Int.add_comm st (i : Int)]
        exact this
      · refine ⟨D, _, rfl, .inl ⟨SqL.of e4, fun l hl => ?_⟩⟩
        rw [win_strs]
        have s14 := s13.trans s4
        have npl : p ≠ l := ne_of_none (s14 _ _ hpi) hl
        refine ⟨_, rfl, p, ga K "Row", dx, [], rfl, by rw [upd_ne npl]; exact s14 _ _ hpi, G.row.cl, G.row.no, (by show 0 < 1000; decide), ?_⟩
        refine q _ ws (fun b o e hb => ?_) ⟨dx, l, upd_same, ?_⟩ (rowOk_win hw0 (by omega) hwsh st) (fun e => hrun (decide_eq_true e))
        · rw [upd_ne hb, upd_ne (ne_of_none (s14 _ _ e) hl)]
          exact s14 _ _ e
        · show upd _ p _ l = _
          rw [upd_ne npl.symm, upd_same]
    obtain ⟨t0, h0, q0⟩ := X
    exact ⟨t0, h0.nox, q0⟩
  · obtain ⟨ds, h1, h2⟩ := F.binds1 (ps := ["self", "stripes", "manner", "start"]) 2 0 (by simp) rfl (fun T kV doc pm an cdv ct us its hl hl2 => match us, its, hl, hl2 with | [_, _], [_, _], _, _ => ⟨_, rfl, rfl⟩)
    exact ⟨ds, h1, h2⟩
  · obtain ⟨ds, h1, h2⟩ := F.binds1 (ps := ["self", "stripes", "manner", "start"]) 4 2 (by simp) rfl (fun T kV doc pm an cdv ct us its hl hl2 => match us, its, hl, hl2 with | [_, _, _, _], [_, _], _, _ => ⟨_, rfl, rfl⟩)
    have h1' : Vals [] ds := h1
    cases h1'
    exact h2
end
end SL
set_option Elab.async false
set_option linter.all false
set_option maxRecDepth 100000
set_option maxHeartbeats 4000000
namespace SL
open PySem PySem.Spec PyProof.Rows L2 He
section
variable {P : Program} {w : World} {K : PySem.W.Frag} {mg : Str → Option Value} {base : Heap}
/-! ### a row's methods -/
def spLen (K : PySem.W.Frag) (C : Str) : Sp := fun vs H Q _ => ∃ (p : Addr) (ts : List Str), vs = [.ref p] ∧ ObA K C H p ts ∧ Q (.int (ts.length : Nat)) H
def spThreads (K : PySem.W.Frag) (C : Str) : Sp := fun vs H Q _ => ∃ (p : Addr) (ts : List Str), vs = [.ref p] ∧ ObA K C H p ts ∧ ∀ t, StrT H t ts → Q (.ref t) H
def spThread (K : PySem.W.Frag) : Sp := fun vs H Q _ => ∃ (p : Addr) (ts : List Str) (n : Int), vs = [.ref p, .int n] ∧ ObA K "Row" H p ts ∧ 1 ≤ ts.length ∧ Q (.str (cy ts n)) H
theorem ok_R_len (G : Gs K w mg) : Dm P w K mg base 1 "Row" "__len__" ["self"] (spLen K "Row") := by
  refine dm_of G.m_R_len sc_R_len (fun _ _ _ _ _ _ us hl => match us, hl with | [_], _ => rfl) (fun vs H Q E h => ?_) (fun cdv A outer s H vs Q E hr h => ?_)
  · obtain ⟨p, ts, rfl, _⟩ := h
    rfl
  · obtain ⟨p, ts, rfl, ⟨dx, t, hp, ht⟩, q⟩ := h
    refine ⟨_, pss_one (ps_ret (pe_callB call_len_seq (by rfl) G.z_len PySem.boot_len (pa_cons (pe_fld (pv 0) rfl) pa_nil))), ?_⟩
    refine ⟨_, rfl, p, _, dx, _, _, rfl, hp, G.row.cl, G.row.no, kept_look t, t, _, rfl, .inr ht.sq, ?_⟩
    rw [List.length_map]
    exact q
theorem ok_P_len (G : Gs K w mg) : Dm P w K mg base 1 "Piece" "__len__" ["self"] (spLen K "Piece") := by
  refine dm_of G.m_P_len sc_P_len (fun _ _ _ _ _ _ us hl => match us, hl with | [_], _ => rfl) (fun vs H Q E h => ?_) (fun cdv A outer s H vs Q E hr h => ?_)
  · obtain ⟨p, ts, rfl, _⟩ := h
    rfl
  · obtain ⟨p, ts, rfl, ⟨dx, t, hp, ht⟩, q⟩ := h
    refine ⟨_, pss_one (ps_ret (pe_callB call_len_seq (by rfl) G.z_len PySem.boot_len (pa_cons (pe_fld (pv 0) rfl) pa_nil))), ?_⟩
    refine ⟨_, rfl, p, _, dx, _, _, rfl, hp, G.pie.cl, G.pie.no, kept_look t, t, _, rfl, .inr ht.sq, ?_⟩
    rw [List.length_map]
    exact q
theorem ok_R_threads (G : Gs K w mg) : Dm P w K mg base 1 "Row" "threads" ["self"] (spThreads K "Row") := by
  refine dm_of G.m_R_threads sc_R_threads (fun _ _ _ _ _ _ us hl => match us, hl with | [_], _ => rfl) (fun vs H Q E h => ?_) (fun cdv A outer s H vs Q E hr h => ?_)
  · obtain ⟨p, ts, rfl, _⟩ := h
    rfl
  · obtain ⟨p, ts, rfl, ⟨dx, t, hp, ht⟩, q⟩ := h
    refine ⟨_, pss_one (ps_ret (pe_fld (pv 0) rfl)), ?_⟩
    exact ⟨_, rfl, p, _, dx, _, _, rfl, hp, G.row.cl, G.row.no, kept_look t, q t ht⟩
theorem ok_P_threads (G : Gs K w mg) : Dm P w K mg base 1 "Piece" "threads" ["self"] (spThreads K "Piece") := by
  refine dm_of G.m_P_threads sc_P_threads (fun _ _ _ _ _ _ us hl => match us, hl with | [_], _ => rfl) (fun vs H Q E h => ?_) (fun cdv A outer s H vs Q E hr h => ?_)
  · obtain ⟨p, ts, rfl, _⟩ := h
    rfl
  · obtain ⟨p, ts, rfl, ⟨dx, t, hp, ht⟩, q⟩ := h
    refine ⟨_, pss_one (ps_ret (pe_fld (pv 0) rfl)), ?_⟩
    exact ⟨_, rfl, p, _, dx, _, _, rfl, hp, G.pie.cl, G.pie.no, kept_look t, q t ht⟩
theorem ok_R_thread (G : Gs K w mg) : Dm P w K mg base 1 "Row" "thread" ["self", "spot"] (spThread K) := by
  refine dm_of G.m_R_thread sc_R_thread (fun _ _ _ _ _ _ us hl => match us, hl with | [_, _], _ => rfl) (fun vs H Q E h => ?_) (fun cdv A outer s H vs Q E hr h => ?_)
  · obtain ⟨p, ts, n, rfl, _⟩ := h
    rfl
  · obtain ⟨p, ts, n, rfl, ⟨dx, t, hp, ht⟩, h1, q⟩ := h
    refine ⟨_, pss_one (ps_ret (pe_ix ix_tup (pe_fld (pv 0) rfl) (pe_op op_mod (pv 1) (pe_callB call_len_seq (by rfl) G.z_len PySem.boot_len (pa_cons (pe_fld (pv 0) rfl) pa_nil))) (fun _ _ => rfl))), ?_⟩
    refine ⟨_, rfl, p, _, dx, _, _, rfl, hp, G.row.cl, G.row.no, kept_look t, _, rfl, _, rfl, p, _, dx, _, _, rfl, hp, G.row.cl, G.row.no, kept_look t, t, _, rfl, .inr ht.sq, ?_⟩
    rw [List.length_map]
    refine ⟨n, _, rfl, rfl, (show (0 : Int) < (ts.length : Int) by omega), t, _, _, _, rfl, rfl, ht.sq, atI_cy h1 n, q⟩
def spSame (K : PySem.W.Frag) (C : Str) : Sp := fun vs H Q _ => ∃ (p p' : Addr) (ts us : List Str), vs = [.ref p, .ref p'] ∧ ObA K C H p ts ∧ ObA K C H p' us ∧ ((∀ x ∈ ts, Shade x) ∧ ∀ x ∈ us, Shade x) ∧ Q (.bl (decide (ts = us))) H
theorem ok_R_alike (G : Gs K w mg) : Dm P w K mg base 1 "Row" "alike" ["self", "other"] (spSame K "Row") := by
  refine dm_of G.m_R_alike sc_R_alike (fun _ _ _ _ _ _ us hl => match us, hl with | [_, _], _ => rfl) (fun vs H Q E h => ?_) (fun cdv A outer s H vs Q E hr h => ?_)
  · obtain ⟨p, p', ts, us, rfl, _⟩ := h
    rfl
  · obtain ⟨p, p', ts, us, rfl, ⟨dx, t, hp, ht⟩, ⟨dx', t', hp', ht'⟩, ⟨h1, h2⟩, q⟩ := h
    refine ⟨_, pss_one (ps_ret (pe_and (pe_callB call_isi (by rfl) G.z_isinstance (by decide +kernel) (pa_cons (pv 1) (pa_cons (pe_glob (v := .ref (ga K "Row")) (by rfl) G.row.gl rfl) pa_nil)))
      (pe_one (pe_cmpR (op_eqTS hr.units) (pe_fld (pv 0) rfl) (pe_fld (pv 1) rfl) (nomark _))))), ?_⟩
    refine ⟨_, rfl, _, _, _, _, true, rfl, .own _, ty_own hp' G.row.cl G.row.isi, kit_own, true, rfl, iteT ?_⟩
    exact ⟨_, rfl, p, _, dx, _, _, rfl, hp, G.row.cl, G.row.no, kept_look t, _, rfl, p', _, dx', _, _, rfl, hp', G.row.cl, G.row.no, kept_look t', t, t', ts, us, rfl, rfl, ht.sq, ht'.sq, h1, h2, q⟩
theorem ok_P_eq (G : Gs K w mg) : Dm P w K mg base 1 "Piece" "__eq__" ["self", "other"] (spSame K "Piece") := by
  refine dm_of G.m_P_eq sc_P_eq (fun _ _ _ _ _ _ us hl => match us, hl with | [_, _], _ => rfl) (fun vs H Q E h => ?_) (fun cdv A outer s H vs Q E hr h => ?_)
  · obtain ⟨p, p', ts, us, rfl, _⟩ := h
    rfl
  · obtain ⟨p, p', ts, us, rfl, ⟨dx, t, hp, ht⟩, ⟨dx', t', hp', ht'⟩, ⟨h1, h2⟩, q⟩ := h
    refine ⟨_, pss_one (ps_ret (pe_and (pe_callB call_isi (by rfl) G.z_isinstance (by decide +kernel) (pa_cons (pv 1) (pa_cons (pe_glob (v := .ref (ga K "Piece")) (by rfl) G.pie.gl rfl) pa_nil)))
      (pe_one (pe_cmpR (op_eqTS hr.units) (pe_fld (pv 0) rfl) (pe_fld (pv 1) rfl) (nomark _))))), ?_⟩
    refine ⟨_, rfl, _, _, _, _, true, rfl, .own _, ty_own hp' G.pie.cl G.pie.isi, kit_own, true, rfl, iteT ?_⟩
    exact ⟨_, rfl, p, _, dx, _, _, rfl, hp, G.pie.cl, G.pie.no, kept_look t, _, rfl, p', _, dx', _, _, rfl, hp', G.pie.cl, G.pie.no, kept_look t', t, t', ts, us, rfl, rfl, ht.sq, ht'.sq, h1, h2, q⟩
/-! ### row_of_threads, moved -/
def spRowOf (K : PySem.W.Frag) : Sp := fun vs H Q _ => ∃ (t : Addr) (ts : List Str), vs = [.ref t] ∧ StrT H t ts ∧ RowOk ts ∧ ∀ H' p, Same H H' → ObA K "Row" H' p ts → Q (.ref p) H'
theorem ok_row_of_threads (G : Gs K w mg) : Dg P w K mg base 8 "row_of_threads" ["threads"] (spRowOf K) := by
  have D1 : Dg P w K mg base 1 "least_round" ["threads"] spLeastRound := ok_least_round G
  have D2 : Dg P w K mg base 1 "merged" ["threads"] spMerged := ok_merged G
  obtain ⟨fdI, FI, ⟨ds, hds, hbI⟩, _⟩ := ok_R_init (P := P) (base := base) G
  refine dg_of G.f_row_of_threads sc_row_of_threads (fun _ _ _ _ _ _ us hl => match us, hl with | [_], _ => rfl) (fun vs H Q E h => ?_) (fun cdv A outer s H vs Q E hr h => ?_)
  · obtain ⟨t, ts, rfl, _⟩ := h
    rfl
  · obtain ⟨t, ts, rfl, ht, hk, q⟩ := h
    obtain ⟨tk, hM⟩ := G.most
    refine ⟨_, pss_cons (ps_set (i := 1) sc_row_of_threads.nd rfl (Or.inl rfl) (pe_dg D1 (hr.mono (by decide)) (pa_cons (pv 0) pa_nil)))
      (pss_cons (ps_if (pt_cmpR op_gt (pv 1) (pe_glob (v := .int 240) (by rfl) hM ⟨tk, rfl⟩) (nomark _)) pss_never pss_nil)
      (pss_one (ps_ret (pe_make G.row.mkr FI (hr.mono (by decide)) (by rfl) G.row.gl hbI hds pass0 (pa_cons (pe_dg D2 (hr.mono (by decide)) (pa_cons (pe_slice sl_str (pv 0) po_none (po_some (pv 1))) pa_nil)) pa_nil))))), ?_⟩
    have h1 := hk.pos
    have h2 := hk.le
    refine ⟨_, rfl, t, ts, rfl, ht, ⟨h1, by omega, hk.sh⟩, fun H1 s1 => ?_⟩
    rw [hk.prim]
    refine ⟨_, rfl, _, _, rfl, rfl, _, rfl, ?_⟩
    refine iteFe (decide_eq_false (show ¬ (240 : Int) < ((ts.length : Nat) : Int) by omega)) ?_
    refine ⟨_, rfl, _, rfl, _, rfl, t, ts, rfl, s1 _ _ ht, fun p2 H2 s2 g2 => ?_⟩
    rw [cutG_take, List.take_of_length_le (Nat.le_refl _)] at g2
    refine ⟨p2, ts, rfl, g2, hk.toShades, fun H3 p3 ps s3 hS hO hex => ?_⟩
    intro x dx nx ndx ne
    have s13 : Same H H3 := (s1.trans s2).trans s3
    have s4 : Same H3 (upd (upd H3 dx (.own x)) x (.ins (ga K "Row") dx [])) := fun b o e => by
      rw [upd_ne (ne_of_none e nx), upd_ne (ne_of_none e ndx)]
      exact e
    refine ⟨x, dx, p3, ps, "run", 0, rfl, upd_same, hS.same s4, hO, (by decide +kernel), ⟨by omega, by omega⟩, .inl rfl, fun H5 ws k5 ob rk hw => ⟨rfl, ?_⟩⟩
    have ew : ws = ts := (hw rfl).trans hex
    subst ew
    rw [hk.prim, win_self] at ob
    exact q H5 x (fun b o e => k5 b o (s4 _ _ (s13 _ _ e)) (ne_of_none (s13 _ _ e) nx)) ob
def spMoved (K : PySem.W.Frag) : Sp := fun vs H Q _ => ∃ (p : Addr) (ts : List Str) (n : Int), vs = [.ref p, .int n] ∧ ObA K "Row" H p ts ∧ RowOk ts ∧ (-(10 ^ 30) ≤ n ∧ n ≤ 10 ^ 30) ∧ ∀ H' p', Same H H' → ObA K "Row" H' p' (win ts (-n) ts.length) → Q (.ref p') H'
theorem ok_R_moved (G : Gs K w mg) : Dm P w K mg base 9 "Row" "moved" ["self", "by"] (spMoved K) := by
  have D1 : Dg P w K mg base 3 "check_spot" ["thing"] spCheckSpot := ok_check_spot G
  have D2 : Dg P w K mg base 8 "row_of_threads" ["threads"] (spRowOf K) := ok_row_of_threads G
  have D3 : Dm P w K mg base 1 "Row" "thread" ["self", "spot"] (spThread K) := ok_R_thread G
  refine dm_of G.m_R_moved sc_R_moved (fun _ _ _ _ _ _ us hl => match us, hl with | [_, _], _ => rfl) (fun vs H Q E h => ?_) (fun cdv A outer s H vs Q E hr h => ?_)
  · obtain ⟨p, ts, n, rfl, _⟩ := h
    rfl
  · obtain ⟨p, ts, n, rfl, hO, hk, hn, q⟩ := h
    refine ⟨_, pss_cons (ps_expr (pe_dg D1 (hr.mono (by decide)) (pa_cons (pv 1) pa_nil)))
      (pss_one (ps_ret (pe_dg D2 hr (pa_cons (pe_callTy call_tuple_of (by rfl) G.z_tuple (by decide +kernel) (pa_cons
        (pe_lc (own := [("spot", 2)]) (g := gName 2) rfl sc_R_moved.nd (pi_range1 (by rfl) G.z_range (pa_cons (pe_callB call_len_seq (by rfl) G.z_len PySem.boot_len (pa_cons (pe_fld (pv 0) rfl) pa_nil)) pa_nil)) (blkOk_by (N := ["self", "by", "spot"]) (sc := defScope s_R_moved) (by decide +kernel)) (fun _ _ _ _ _ => pg_name (i := 2) sc_R_moved.nd rfl (Or.inl rfl)) (fun _ _ _ _ _ => pts_nil)
          (fun _ _ _ _ _ => pe_dm (C := "Row") (pv 0) G.row.cl D3 (hr.mono (by decide)) (pa_cons (pe_op op_sub (pv 2) (pv 1)) pa_nil))) pa_nil)) pa_nil)))), ?_⟩
    obtain ⟨dx, t, hp, ht⟩ := id hO
    have h1 := hk.pos
    have h2 := hk.le
    refine ⟨_, rfl, n, rfl, hn, ?_⟩
    refine ⟨_, rfl, p, _, dx, _, _, rfl, hp, G.row.cl, G.row.no, kept_look t, t, _, rfl, .inr ht.sq, ?_⟩
    rw [List.length_map]
    refine ⟨_, rfl, by omega, by omega, fun D hD => ?_⟩
    rw [show (((ts.length : Nat) : Int)).toNat = ts.length from Int.toNat_natCast _]
    refine lc_map walk_range0 (fun i : Nat => .str (cy ts (-n + (i : Int)))) hD (by omega) (fun _ _ => trivial) yn_same (fun _ => rfl) (fun i x H4 hi s4 y Q1 k => ?_) (fun H4 s4 e4 => ?_)
    · obtain ⟨_, _, hx4⟩ := y
      replace hx4 : x = V.int (i : Int) := hx4
      subst hx4
      refine ⟨_, rfl, p, dx, _, rfl, s4 _ _ hp, kept_no t (by decide +kernel), _, rfl, _, rfl, _, _, rfl, rfl, p, ts, (i : Int) - n, rfl, hO.same s4, h1, ?_⟩
      rw [show (i : Int) - n = -n + (i : Int) by omega]
      exact k _ (Same.refl _)
    · refine ⟨D, _, rfl, .inl ⟨SqL.of e4, fun l hl => ?_⟩⟩
      rw [win_strs]
      refine ⟨l, _, rfl, upd_same, rowOk_turn hk _, fun H5 p' s5 ob => ?_⟩
      exact q H5 p' ((s4.trans (same_upd hl)).trans s5) ob
/-! ### pieces -/
def spPInit (K : PySem.W.Frag) : Sp := fun vs H Q _ => ∃ (p dx t : Addr) (ts : List Str), vs = [.ref p, .ref t] ∧ H p = some (.ins (ga K "Piece") dx []) ∧ StrT H t ts ∧ Shades ts ∧ ∀ H', (∀ b o, H b = some o → b ≠ p → H' b = some o) → ObA K "Piece" H' p ts → Q .non H'
theorem ok_P_init (G : Gs K w mg) : Dm P w K mg base 4 "Piece" "__init__" ["self", "threads"] (spPInit K) := by
  have D1 : Dg P w K mg base 3 "are_threads" ["thing"] spAreThreads := ok_are_threads G
  refine dm_of G.m_P_init sc_P_init (fun _ _ _ _ _ _ us hl => match us, hl with | [_, _], _ => rfl) (fun vs H Q E h => ?_) (fun cdv A outer s H vs Q E hr h => ?_)
  · obtain ⟨p, dx, t, ts, rfl, _⟩ := h
    rfl
  · obtain ⟨p, dx, t, ts, rfl, hp, ht, hs, q⟩ := h
    refine ⟨_, pss_cons (ps_if (pt_not (pt_val (pe_dg D1 hr (pa_cons (pv 1) pa_nil)))) pss_never pss_nil) (pss_one (ps_fld (pv 0) (pv 1) rfl)), ?_⟩
    refine ⟨_, rfl, t, ts, rfl, ht, hs, fun H1 s1 => ⟨true, rfl, iteF ?_⟩⟩
    refine ⟨_, rfl, _, rfl, p, _, dx, [], rfl, s1 _ _ hp, G.pie.cl, G.pie.no, (by show 0 < 1000; decide), ?_⟩
    have ntp : t ≠ p := ne_of ht hp (by intro z; cases z)
    refine q _ (fun b o e hb => ?_) ⟨dx, t, upd_same, ?_⟩
    · rw [upd_ne hb]
      exact s1 _ _ e
    · show upd _ p _ t = _
      rw [upd_ne ntp]
      exact s1 _ _ ht
/-- Piece(threads) -/
theorem pe_piece (G : Gs K w mg) : ∃ fd, FnOk P w K mg base CX0 4 (ma K (ga K "Piece") "__init__") fd ["self", "threads"] (spPInit K) ∧ Binds K fd ["self", "threads"] [] := (ok_P_init G).ex
theorem made_piece {H H1 : Hp} {x dx : Addr} (s1 : Same H H1) (nx : H1 x = none) (ndx : H1 dx = none) : Same H1 (upd (upd H1 dx (.own x)) x (.ins (ga K "Piece") dx [])) := fun b o e => by
  rw [upd_ne (ne_of_none e nx), upd_ne (ne_of_none e ndx)]
  exact e
def spJoined (K : PySem.W.Frag) : Sp := fun vs H Q _ => ∃ (p p' : Addr) (ts us : List Str), vs = [.ref p, .ref p'] ∧ ObA K "Piece" H p ts ∧ ObA K "Piece" H p' us ∧ Shades (ts ++ us) ∧ ∀ H' r, Same H H' → ObA K "Piece" H' r (ts ++ us) → Q (.ref r) H'
theorem ok_P_joined (G : Gs K w mg) : Dm P w K mg base 6 "Piece" "joined" ["self", "other"] (spJoined K) := by
  obtain ⟨fdI, FI, bI⟩ := pe_piece (P := P) (base := base) G
  refine dm_of G.m_P_joined sc_P_joined (fun _ _ _ _ _ _ us hl => match us, hl with | [_, _], _ => rfl) (fun vs H Q E h => ?_) (fun cdv A outer s H vs Q E hr h => ?_)
  · obtain ⟨p, p', ts, us, rfl, _⟩ := h
    rfl
  · obtain ⟨p, p', ts, us, rfl, ⟨dx, t, hp, ht⟩, ⟨dx', t', hp', ht'⟩, hs, q⟩ := h
    obtain ⟨tk, hM⟩ := G.most
    refine ⟨_, pss_cons (ps_set (i := 2) sc_P_joined.nd rfl (Or.inl rfl) (pe_op op_catS (pe_fld (pv 0) rfl) (pe_fld (pv 1) rfl)))
      (pss_cons (ps_if (pt_cmpR op_gt (pe_callB call_len_seq (by rfl) G.z_len PySem.boot_len (pa_cons (pv 2) pa_nil)) (pe_glob (v := .int 240) (by rfl) hM ⟨tk, rfl⟩) (nomark _)) pss_never pss_nil)
      (pss_one (ps_ret (pe_make G.pie.mkr FI hr (by rfl) G.pie.gl bI .nil pass0 (pa_cons (pv 2) pa_nil))))), ?_⟩
    have h2 := hs.le
    rw [List.length_append] at h2
    refine ⟨_, rfl, p, _, dx, _, _, rfl, hp, G.pie.cl, G.pie.no, kept_look t, _, rfl, p', _, dx', _, _, rfl, hp', G.pie.cl, G.pie.no, kept_look t', t, t', ts, us, rfl, rfl, ht, ht', by omega, fun p1 H1 s1 g1 => ?_⟩
    refine ⟨_, rfl, p1, _, rfl, .inr g1.sq, _, _, rfl, rfl, _, rfl, ?_⟩
    refine iteFe (decide_eq_false (show ¬ (240 : Int) < ((((ts ++ us).map V.str).length : Nat) : Int) by rw [List.length_map, List.length_append]; omega)) ?_
    refine ⟨_, rfl, ?_⟩
    intro x dxx nx ndx ne
    have s4 := made_piece (K := K) s1 nx ndx
    refine ⟨x, dxx, p1, ts ++ us, rfl, upd_same, s4 _ _ g1, hs, fun H5 k5 ob => ⟨rfl, ?_⟩⟩
    exact q H5 x (fun b o e => k5 b o (s4 _ _ (s1 _ _ e)) (ne_of_none (s1 _ _ e) nx)) ob
def spCut (K : PySem.W.Frag) : Sp := fun vs H Q _ => ∃ (p : Addr) (ts : List Str) (a b : Int), vs = [.ref p, .int a, .int b] ∧ ObA K "Row" H p ts ∧ Shades ts ∧ (-(10 ^ 30) ≤ a ∧ a ≤ b ∧ b ≤ 10 ^ 30 ∧ b < a + 240) ∧ ∀ H' r, Same H H' → ObA K "Piece" H' r (win ts a (b + 1 - a).toNat) → Q (.ref r) H'
theorem ok_cut (G : Gs K w mg) : Dg P w K mg base 6 "cut" ["row", "first", "last"] (spCut K) := by
  have D1 : Dg P w K mg base 3 "check_spot" ["thing"] spCheckSpot := ok_check_spot G
  have D3 : Dm P w K mg base 1 "Row" "thread" ["self", "spot"] (spThread K) := ok_R_thread G
  obtain ⟨fdI, FI, bI⟩ := pe_piece (P := P) (base := base) G
  refine dg_of G.f_cut sc_cut (fun _ _ _ _ _ _ us hl => match us, hl with | [_, _, _], _ => rfl) (fun vs H Q E h => ?_) (fun cdv A outer s H vs Q E hr h => ?_)
  · obtain ⟨p, ts, a, b, rfl, _⟩ := h
    rfl
  · obtain ⟨p, ts, a, b, rfl, hO, hs, ⟨h1, h2, h3, h4⟩, q⟩ := h
    obtain ⟨tk, hM⟩ := G.most
    refine ⟨_, pss_cons (ps_expr (pe_dg D1 (hr.mono (by decide)) (pa_cons (pv 1) pa_nil)))
      (pss_cons (ps_expr (pe_dg D1 (hr.mono (by decide)) (pa_cons (pv 2) pa_nil)))
      (pss_cons (ps_if (pt_not (pt_chain op_le op_lt (pv 1) (pv 2) (pe_op op_add (pv 1) (pe_glob (v := .int 240) (by rfl) hM ⟨tk, rfl⟩)))) pss_never pss_nil)
      (pss_one (ps_ret (pe_make G.pie.mkr FI hr (by rfl) G.pie.gl bI .nil pass0 (pa_cons (pe_callTy call_tuple_of (by rfl) G.z_tuple (by decide +kernel) (pa_cons
        (pe_lc (own := [("spot", 3)]) (g := gName 3) rfl sc_cut.nd (pi_range2A (by rfl) G.z_range (pa_cons (pv 1) (pa_cons (pe_op op_add (pv 2) pe_int) pa_nil))) (blkOk_by (N := ["row", "first", "last", "spot"]) (sc := defScope s_cut) (by decide +kernel)) (fun _ _ _ _ _ => pg_name (i := 3) sc_cut.nd rfl (Or.inl rfl)) (fun _ _ _ _ _ => pts_nil)
          (fun _ _ _ _ _ => pe_dm (C := "Row") (pv 0) G.row.cl D3 (hr.mono (by decide)) (pa_cons (pv 3) pa_nil))) pa_nil)) pa_nil)))))), ?_⟩
    obtain ⟨dx, t, hp, ht⟩ := id hO
    refine ⟨_, rfl, a, rfl, ⟨h1, by omega⟩, ?_⟩
    refine ⟨_, rfl, b, rfl, ⟨by omega, h3⟩, ?_⟩
    refine ⟨_, rfl, _, rfl, _, _, rfl, rfl, _, rfl, ?_⟩
    refine iteTe (decide_eq_true h2) ⟨_, rfl, _, _, rfl, rfl, _, _, rfl, rfl, _, rfl, ?_⟩
    refine iteFe (b := !decide (b < a + 240)) (by rw [decide_eq_true h4]; rfl) ?_
    have hn : (b + 1 - a).toNat ≤ 240 := by omega
    refine ⟨_, rfl, _, rfl, b, 1, rfl, rfl, a, b + 1, rfl, fun D hD => ?_⟩
    refine lc_map walk_range (fun i : Nat => .str (cy ts (a + (i : Int)))) hD (by omega) (fun _ _ => trivial) yfn_same (fun _ => rfl) (fun i x H4 hi s4 y Q1 k => ?_) (fun H4 s4 e4 => ?_)
    · obtain ⟨_, _, hx4⟩ := y
      replace hx4 : x = V.int (a + (i : Int)) := hx4
      subst hx4
      exact ⟨_, rfl, p, dx, _, rfl, s4 _ _ hp, kept_no t (by decide +kernel), _, rfl, p, ts, a + (i : Int), rfl, hO.same s4, hs.pos, k _ (Same.refl _)⟩
    · refine ⟨D, _, rfl, .inl ⟨SqL.of e4, fun l hl => ?_⟩⟩
      rw [win_strs]
      intro x dxx nx ndx ne
      have s5 := s4.trans (same_upd (o := .tup ((win ts a (b + 1 - a).toNat).map V.str)) hl)
      have s6 := made_piece (K := K) s5 nx ndx
      refine ⟨x, dxx, l, win ts a (b + 1 - a).toNat, rfl, upd_same, s6 _ _ upd_same, ⟨by rw [win_length]; omega, by rw [win_length]; exact hn, fun y hy => hs.sh y (win_mem hs.pos hy)⟩, fun H5 k5 ob => ⟨rfl, ?_⟩⟩
      exact q H5 x (fun c o e => k5 c o (s6 _ _ (s5 _ _ e)) (ne_of_none (s5 _ _ e) nx)) ob
end
end SL
set_option Elab.async false
set_option linter.all false
set_option maxRecDepth 100000
set_option maxHeartbeats 4000000
namespace SL
open PySem PySem.Spec PyProof.Rows L2 He
/-! ### lists of rows -/
structure Rws (K : PySem.W.Frag) (H : Hp) (as : List Addr) (rs : List (List Str)) : Prop where
  len : as.length = rs.length
  at_ : ∀ (i : Nat) (a : Addr) (r : List Str), as[i]? = some a → rs[i]? = some r → ObA K "Row" H a r
theorem Rws.same {K : PySem.W.Frag} {H H' : Hp} {as : List Addr} {rs : List (List Str)} (h : Rws K H as rs) (e : Same H H') : Rws K H' as rs := ⟨h.len, fun i a r h1 h2 => (h.at_ i a r h1 h2).same e⟩
theorem Rws.get {K : PySem.W.Frag} {H : Hp} {as : List Addr} {rs : List (List Str)} (h : Rws K H as rs) {i : Nat} {a : Addr} (e : as[i]? = some a) : ∃ r, rs[i]? = some r ∧ ObA K "Row" H a r := by
  have hi := (List.getElem?_eq_some_iff.mp e).1
  have hi2 : i < rs.length := by rw [← h.len]; exact hi
  exact ⟨rs[i], List.getElem?_eq_getElem hi2, h.at_ i a _ e (List.getElem?_eq_getElem hi2)⟩
theorem Rws.nil {K : PySem.W.Frag} {H : Hp} : Rws K H [] [] := ⟨rfl, fun i a r h _ => by simp at h⟩
theorem Rws.snoc {K : PySem.W.Frag} {H : Hp} {as : List Addr} {rs : List (List Str)} (h : Rws K H as rs) {a : Addr} {r : List Str} (ha : ObA K "Row" H a r) : Rws K H (as ++ [a]) (rs ++ [r]) := by
  refine ⟨by rw [List.length_append, List.length_append, h.len]; rfl, fun i b q h1 h2 => ?_⟩
  by_cases hi : i < as.length
  · rw [List.getElem?_append_left hi] at h1
    rw [List.getElem?_append_left (by rw [← h.len]; exact hi)] at h2
    exact h.at_ i b q h1 h2
  · rw [List.getElem?_append_right (by omega)] at h1
    rw [List.getElem?_append_right (by rw [← h.len]; omega), ← h.len] at h2
    have h0 : i - as.length = 0 := by
      have := (List.getElem?_eq_some_iff.mp h1).1
      simp at this
      omega
    rw [h0] at h1 h2
    have e1 : a = b := Option.some.inj h1
    have e2 : r = q := Option.some.inj h2
    rw [← e1, ← e2]
    exact ha
theorem ObA.mut {K : PySem.W.Frag} {C : Str} {H : Hp} {p l : Addr} {ts : List Str} {xs : List V} {o : HO} (h : ObA K C H p ts) (hl : H l = some (.lst xs)) : ObA K C (upd H l o) p ts := by
  obtain ⟨dx, t, h1, h2⟩ := h
  refine ⟨dx, t, ?_, ?_⟩
  · rw [upd_ne (ne_of h1 hl (by intro z; cases z))]
    exact h1
  · show upd H l o t = _
    rw [upd_ne (ne_of h2 hl (by intro z; cases z))]
    exact h2
theorem Rws.mut {K : PySem.W.Frag} {H : Hp} {as : List Addr} {rs : List (List Str)} {l : Addr} {xs : List V} {o : HO} (h : Rws K H as rs) (hl : H l = some (.lst xs)) : Rws K (upd H l o) as rs := ⟨h.len, fun i a r h1 h2 => (h.at_ i a r h1 h2).mut hl⟩
theorem rowOk_ds {ts : List Str} {mo d : Nat} (hs : Shades ts) (hm : mo ≤ ts.length) (h : d ∈ ds ts mo) : RowOk (ts.take d) := by
  obtain ⟨⟨a, b⟩, _, c⟩ := mem_ds.mp h
  have hl : (ts.take d).length = d := by rw [List.length_take]; omega
  have := hs.le
  exact ⟨⟨by omega, by omega, fun x hx => hs.sh x (List.mem_of_mem_take hx)⟩, by rw [hl]; exact c⟩
section
variable {P : Program} {w : World} {K : PySem.W.Frag} {mg : Str → Option Value} {base : Heap}
/-! ### can_be -/
def spCanBe (K : PySem.W.Frag) : Sp := fun vs H Q _ => ∃ (p : Addr) (ts : List Str) (m : V) (mo : Nat), vs = [.ref p, m] ∧ ObA K "Piece" H p ts ∧ Shades ts ∧ ((m = .non ∧ mo = ts.length) ∨ m = .int (mo : Int)) ∧ (1 ≤ mo ∧ mo ≤ ts.length) ∧
  ∀ H' l as, Same H H' → H' l = some (.lst (as.map V.ref)) → Rws K H' as ((ds ts mo).map fun d => ts.take d) → Q (.ref l) H'
theorem ok_can_be (G : Gs K w mg) : ∃ fd, FnOk P w K mg base CX0 9 (ga K "can_be") fd ["piece", "most"] (spCanBe K) ∧ (∃ ds, Vals [.non] ds ∧ Binds K fd ["piece", "most"] ds) ∧ Binds K fd ["piece", "most"] [] := by
  have D1 : Dg P w K mg base 2 "is_between" ["x", "low", "high"] spIsBetween := ok_is_between G
  have D2 : Dg P w K mg base 8 "row_of_threads" ["threads"] (spRowOf K) := ok_row_of_threads G
  have D3 : Dg P w K mg base 1 "least_round" ["threads"] spLeastRound := ok_least_round G
  have D4 : Dm P w K mg base 1 "Piece" "__len__" ["self"] (spLen K "Piece") := ok_P_len G
  have D5 : Dm P w K mg base 1 "Piece" "threads" ["self"] (spThreads K "Piece") := ok_P_threads G
  obtain ⟨fd, F⟩ := G.f_can_be
  refine ⟨fd, F.ok sc_can_be (fun vs H Q E h => ?_) (fun cdv A outer s H vs Q E hr h => ?_), ?_, ?_⟩
  · obtain ⟨p, ts, m, mo, rfl, _⟩ := h
    rfl
  · obtain ⟨p, ts, m, mo, rfl, hO, hs, hm, ⟨m1, m2⟩, q⟩ := h
    have X : ∃ t0, PSs (cxOf CX0 P w K mg base ["piece", "most", "many", "threads", "found", "size"] "can_be" (defScope s_can_be) (ga K "can_be") cdv A outer s H E).nox (defBody s_can_be) t0 ∧
        t0 { nx := fun _ H' => Q .non H', rt := Q } (start ["piece", "most", "many", "threads", "found", "size"] [.ref p, m]) H := by
      refine ⟨_, pss_cons (ps_set (i := 2) sc_can_be.nd rfl (Or.inl rfl) (pe_callB (call_lenD D4 (hr.mono (by decide))) (by rfl) G.z_len PySem.boot_len (pa_cons (pv 0) pa_nil)))
        (Evl.pss_cut (ps_if (pt_cmp (pc_isN (pv 1))) (pss_one (ps_set (i := 1) sc_can_be.nd rfl (Or.inl rfl) (pv 2))) pss_nil)
        (pss_cons (ps_if (pt_not (pt_val (pe_dg D1 (hr.mono (by decide)) (pa_cons (pv 1) (pa_cons pe_int (pa_cons (pv 2) pa_nil)))))) pss_never pss_nil)
        (pss_cons (ps_set (i := 3) sc_can_be.nd rfl (Or.inl rfl) (pe_dm0 (C := "Piece") (pv 0) G.pie.cl D5 (hr.mono (by decide))))
        (pss_cons (ps_set (i := 4) sc_can_be.nd rfl (Or.inl rfl) (pe_lst pa_nil))
        (pss_cons (ps_for PassesOwn.never rfl (pi_range2 (by rfl) G.z_range (pa_cons pe_int (pa_cons (pe_op op_add (pv 1) pe_int) pa_nil))) (pg_name (i := 5) sc_can_be.nd rfl (Or.inl rfl))
          (pss_one (ps_if (PW.pt (pw_and (pt_cmpR (op_eqTS hr.units) (pe_slice sl_str (pv 3) (po_some (pv 5)) po_none) (pe_slice sl_str (pv 3) po_none (po_some (pe_op op_sub (pv 2) (pv 5)))) (nomark _))
              (pw_and1 (pt_cmpR op_eq (pe_dg D3 (hr.mono (by decide)) (pa_cons (pe_slice sl_str (pv 3) po_none (po_some (pv 5))) pa_nil)) (pv 5) (nomark _)))))
            (pss_one (ps_expr (pe_bm PySem.F.plainAttrs_list PySem.F.slot_list_append PySem.F.type_list_append mt_append (pv 4) (pa_cons (pe_dg D2 hr (pa_cons (pe_slice sl_str (pv 3) po_none (po_some (pv 5))) pa_nil)) pa_nil)))) pss_nil)))
        (pss_one (ps_ret (pv 4)))))))), ?_⟩
      obtain ⟨dx, t0, hp, _⟩ := id hO
      have h1 := hs.pos
      have h2 := hs.le
      refine ⟨_, rfl, p, dx, _, rfl, hp, p, ts, rfl, hO, ts.length, rfl, by omega, ?_⟩
      refine ⟨fun σ' H' => σ' = [some (.ref p), some (.int (mo : Int)), some (.int (ts.length : Nat)), none, none, none] ∧ H' = H, ?_, ?_⟩
      · rcases hm with ⟨rfl, rfl⟩ | rfl
        · refine ⟨_, rfl, _, rfl, iteTe (decide_eq_true rfl) ?_⟩
          exact ⟨_, rfl, rfl, rfl⟩
        · refine ⟨_, rfl, _, rfl, iteFe (decide_eq_false (fun z => by cases z)) ?_⟩
          exact ⟨rfl, rfl⟩
      · rintro σ' H' ⟨rfl, rfl⟩
        refine ⟨_, rfl, _, rfl, (mo : Int), 1, (ts.length : Int), rfl, ⟨by omega, by omega⟩, true, rfl, iteF ?_⟩
        refine ⟨_, rfl, p, dx, _, rfl, hp, kept_no t0 (by decide +kernel), p, ts, rfl, hO, fun t ht => ?_⟩
        refine ⟨Nat.zero_le _, fun l hl => ?_⟩
        have s0 : Same H' (upd H' l (.lst [])) := same_upd hl
        refine ⟨_, rfl, (mo : Int), 1, rfl, rfl, 1, (mo : Int) + 1, rfl, ⟨by omega, by omega, by omega, by omega⟩, ?_⟩
        rw [show ((mo : Int) + 1 - 1).toNat = mo by omega]
        refine for_it walk_range1 (fun i σ H1 => ∃ as y5, σ = [some (.ref p), some (.int (mo : Int)), some (.int (ts.length : Nat)), some (.ref t), some (.ref l), y5] ∧ Same H' H1 ∧ H1 l = some (.lst (as.map V.ref)) ∧ Rws K H1 as ((ds ts i).map fun d => ts.take d))
          ⟨[], none, rfl, s0, upd_same, Rws.nil⟩ (fun _ _ _ _ _ => trivial) (fun i x σ H1 H2 hi p' y => ?_) (fun σ H1 p' => ?_)
        · obtain ⟨as, y5, rfl, s1, e1, hR⟩ := p'
          obtain ⟨rfl, hx⟩ := y
          replace hx : x = V.int ((1 + i : Nat) : Int) := hx
          subst hx
          have hasl : as.length ≤ 240 := by
            have := hR.len
            rw [List.length_map] at this
            have h3 : (ds ts i).length ≤ i := by
              unfold ds
              have := List.length_filter_le (fun d => per ts d && decide (lr (ts.take d) = d)) (List.range' 1 i)
              rw [List.length_range'] at this
              exact this
            omega
          have hsucc := ds_succ ts i
          rw [Nat.add_comm i 1] at hsucc
          refine ⟨_, rfl, _, rfl, _, rfl, t, ts, rfl, s1 _ _ ht, fun p1 H3 s2 g1 => ?_⟩
          rw [cutG_drop] at g1
          have e3 : ((ts.length : Nat) : Int) - ((1 + i : Nat) : Int) = ((ts.length - (1 + i) : Nat) : Int) := by omega
          refine ⟨_, rfl, _, rfl, _, rfl, _, _, rfl, rfl, ?_⟩
          refine ⟨((ts.length : Nat) : Int) - ((1 + i : Nat) : Int), rfl, t, ts, rfl, s2 _ _ (s1 _ _ ht), fun p2 H4 s3 g2 => ?_⟩
          rw [e3, cutG_take] at g2
          have s14 := s1.trans (s2.trans s3)
          have s24 := s2.trans s3
          refine ⟨p1, p2, ts.drop (1 + i), ts.take (ts.length - (1 + i)), rfl, rfl, (show StrT H4 p1 _ from s3 _ _ g1).sq, g2.sq, fun x hx => hs.sh x (List.mem_of_mem_drop hx), fun x hx => hs.sh x (List.mem_of_mem_take hx), _, rfl, ?_⟩
          refine iteB (fun hb => ?_) (fun hb => ?_)
          · refine ⟨_, rfl, _, rfl, _, rfl, t, ts, rfl, s14 _ _ ht, fun p3 H5 s5 g3 => ?_⟩
            rw [cutG_take] at g3
            have hl3 : (ts.take (1 + i)).length = 1 + i := by rw [List.length_take]; omega
            refine ⟨p3, ts.take (1 + i), rfl, g3, ⟨by omega, by omega, fun x hx => hs.sh x (List.mem_of_mem_take hx)⟩, fun H6 s6 => ?_⟩
            have s26 := s24.trans (s5.trans s6)
            refine ⟨_, rfl, rfl, _, rfl, ?_⟩
            have hper : per ts (1 + i) = true := hb
            by_cases hlr : lr (ts.take (1 + i)) = 1 + i
            · refine iteTe (decide_eq_true (by rw [hlr])) ?_
              rw [hper, decide_eq_true hlr, Bool.true_and, if_pos rfl] at hsucc
              refine ⟨_, rfl, .inl ⟨rfl, _, SqL.of (s26 _ _ e1)⟩, _, rfl, _, rfl, _, rfl, t, ts, rfl, (s1.trans s26) _ _ ht, fun p4 H7 s7 g4 => ?_⟩
              rw [cutG_take] at g4
              refine ⟨p4, ts.take (1 + i), rfl, g4, ⟨⟨by omega, by omega, fun x hx => hs.sh x (List.mem_of_mem_take hx)⟩, by rw [hl3]; exact hlr⟩, fun H8 r s8 ob => ?_⟩
              have s28 := s26.trans (s7.trans s8)
              refine ⟨l, _, _, rfl, rfl, s28 _ _ e1, sz_lt (by rw [List.length_map]; omega), ?_⟩
              refine ⟨as ++ [r], _, rfl, Same.mut (s1.trans s28) hl, ?_, ?_⟩
              · rw [upd_same, List.map_append] <;> rfl
              · rw [Nat.add_comm i 1, hsucc, List.map_append]
                exact Rws.mut (Rws.snoc (hR.same s28) ob) (s28 _ _ e1)
            · refine iteFe (decide_eq_false (fun z => hlr (by have := V.int.inj z; omega))) ?_
              rw [decide_eq_false hlr, Bool.and_false, if_neg Bool.false_ne_true, List.append_nil] at hsucc
              refine ⟨as, _, rfl, s1.trans s26, s26 _ _ e1, ?_⟩
              rw [Nat.add_comm i 1, hsucc]
              exact hR.same s26
          · have hper : per ts (1 + i) = false := hb
            rw [hper, Bool.false_and, if_neg Bool.false_ne_true, List.append_nil] at hsucc
            refine iteF ⟨as, _, rfl, s14, s24 _ _ e1, ?_⟩
            rw [Nat.add_comm i 1, hsucc]
            exact hR.same s24
        · obtain ⟨as, y5, rfl, s1, e1, hR⟩ := p'
          exact ⟨_, rfl, q H1 l as s1 e1 hR⟩
    obtain ⟨t0, h0, q0⟩ := X
    exact ⟨t0, h0.nox, q0⟩
  · obtain ⟨ds, h1, h2⟩ := F.binds1 (ps := ["piece", "most"]) 1 0 (by simp) rfl (fun T kV doc pm an cdv ct us its hl hl2 => match us, its, hl, hl2 with | [_], [_], _, _ => ⟨_, rfl, rfl⟩)
    exact ⟨ds, h1, h2⟩
  · obtain ⟨ds, h1, h2⟩ := F.binds1 (ps := ["piece", "most"]) 2 1 (by simp) rfl (fun T kV doc pm an cdv ct us its hl hl2 => match us, its, hl, hl2 with | [_, _], [_], _, _ => ⟨_, rfl, rfl⟩)
    have h1' : Vals [] ds := h1
    cases h1'
    exact h2
end
end SL
set_option Elab.async false
set_option linter.all false
set_option maxRecDepth 100000
set_option maxHeartbeats 4000000
namespace SL
open PySem PySem.Spec PyProof.Rows L2 He
theorem yes_go {A B : Hp → Prop} {σ : L2.St} {H : Hp} (h : A H) : tYes σ H fun b H3 => if b = true then A H3 else B H3 := by
  show if true = true then A H else B H
  rw [if_pos (Eq.refl true)]
  exact h
section
variable {P : Program} {w : World} {K : PySem.W.Frag} {mg : Str → Option Value} {base : Heap}
/-! ### longest_agreement, enough -/
def spLA : Sp := fun vs H Q _ => ∃ (t : Addr) (ts : List Str) (far : Nat), vs = [.ref t, .int (far : Int)] ∧ StrT H t ts ∧ (1 ≤ ts.length ∧ ts.length ≤ 240) ∧ Q (.int ((la ts far : Nat) : Int)) H
theorem ok_longest_agreement (G : Gs K w mg) : Dg P w K mg base 1 "longest_agreement" ["threads", "far"] spLA := by
  refine dg_of G.f_longest_agreement sc_longest_agreement (fun _ _ _ _ _ _ us hl => match us, hl with | [_, _], _ => rfl) (fun vs H Q E h => ?_) (fun cdv A outer s H vs Q E hr h => ?_)
  · obtain ⟨t, ts, far, rfl, _⟩ := h
    rfl
  · obtain ⟨t, ts, far, rfl, ht, ⟨h1, h2⟩, q⟩ := h
    refine ⟨_, pss_cons (ps_set (i := 2) sc_longest_agreement.nd rfl (Or.inl rfl) (pe_callB call_len_seq (by rfl) G.z_len PySem.boot_len (pa_cons (pv 0) pa_nil)))
      (pss_cons (ps_set (i := 3) sc_longest_agreement.nd rfl (Or.inl rfl) pe_int)
      (pss_cons (ps_set (i := 4) sc_longest_agreement.nd rfl (Or.inl rfl) pe_int)
      (pss_cons (ps_for PassesOwn.never rfl (pi_range1 (by rfl) G.z_range (pa_cons (pe_op op_mul pe_int (pv 2)) pa_nil)) (pg_name (i := 5) sc_longest_agreement.nd rfl (Or.inl rfl))
        (pss_one (ps_if (pt_cmpR op_eq (pe_ix ix_tup (pv 0) (pe_op op_mod (pv 5) (pv 2)) (fun _ _ => rfl)) (pe_ix ix_tup (pv 0) (pe_op op_mod (pe_op op_add (pv 5) (pv 1)) (pv 2)) (fun _ _ => rfl)) (nomark _))
          (pss_cons (ps_aug (i := 4) sc_longest_agreement.nd rfl (Or.inl rfl) pe_int ip_add)
            (pss_one (ps_set (i := 3) sc_longest_agreement.nd rfl (Or.inl rfl) (pe_callB (call_max2 rfl) (by rfl) G.z_max (by decide +kernel) (pa_cons (pv 3) (pa_cons (pv 4) pa_nil))))))
          (pss_one (ps_set (i := 4) sc_longest_agreement.nd rfl (Or.inl rfl) pe_int)))))
      (pss_one (ps_ret (pv 3)))))), ?_⟩
    have hlen : (ts.map V.str).length = ts.length := List.length_map _
    refine ⟨_, rfl, t, _, rfl, .inr ht.sq, ?_⟩
    rw [hlen]
    refine ⟨_, rfl, 2, (ts.length : Int), rfl, rfl, .inl ⟨by decide, by decide⟩, _, rfl, by omega, by omega, ?_⟩
    rw [show (2 * (ts.length : Int)).toNat = 2 * ts.length by omega]
    refine for_it walk_range0 (fun i σ H1 => ∃ y5, σ = [some (.ref t), some (.int (far : Int)), some (.int (ts.length : Int)), some (.int ((laAt ts far i).1 : Nat)), some (.int ((laAt ts far i).2 : Nat)), y5] ∧ H1 = H)
      ⟨none, rfl, rfl⟩ (fun _ _ _ _ _ => trivial) (fun i x σ H1 H2 hi p y => ?_) (fun σ H1 p => ?_)
    · obtain ⟨y5, rfl, rfl⟩ := p
      obtain ⟨rfl, hx⟩ := y
      replace hx : x = V.int (i : Int) := hx
      subst hx
      have hpos : (0 : Int) < (ts.length : Int) := by omega
      refine ⟨_, rfl, _, rfl, _, rfl, (i : Int), (ts.length : Int), rfl, rfl, hpos, t, _, _, _, rfl, rfl, ht.sq, atI_cy h1 (i : Int), ?_⟩
      refine ⟨_, rfl, _, rfl, _, rfl, (i : Int), (far : Int), rfl, rfl, _, rfl, (i : Int) + (far : Int), (ts.length : Int), rfl, rfl, hpos, t, _, _, _, rfl, rfl, ht.sq, atI_cy h1 ((i : Int) + (far : Int)), ?_⟩
      refine ⟨rfl, _, rfl, ?_⟩
      have hst := laAt_succ ts far i
      unfold laStep at hst
      by_cases e : cy ts (i : Int) = cy ts ((i : Int) + (far : Int))
      · rw [if_pos e] at hst
        refine iteTe (decide_eq_true (by rw [e])) ?_
        refine ⟨_, rfl, _, _, rfl, rfl, ?_⟩
        refine ⟨_, rfl, _, rfl, _, _, rfl, some (.int (i : Int)), ?_, rfl⟩
        rw [hst]
        show [_, _, _, some (V.int _), some (V.int _), _] = [_, _, _, some (V.int _), some (V.int _), _]
        have e1 : (if ((laAt ts far i).2 : Int) + 1 > ((laAt ts far i).1 : Int) then ((laAt ts far i).2 : Int) + 1 else ((laAt ts far i).1 : Int)) = ((max (laAt ts far i).1 ((laAt ts far i).2 + 1) : Nat) : Int) := by
          split <;> omega
        rw [e1]
        rfl
      · rw [if_neg e] at hst
        refine iteFe (decide_eq_false (fun z => e (V.str.inj z))) ?_
        refine ⟨some (.int (i : Int)), ?_, rfl⟩
        rw [hst]
        rfl
    · obtain ⟨y5, rfl, rfl⟩ := p
      exact ⟨_, rfl, q⟩
def spEnough (K : PySem.W.Frag) : Sp := fun vs H Q _ => ∃ (p : Addr) (ts : List Str) (mo : Nat), vs = [.ref p, .int (mo : Int)] ∧ ObA K "Row" H p ts ∧ RowOk ts ∧ (ts.length ≤ mo ∧ mo ≤ 240) ∧ Q (.int ((en ts mo : Nat) : Int)) H
theorem ok_enough (G : Gs K w mg) : Dg P w K mg base 3 "enough" ["row", "most"] (spEnough K) := by
  have D1 : Dg P w K mg base 2 "is_between" ["x", "low", "high"] spIsBetween := ok_is_between G
  have D2 : Dg P w K mg base 1 "longest_agreement" ["threads", "far"] spLA := ok_longest_agreement G
  have D4 : Dm P w K mg base 1 "Row" "__len__" ["self"] (spLen K "Row") := ok_R_len G
  have D5 : Dm P w K mg base 1 "Row" "threads" ["self"] (spThreads K "Row") := ok_R_threads G
  refine dg_of G.f_enough sc_enough (fun _ _ _ _ _ _ us hl => match us, hl with | [_, _], _ => rfl) (fun vs H Q E h => ?_) (fun cdv A outer s H vs Q E hr h => ?_)
  · obtain ⟨p, ts, mo, rfl, _⟩ := h
    rfl
  · obtain ⟨p, ts, mo, rfl, hO, hk, ⟨m1, m2⟩, q⟩ := h
    obtain ⟨tk, hM⟩ := G.most
    refine ⟨_, pss_cons (ps_if (pt_not (pt_val (pe_dg D1 hr (pa_cons (pv 1) (pa_cons (pe_callB (call_lenD D4 (hr.mono (by decide))) (by rfl) G.z_len PySem.boot_len (pa_cons (pv 0) pa_nil)) (pa_cons (pe_glob (v := .int 240) (by rfl) hM ⟨tk, rfl⟩) pa_nil)))))) pss_never pss_nil)
      (pss_cons (ps_set (i := 2) sc_enough.nd rfl (Or.inl rfl) (pe_dm0 (C := "Row") (pv 0) G.row.cl D5 (hr.mono (by decide))))
      (pss_cons (ps_set (i := 3) sc_enough.nd rfl (Or.inl rfl) (pv 1))
      (pss_cons (ps_for PassesOwn.never rfl (pi_range2 (by rfl) G.z_range (pa_cons pe_int (pa_cons (pe_op op_add (pv 1) pe_int) pa_nil))) (pg_name (i := 4) sc_enough.nd rfl (Or.inl rfl))
        (pss_one (ps_if (pt_cmpR op_ne (pe_op op_mod (pv 4) (pe_callB call_len_seq (by rfl) G.z_len PySem.boot_len (pa_cons (pv 2) pa_nil))) pe_int (nomark _))
          (pss_one (ps_set (i := 3) sc_enough.nd rfl (Or.inl rfl) (pe_callB (call_max2 rfl) (by rfl) G.z_max (by decide +kernel) (pa_cons (pv 3) (pa_cons (pe_op op_add (pe_op op_add (pv 4) (pe_dg D2 (hr.mono (by decide)) (pa_cons (pv 2) (pa_cons (pv 4) pa_nil)))) pe_int) pa_nil)))))
          pss_nil)))
      (pss_one (ps_ret (pv 3)))))), ?_⟩
    obtain ⟨dx, t0, hp, ht0⟩ := id hO
    have h1 := hk.pos
    have h2 := hk.le
    refine ⟨_, rfl, _, rfl, p, dx, _, rfl, hp, p, ts, rfl, hO, ts.length, rfl, by omega, ?_⟩
    refine ⟨(mo : Int), (ts.length : Int), 240, rfl, ⟨by omega, by omega⟩, true, rfl, iteF ?_⟩
    refine ⟨_, rfl, p, dx, _, rfl, hp, kept_no t0 (by decide +kernel), p, ts, rfl, hO, fun t ht => ?_⟩
    refine ⟨_, rfl, _, rfl, (mo : Int), 1, rfl, rfl, 1, (mo : Int) + 1, rfl, ⟨by omega, by omega, by omega, by omega⟩, ?_⟩
    rw [show ((mo : Int) + 1 - 1).toNat = mo by omega]
    refine for_it walk_range1 (fun i σ H1 => ∃ y4, σ = [some (.ref p), some (.int (mo : Int)), some (.ref t), some (.int ((enAt ts mo i : Nat) : Int)), y4] ∧ H1 = H)
      ⟨none, rfl, rfl⟩ (fun _ _ _ _ _ => trivial) (fun i x σ H1 H2 hi p' y => ?_) (fun σ H1 p' => ?_)
    · obtain ⟨y4, rfl, rfl⟩ := p'
      obtain ⟨rfl, hx⟩ := y
      replace hx : x = V.int ((1 + i : Nat) : Int) := hx
      subst hx
      have hlen : (ts.map V.str).length = ts.length := List.length_map _
      have hst := enAt_succ ts mo i
      unfold enStep at hst
      rw [Nat.add_comm i 1] at hst
      have e2 : ((1 + i : Nat) : Int) % (ts.length : Int) = (((1 + i) % ts.length : Nat) : Int) := (Int.natCast_emod _ _).symm
      refine ⟨_, rfl, _, rfl, t, _, rfl, .inr ht.sq, ((1 + i : Nat) : Int), _, rfl, rfl, (by rw [hlen]; omega), ?_⟩
      rw [hlen]
      refine ⟨rfl, _, rfl, ?_⟩
      by_cases e : (1 + i) % ts.length = 0
      · rw [if_pos e] at hst
        refine iteFe (b := !decide (V.int (((1 + i : Nat) : Int) % (ts.length : Int)) = V.int 0)) (by rw [e2, e]; rfl) ?_
        refine ⟨some (.int ((1 + i : Nat) : Int)), ?_, rfl⟩
        rw [Nat.add_comm i 1, hst]
        rfl
      · rw [if_neg e] at hst
        refine iteTe (b := !decide (V.int (((1 + i : Nat) : Int) % (ts.length : Int)) = V.int 0)) (by rw [decide_eq_false (fun z => e (by have h9 := V.int.inj z; rw [e2] at h9; omega))]; rfl) ?_
        refine ⟨_, rfl, _, rfl, _, rfl, _, rfl, t, ts, 1 + i, rfl, ht, ⟨h1, h2⟩, _, _, rfl, rfl, _, _, rfl, rfl, _, _, rfl, some (.int ((1 + i : Nat) : Int)), ?_, rfl⟩
        rw [Nat.add_comm i 1, hst]
        have e1 : (if ((1 + i : Nat) : Int) + ((la ts (1 + i) : Nat) : Int) + 1 > ((enAt ts mo i : Nat) : Int) then ((1 + i : Nat) : Int) + ((la ts (1 + i) : Nat) : Int) + 1 else ((enAt ts mo i : Nat) : Int)) = ((max (enAt ts mo i) (1 + i + la ts (1 + i) + 1) : Nat) : Int) := by
          split <;> omega
        rw [e1]
        rfl
    · obtain ⟨y4, rfl, rfl⟩ := p'
      exact ⟨_, rfl, q⟩
/-! ### is_there, fits -/
def there (ts us : List Str) (n : Int) : Bool := (List.range us.length).all fun i : Nat => decide (cy ts (n + (i : Int)) = at_ us i)
def spThere (K : PySem.W.Frag) : Sp := fun vs H Q _ => ∃ (p p' : Addr) (ts us : List Str) (n : Int), vs = [.ref p, .ref p', .int n] ∧ ObA K "Row" H p ts ∧ ObA K "Piece" H p' us ∧ 1 ≤ ts.length ∧ us.length ≤ 240 ∧ ∀ H', Same H H' → Q (.bl (there ts us n)) H'
theorem ok_is_there (G : Gs K w mg) : Dg P w K mg base 2 "is_there" ["row", "piece", "spot"] (spThere K) := by
  have D3 : Dm P w K mg base 1 "Row" "thread" ["self", "spot"] (spThread K) := ok_R_thread G
  have D5 : Dm P w K mg base 1 "Piece" "threads" ["self"] (spThreads K "Piece") := ok_P_threads G
  refine dg_of G.f_is_there sc_is_there (fun _ _ _ _ _ _ us hl => match us, hl with | [_, _, _], _ => rfl) (fun vs H Q E h => ?_) (fun cdv A outer s H vs Q E hr h => ?_)
  · obtain ⟨p, p', ts, us, n, rfl, _⟩ := h
    rfl
  · obtain ⟨p, p', ts, us, n, rfl, hO, hU, h1, h2, q⟩ := h
    refine ⟨_, pss_one (ps_ret (pe_callB (cr_all rfl) (by rfl) G.z_all (by decide +kernel) (pa_cons
        (pe_lc (own := [("number", 3), ("shade", 4)]) (g := gTup K 2 (gCons (gName 3) (gCons (gName 4) gNil))) rfl sc_is_there.nd (pi_enumT (by rfl) G.z_enumerate (pa_cons (pe_dm0 (C := "Piece") (pv 1) G.pie.cl D5 hr) pa_nil)) (blkOk_by (N := ["row", "piece", "spot", "number", "shade"]) (sc := defScope s_is_there) (by decide +kernel))
          (fun _ _ _ _ _ => pg_tup rfl (pgs_cons (pg_name (i := 3) sc_is_there.nd rfl (Or.inl rfl)) (pgs_cons (pg_name (i := 4) sc_is_there.nd rfl (Or.inl rfl)) pgs_nil))) (fun _ _ _ _ _ => pts_nil)
          (fun _ _ _ _ _ => pe_cmpR op_eq (pe_dm (C := "Row") (pv 0) G.row.cl D3 hr (pa_cons (pe_op op_add (pv 2) (pv 3)) pa_nil)) (pv 4) (nomark _))) pa_nil))), ?_⟩
    obtain ⟨dx, t, hp, ht⟩ := id hO
    obtain ⟨dx', t', hp', ht'⟩ := id hU
    refine ⟨_, rfl, p', dx', _, rfl, hp', kept_no t' (by decide +kernel), p', us, rfl, hU, fun u hu => ?_⟩
    have hlen : (us.map V.str).length = us.length := List.length_map _
    refine ⟨u, _, rfl, hu.sq, fun D hD => ?_⟩
    refine lc_it (walk_enumT (xs := us.map V.str)) (fun i H1 => Same H H1 ∧ H1 D = some (.lst ((List.range i).map fun i : Nat => V.bl (decide (cy ts (n + (i : Int)) = at_ us i))))) ⟨same_upd hD, upd_same⟩ (fun i H1 _ p1 => SqT.of (p1.1 _ _ hu)) (fun i x H1 H2 hi p1 y => ?_) (fun H1 p1 => ?_)
    · obtain ⟨s1, e1⟩ := p1
      obtain ⟨T, x1, x2, rfl, nT, rfl, f1, f2⟩ := y
      have ex1 : x1 = .int (i : Nat) := (Option.some.inj f1).symm
      subst ex1
      obtain ⟨z, hz, rfl⟩ := map_at f2
      have s3 : Same H1 (upd H1 T (.tup [.int (i : Nat), .str z])) := same_upd nT
      have s4 := s1.trans s3
      refine ⟨T, _, rfl, SqT.of upd_same, rfl, _, _, rfl, _, _, rfl, rfl, rfl, ?_⟩
      refine yes_go ?_
      refine ⟨_, rfl, p, dx, _, rfl, s4 _ _ hp, kept_no t (by decide +kernel), _, rfl, _, rfl, n, (i : Int), rfl, rfl, p, ts, n + (i : Int), rfl, hO.same s4, h1, ?_⟩
      refine ⟨_, rfl, rfl, _, s3 _ _ e1, ?_, ?_⟩
      · rw [List.length_map, List.length_range]
        exact sz_lt (by omega)
      · refine ⟨Same.mut s4 hD, ?_⟩
        have ez : at_ us i = z := at_of hz
        have e9 : decide (V.str (cy ts (n + (i : Int))) = V.str z) = decide (cy ts (n + (i : Int)) = at_ us i) := by
          rw [ez]
          exact decide_eq_decide.mpr ⟨V.str.inj, fun e => by rw [e]⟩
        rw [upd_same, List.range_succ, List.map_append]
        show some (HO.lst (_ ++ [V.bl _])) = some (HO.lst (_ ++ [V.bl _]))
        rw [e9]
    · refine ⟨D, _, rfl, seq_bls p1.2, ?_⟩
      rw [all_bls, hlen]
      exact q _ p1.1
def spFits (K : PySem.W.Frag) : Sp := fun vs H Q _ => ∃ (p p' : Addr) (ts us : List Str), vs = [.ref p, .ref p'] ∧ ObA K "Row" H p ts ∧ ObA K "Piece" H p' us ∧ (1 ≤ ts.length ∧ ts.length ≤ 240) ∧ us.length ≤ 240 ∧
  ∀ H' t, Same H H' → H' t = some (.tup (((List.range ts.length).filter fun i : Nat => there ts us (i : Int)).map fun i : Nat => V.int (i : Int))) → Q (.ref t) H'
theorem ok_fits (G : Gs K w mg) : Dg P w K mg base 3 "fits" ["row", "piece"] (spFits K) := by
  have D1 : Dg P w K mg base 2 "is_there" ["row", "piece", "spot"] (spThere K) := ok_is_there G
  have D4 : Dm P w K mg base 1 "Row" "__len__" ["self"] (spLen K "Row") := ok_R_len G
  refine dg_of G.f_fits sc_fits (fun _ _ _ _ _ _ us hl => match us, hl with | [_, _], _ => rfl) (fun vs H Q E h => ?_) (fun cdv A outer s H vs Q E hr h => ?_)
  · obtain ⟨p, p', ts, us, rfl, _⟩ := h
    rfl
  · obtain ⟨p, p', ts, us, rfl, hO, hU, ⟨h1, h2⟩, h3, q⟩ := h
    refine ⟨_, pss_one (ps_ret (pe_callTy call_tuple_of (by rfl) G.z_tuple (by decide +kernel) (pa_cons
        (pe_lc (own := [("spot", 2)]) (g := gName 2) rfl sc_fits.nd (pi_range1 (by rfl) G.z_range (pa_cons (pe_callB (call_lenD D4 (hr.mono (by decide))) (by rfl) G.z_len PySem.boot_len (pa_cons (pv 0) pa_nil)) pa_nil)) (blkOk_by (N := ["row", "piece", "spot"]) (sc := defScope s_fits) (by decide +kernel))
          (fun _ _ _ _ _ => pg_name (i := 2) sc_fits.nd rfl (Or.inl rfl)) (fun _ _ _ _ _ => pts_one (pt_val (pe_dg D1 hr (pa_cons (pv 0) (pa_cons (pv 1) (pa_cons (pv 2) pa_nil))))))
          (fun _ _ _ _ _ => pv 2)) pa_nil))), ?_⟩
    obtain ⟨dx, t, hp, ht⟩ := id hO
    refine ⟨_, rfl, p, dx, _, rfl, hp, p, ts, rfl, hO, ts.length, rfl, by omega, ?_⟩
    refine ⟨_, rfl, by omega, by omega, fun D hD => ?_⟩
    rw [show (((ts.length : Nat) : Int)).toNat = ts.length from Int.toNat_natCast _]
    refine lc_flt walk_range0 (fun i : Nat => there ts us (i : Int)) (fun i : Nat => .int (i : Int)) hD (by omega) (fun _ _ => trivial) yn_same (fun _ => rfl) (fun i x H1 hi s1 y Q1 k => ?_) (fun i x H1 hi hf s1 y Q1 k => ?_) (fun H1 s1 e1 => ?_)
    · obtain ⟨_, hx⟩ := y
      replace hx : x = V.int (i : Int) := hx
      subst hx
      refine ⟨_, rfl, _, rfl, _, rfl, p, p', ts, us, (i : Int), rfl, hO.same s1, hU.same s1, h1, h3, fun H2 s2 => ?_⟩
      exact ⟨_, rfl, k _ s2⟩
    · obtain ⟨_, _, hx⟩ := y
      replace hx : x = V.int (i : Int) := hx
      subst hx
      exact ⟨_, rfl, k _ (Same.refl _)⟩
    · refine ⟨D, _, rfl, .inl ⟨SqL.of e1, fun l hl => ?_⟩⟩
      exact q _ l (s1.trans (same_upd hl)) upd_same
end
end SL
set_option Elab.async false
set_option linter.all false
set_option maxRecDepth 100000
set_option maxHeartbeats 4000000
namespace SL
open PySem PySem.Spec PyProof.Rows L2 He
/-! ### the pool the law draws from -/
def PoolAt (H : Hp) (pl : Addr) : Prop := ∃ a b : Int, H pl = some (.lst [.int a, .int b]) ∧ 0 ≤ a ∧ 0 ≤ b
structure Kp (pl : Addr) (H H' : Hp) : Prop where
  keep : ∀ b o, b ≠ pl → H b = some o → H' b = some o
  p0 : PoolAt H pl
  p1 : PoolAt H' pl
theorem PoolAt.same {H H' : Hp} {pl : Addr} (h : PoolAt H pl) (s : Same H H') : PoolAt H' pl := by
  obtain ⟨a, b, e, h1, h2⟩ := h
  exact ⟨a, b, s _ _ e, h1, h2⟩
theorem PoolAt.tup {H : Hp} {pl t : Addr} {xs : List V} (h : PoolAt H pl) (e : H t = some (.tup xs)) : t ≠ pl := by
  obtain ⟨a, b, e2, _⟩ := h
  exact ne_of e e2 (by intro z; cases z)
theorem PoolAt.ins {H : Hp} {pl t dx : Addr} {C : Addr} {xs : List (Str × V)} (h : PoolAt H pl) (e : H t = some (.ins C dx xs)) : t ≠ pl := by
  obtain ⟨a, b, e2, _⟩ := h
  exact ne_of e e2 (by intro z; cases z)
theorem PoolAt.new {H : Hp} {pl t : Addr} (h : PoolAt H pl) (e : H t = none) : t ≠ pl := by
  obtain ⟨a, b, e2, _⟩ := h
  exact (ne_of_none e2 e).symm
theorem Kp.refl {H : Hp} {pl : Addr} (h : PoolAt H pl) : Kp pl H H := ⟨fun _ _ _ e => e, h, h⟩
theorem Kp.of {H H' : Hp} {pl : Addr} (h : PoolAt H pl) (s : Same H H') : Kp pl H H' := ⟨fun b o _ e => s _ _ e, h, h.same s⟩
theorem Kp.trans {H H1 H2 : Hp} {pl : Addr} (a : Kp pl H H1) (b : Kp pl H1 H2) : Kp pl H H2 := ⟨fun x o n e => b.keep x o n (a.keep x o n e), a.p0, b.p1⟩
theorem Kp.same {H H1 H2 : Hp} {pl : Addr} (a : Kp pl H H1) (b : Same H1 H2) : Kp pl H H2 := a.trans (.of a.p1 b)
theorem Kp.tup {H H' : Hp} {pl t : Addr} {xs : List V} (k : Kp pl H H') (e : H t = some (.tup xs)) : H' t = some (.tup xs) := k.keep _ _ (k.p0.tup e) e
theorem Kp.str {H H' : Hp} {pl t : Addr} {xs : List Str} (k : Kp pl H H') (e : StrT H t xs) : StrT H' t xs := k.tup e
theorem Kp.ob {K : PySem.W.Frag} {C : Str} {H H' : Hp} {pl p : Addr} {ts : List Str} (k : Kp pl H H') (h : ObA K C H p ts) : ObA K C H' p ts := by
  obtain ⟨dx, t, h1, h2⟩ := h
  exact ⟨dx, t, k.keep _ _ (k.p0.ins h1) h1, k.tup h2⟩
/-- a new object changes -/
theorem Kp.mut {H H' : Hp} {pl p : Addr} {o : HO} (k : Kp pl H H') (h : H p = none) : Kp pl H (upd H' p o) := by
  have n := k.p0.new h
  refine ⟨fun b x hb e => ?_, k.p0, ?_⟩
  · rw [upd_ne (ne_of_none e h)]
    exact k.keep _ _ hb e
  · obtain ⟨a, b, e, h1, h2⟩ := k.p1
    exact ⟨a, b, by rw [upd_ne n.symm]; exact e, h1, h2⟩
/-- an object of the heap between changes, which the first does not know -/
theorem poolAt_mk {H : Hp} {p : Addr} {a b : Int} (ha : 0 ≤ a) (hb : 0 ≤ b) : PoolAt (upd H p (.lst [.int a, .int b])) p := ⟨a, b, upd_same, ha, hb⟩
section
variable {P : Program} {w : World} {K : PySem.W.Frag} {mg : Str → Option Value} {base : Heap}
/-! ### take -/
def spTake : Sp := fun vs H Q _ => ∃ (pl : Addr) (m : Nat), vs = [.ref pl, .int (m : Int)] ∧ PoolAt H pl ∧ (1 ≤ m ∧ m < 1073741824) ∧ ∀ H' (d : Nat), d < m → Kp pl H H' → Q (.int (d : Int)) H'
theorem ok_take (G : Gs K w mg) : Dg P w K mg base 1 "_law_take" ["_law_pool_here", "_law_many"] spTake := by
  refine dg_of G.f_l_take sc_l_take (fun _ _ _ _ _ _ us hl => match us, hl with | [_, _], _ => rfl) (fun vs H Q E h => ?_) (fun cdv A outer s H vs Q E hr h => ?_)
  · obtain ⟨pl, m, rfl, _⟩ := h
    rfl
  · obtain ⟨pl, m, rfl, hP, ⟨m1, m2⟩, q⟩ := h
    refine ⟨_, pss_cons (ps_if (pt_cmpR op_gt (pe_ix ix_list (pv 0) pe_int (fun _ _ => rfl)) pe_int (nomark _))
        (pss_cons (ps_asg (pe_callB call_divmodW (by rfl) G.z_divmod (by decide +kernel) (pa_cons (pe_ix ix_list (pv 0) pe_int (fun _ _ => rfl)) (pa_cons (pv 1) pa_nil)))
            (pg_tup rfl (pgs_cons (pg_sub (pv 0) pe_int set_list) (pgs_cons (pg_name (i := 2) sc_l_take.nd rfl (Or.inl rfl)) pgs_nil))))
          (pss_one (ps_ret (pv 2)))) pss_nil)
      (pss_cons (ps_asg (pe_op op_mod (pe_op op_add (pe_op op_mul (pe_ix ix_list (pv 0) pe_int (fun _ _ => rfl)) pe_int) pe_int) pe_int) (pg_sub (pv 0) pe_int set_list))
      (pss_one (ps_ret (pe_op op_mod (pe_op op_fdiv (pe_ix ix_list (pv 0) pe_int (fun _ _ => rfl)) pe_int) (pv 1))))), ?_⟩
    obtain ⟨a, b, e, ha, hb⟩ := id hP
    refine ⟨_, rfl, pl, _, 0, .int a, rfl, rfl, SqL.of e, rfl, _, _, rfl, rfl, _, rfl, ?_⟩
    refine iteB (fun h0 => ?_) (fun h0 => ?_)
    · refine ⟨_, rfl, pl, _, 0, .int a, rfl, rfl, SqL.of e, rfl, _, rfl, a, (m : Int), rfl, ⟨by omega, PyProof.noPylong_small (by omega)⟩, fun T hT => ?_⟩
      have nT : pl ≠ T := ne_of_none e hT
      have e1 : (upd H T (.tup [.int (a / (m : Int)), .int (a % (m : Int))])) pl = some (.lst [.int a, .int b]) := by
        rw [upd_ne nT]
        exact e
      have hd : a % (m : Int) = ((a % (m : Int)).toNat : Int) := (Int.toNat_of_nonneg (Int.emod_nonneg _ (by omega))).symm
      have hlt : a % (m : Int) < m := Int.emod_lt_of_pos _ (by omega)
      refine ⟨T, _, rfl, SqT.of upd_same, rfl, _, _, rfl, ⟨_, rfl, pl, _, 0, 0, rfl, rfl, e1, rfl, _, _, rfl, rfl, _, rfl, ?_⟩⟩
      show Q (.int (a % (m : Int))) _
      rw [hd]
      refine q _ _ (by omega) ⟨fun c o n e2 => ?_, hP, ?_⟩
      · rw [upd_ne n, upd_ne (ne_of_none e2 hT)]
        exact e2
      · exact poolAt_mk (Int.ediv_nonneg ha (by omega)) hb
    · refine ⟨_, rfl, pl, _, 1, .int b, rfl, rfl, SqL.of e, rfl, _, _, rfl, rfl, .inr ⟨by decide, by decide⟩, _, _, rfl, rfl, _, _, rfl, rfl, (show (0 : Int) < 999999999989 by decide), ?_⟩
      refine ⟨_, rfl, pl, _, 1, 1, rfl, rfl, e, rfl, ?_⟩
      have hn : 0 ≤ (b * 69621 + 40503) % 999999999989 := Int.emod_nonneg _ (by decide)
      have e2 : (upd H pl (.lst (([.int a, .int b] : List V).set 1 (.int ((b * 69621 + 40503) % 999999999989))))) pl = some (.lst [.int a, .int ((b * 69621 + 40503) % 999999999989)]) := upd_same
      refine ⟨_, rfl, pl, _, 1, _, rfl, rfl, SqL.of e2, rfl, _, _, rfl, rfl, ⟨by decide, by decide⟩, _, rfl, _, _, rfl, rfl, (show (0 : Int) < (m : Int) by omega), ?_⟩
      have hd : (b * 69621 + 40503) % 999999999989 / 4099 % (m : Int) = (((b * 69621 + 40503) % 999999999989 / 4099 % (m : Int)).toNat : Int) := (Int.toNat_of_nonneg (Int.emod_nonneg _ (by omega))).symm
      have hlt : (b * 69621 + 40503) % 999999999989 / 4099 % (m : Int) < m := Int.emod_lt_of_pos _ (by omega)
      show Q (.int ((b * 69621 + 40503) % 999999999989 / 4099 % (m : Int))) _
      rw [hd]
      refine q _ _ (by omega) ⟨fun c o n e3 => ?_, hP, poolAt_mk ha hn⟩
      rw [upd_ne n]
      exact e3
/-! ### pool -/
def spPool (K : PySem.W.Frag) : Sp := fun vs H Q _ => ∃ (a : Addr) (ns : List Int) (k : Nat), vs = [.ref a, .int (k : Int)] ∧ SqL K H a (ns.map V.int) ∧ k ≤ 100 ∧ ∀ H' p, Same H H' → H p = none → PoolAt H' p → Q (.ref p) H'
theorem ok_pool (G : Gs K w mg) : Dg P w K mg base 1 "_law_pool" ["_law_script", "_law_k"] (spPool K) := by
  refine dg_of G.f_l_pool sc_l_pool (fun _ _ _ _ _ _ us hl => match us, hl with | [_, _], _ => rfl) (fun vs H Q E h => ?_) (fun cdv A outer s H vs Q E hr h => ?_)
  · obtain ⟨a, ns, k, rfl, _⟩ := h
    rfl
  · obtain ⟨a, ns, k, rfl, hS, hk, q⟩ := h
    refine ⟨_, pss_cons (ps_set (i := 2) sc_l_pool.nd rfl (Or.inl rfl) (pe_callB (cr_sum rfl) (by rfl) G.z_sum (by decide +kernel) (pa_cons (pe_slice sl_list (pv 0) (po_some (pv 1)) (po_some (pe_op op_add (pv 1) pe_int))) pa_nil)))
      (pss_cons (ps_set (i := 3) sc_l_pool.nd rfl (Or.inl rfl) (pe_op op_add (pe_op op_add (pe_op op_mul (pv 2) pe_int) (pe_op op_mul (pe_op op_mul pe_int (pv 1)) (pv 1))) pe_int))
      (pss_cons (ps_if (PW.pt (pw_or (pt_cmpR op_lt (pv 2) pe_int (nomark _)) (pw_or1 (pt_cmpR op_ge (pv 2) (pe_op op_pow pe_int pe_int) (nomark _)))))
          (pss_cons (ps_set (i := 4) sc_l_pool.nd rfl (Or.inl rfl) (pe_op op_mulW (pe_op op_mulW (pe_op op_pow pe_int pe_int) (pe_op op_pow pe_int pe_int)) (pe_op op_pow pe_int pe_int)))
            (pss_one (ps_ret (pe_lst (pa_cons (pe_op op_mod (pe_callB call_abs (by rfl) G.z_abs (by decide +kernel) (pa_cons (pv 2) pa_nil)) (pe_op op_mulW (pv 4) (pv 4))) (pa_cons (pe_op op_mod (pv 3) pe_int) pa_nil)))))) pss_nil)
      (pss_cons (ps_set (i := 5) sc_l_pool.nd rfl (Or.inl rfl) pe_int)
      (pss_cons (ps_for PassesOwn.never rfl (pi_range1 (by rfl) G.z_range (pa_cons pe_int pa_nil)) (pg_name (i := 6) sc_l_pool.nd rfl (Or.inl rfl))
        (pss_cons (ps_set (i := 3) sc_l_pool.nd rfl (Or.inl rfl) (pe_op op_mod (pe_op op_add (pe_op op_add (pe_op op_mul (pe_op op_mod (pv 3) pe_int) pe_int) (pe_op op_mul pe_int (pv 6))) pe_int) pe_int))
          (pss_one (ps_set (i := 5) sc_l_pool.nd rfl (Or.inl rfl) (pe_op op_add (pe_op op_mul (pv 5) (pe_op op_pow pe_int pe_int)) (pe_op op_mod (pe_op op_mul (pv 3) (pe_op op_add (pe_op op_mod (pv 3) pe_int) pe_int)) pe_int))))))
      (pss_one (ps_ret (pe_lst (pa_cons (pv 5) (pa_cons (pv 3) pa_nil))))))))), ?_⟩
    refine ⟨_, rfl, _, rfl, _, rfl, _, rfl, (k : Int), 1, rfl, rfl, (k : Int) + 1, rfl, a, _, rfl, hS, fun l hl => ?_⟩
    refine ⟨l, cutG ns (some (k : Int)) (some ((k : Int) + 1)), rfl, SqL.of ?_, ?_⟩
    · rw [upd_same, cutV_map]
    have s1 : Same H (upd H l (.lst (cutV (ns.map V.int) (some (k : Int)) (some ((k : Int) + 1))))) := same_upd hl
    generalize upd H l (.lst (cutV (ns.map V.int) (some (k : Int)) (some ((k : Int) + 1)))) = H1 at s1 ⊢
    generalize (cutG ns (some (k : Int)) (some ((k : Int) + 1))).sum = c
    refine ⟨_, rfl, c, 48271, rfl, rfl, .inr ⟨by decide, by decide⟩, _, rfl, 977, (k : Int), rfl, rfl, .inl ⟨by decide, by decide⟩, _, rfl, _, (k : Int), rfl, rfl, .inr ⟨by omega, by omega⟩, _, _, rfl, rfl, _, _, rfl, rfl, ?_⟩
    have fin1 : ∀ z : Int, ∀ l2, H1 l2 = none → 0 ≤ z → Q (.ref l2) (upd H1 l2 (.lst [.int z, .int ((c * 48271 + 977 * (k : Int) * (k : Int) + 13) % 999999999989)])) := fun z l2 h2 hz => q _ _ (s1.trans (same_upd h2)) (by
      cases e : H l2 with
      | none => rfl
      | some o => exact absurd ((s1 _ _ e).symm.trans h2) (by intro z; cases z)) (poolAt_mk hz (Int.emod_nonneg _ (by decide)))
    have big1 : CMulW (10 ^ 64) (10 ^ 64) := by
      unfold CMulW
      decide +kernel
    have big2 : CMulW (10 ^ 64 * 10 ^ 64) (10 ^ 64) := by
      unfold CMulW
      decide +kernel
    have big3 : CMulW (10 ^ 64 * 10 ^ 64 * 10 ^ 64) (10 ^ 64 * 10 ^ 64 * 10 ^ 64) := by
      unfold CMulW
      decide +kernel
    have p64 : CPow 10 64 := ⟨by decide, by decide, by decide⟩
    have wp : (0 : Int) < 10 ^ 64 * 10 ^ 64 * 10 ^ 64 * (10 ^ 64 * 10 ^ 64 * 10 ^ 64) := by decide +kernel
    refine ⟨_, rfl, _, _, rfl, rfl, _, rfl, iteB (fun hb => ?_) (fun hb => ?_)⟩
    · refine iteT ?_
      refine ⟨10, 64, rfl, rfl, p64, 10, 64, rfl, rfl, p64, 10 ^ 64, 10 ^ 64, rfl, rfl, big1, 10, 64, rfl, rfl, p64, 10 ^ 64 * 10 ^ 64, 10 ^ 64, rfl, rfl, big2, ?_⟩
      refine ⟨_, rfl, c, rfl, _, rfl, _, rfl, 10 ^ 64 * 10 ^ 64 * 10 ^ 64, 10 ^ 64 * 10 ^ 64 * 10 ^ 64, rfl, rfl, big3, _, _, rfl, rfl, wp, ?_⟩
      refine ⟨_, rfl, (c * 48271 + 977 * (k : Int) * (k : Int) + 13), 999999999989, rfl, rfl, (show (0 : Int) < 999999999989 by decide), (show 2 ≤ sizeLine by decide), fun l2 h2 => ?_⟩
      exact fin1 _ l2 h2 (Int.emod_nonneg _ (by omega))
    · refine ⟨_, rfl, 10, 18, rfl, rfl, ⟨by decide, by decide, by decide⟩, _, _, rfl, rfl, _, rfl, iteB (fun hb2 => ?_) (fun hb2 => ?_)⟩
      · refine ⟨10, 64, rfl, rfl, p64, 10, 64, rfl, rfl, p64, 10 ^ 64, 10 ^ 64, rfl, rfl, big1, 10, 64, rfl, rfl, p64, 10 ^ 64 * 10 ^ 64, 10 ^ 64, rfl, rfl, big2, ?_⟩
        refine ⟨_, rfl, c, rfl, _, rfl, _, rfl, 10 ^ 64 * 10 ^ 64 * 10 ^ 64, 10 ^ 64 * 10 ^ 64 * 10 ^ 64, rfl, rfl, big3, _, _, rfl, rfl, wp, ?_⟩
        refine ⟨_, rfl, (c * 48271 + 977 * (k : Int) * (k : Int) + 13), 999999999989, rfl, rfl, (show (0 : Int) < 999999999989 by decide), (show 2 ≤ sizeLine by decide), fun l2 h2 => ?_⟩
        exact fin1 _ l2 h2 (Int.emod_nonneg _ (by omega))
      · refine ⟨27, rfl, by decide, by decide, ?_⟩
        refine for_it walk_range0 (fun i σ H2 => ∃ (x f : Int) (y4 y6 : Option V), σ = [some (.ref a), some (.int (k : Int)), some (.int c), some (.int x), y4, some (.int f), y6] ∧ H2 = H1 ∧ 0 ≤ f ∧ (0 < i → 0 ≤ x))
          ⟨(c * 48271 + 977 * (k : Int) * (k : Int) + 13), 0, _, _, rfl, rfl, by decide, fun z => absurd z (Nat.lt_irrefl 0)⟩ (fun _ _ _ _ _ => trivial) (fun i x σ H2 H3 hi p y => ?_) (fun σ H2 p => ?_)
        · obtain ⟨x0, f, y4, y6, rfl, rfl, hf, _⟩ := p
          obtain ⟨rfl, hx⟩ := y
          replace hx : x = V.int (i : Int) := hx
          subst hx
          have m9 : (0 : Int) < 999999999989 := by decide
          refine ⟨_, rfl, x0, 999999999989, rfl, rfl, m9, _, 69621, rfl, rfl, .inr ⟨by decide, by decide⟩, _, rfl, 40503, (i : Int), rfl, rfl, .inl ⟨by decide, by decide⟩, _, _, rfl, rfl, _, _, rfl, rfl, _, 999999999989, rfl, rfl, m9, ?_⟩
          have x1 : 0 ≤ (x0 % 999999999989 * 69621 + 40503 * (i : Int) + 271) % 999999999989 := Int.emod_nonneg _ (by decide)
          have x2 : (x0 % 999999999989 * 69621 + 40503 * (i : Int) + 271) % 999999999989 < 999999999989 := Int.emod_lt_of_pos _ m9
          generalize hz : (x0 % 999999999989 * 69621 + 40503 * (i : Int) + 271) % 999999999989 = z at x1 x2
          refine ⟨_, rfl, 10, 11, rfl, rfl, ⟨by decide, by decide, by decide⟩, f, 10 ^ 11, rfl, rfl, .inr ⟨by decide, by decide⟩, ?_⟩
          refine ⟨_, rfl, _, rfl, z, 65537, (by show V.int _ = V.int _; rw [hz]), rfl, (show (0 : Int) < 65537 by decide), _, _, rfl, rfl, z, _, (by show V.int _ = V.int _; rw [hz]), rfl, .inl ⟨by omega, by omega⟩, _, 99999999977, rfl, rfl, (show (0 : Int) < 99999999977 by decide), _, _, rfl, rfl, ?_⟩
          refine ⟨z, _, _, _, (by rw [← hz]; rfl), rfl, ?_, fun _ => x1⟩
          exact Int.add_nonneg (Int.mul_nonneg hf (by decide)) (Int.emod_nonneg _ (by decide))
        · obtain ⟨x0, f, y4, y6, rfl, rfl, hf, hx⟩ := p
          refine ⟨_, rfl, _, rfl, (show 2 ≤ sizeLine by decide), fun l2 h2 => ?_⟩
          refine q _ _ (s1.trans (same_upd h2)) ?_ (poolAt_mk hf (hx (by decide)))
          cases e : H l2 with
          | none => rfl
          | some o => exact absurd ((s1 _ _ e).symm.trans h2) (by intro z; cases z)
end
end SL
set_option Elab.async false
set_option linter.all false
set_option maxRecDepth 100000
set_option maxHeartbeats 4000000
namespace SL
open PySem PySem.Spec PyProof.Rows L2 He
section
variable {P : Program} {w : World} {K : PySem.W.Frag} {mg : Str → Option Value} {base : Heap}
/-! ### far -/
def spFar : Sp := fun vs H Q _ => ∃ (pl : Addr) (m : Nat), vs = [.ref pl, .int (m : Int)] ∧ PoolAt H pl ∧ (1 ≤ m ∧ m ≤ 30) ∧ ∀ H' (x : Int), (-(10 ^ 30) ≤ x ∧ x ≤ 10 ^ 30) → (m ≤ 29 → -(10 ^ 29) ≤ x ∧ x ≤ 10 ^ 29) → Kp pl H H' → Q (.int x) H'
theorem far_le {f d m : Nat} (h : f < 10 ^ (1 + d)) (hd : d < m) (hm : m ≤ 30) : (f : Int) ≤ 10 ^ 30 ∧ (m ≤ 29 → (f : Int) ≤ 10 ^ 29) := by
  have h1 : (10 : Nat) ^ (1 + d) ≤ 10 ^ 30 := Nat.pow_le_pow_right (by decide) (by omega)
  refine ⟨by omega, fun h2 => ?_⟩
  have h3 : (10 : Nat) ^ (1 + d) ≤ 10 ^ 29 := Nat.pow_le_pow_right (by decide) (by omega)
  omega
theorem ok_far (G : Gs K w mg) : Dg P w K mg base 2 "_law_far" ["_law_pool_here", "_law_size"] spFar := by
  have DT : Dg P w K mg base 1 "_law_take" ["_law_pool_here", "_law_many"] spTake := ok_take G
  refine dg_of G.f_l_far sc_l_far (fun _ _ _ _ _ _ us hl => match us, hl with | [_, _], _ => rfl) (fun vs H Q E h => ?_) (fun cdv A outer s H vs Q E hr h => ?_)
  · obtain ⟨pl, m, rfl, _⟩ := h
    rfl
  · obtain ⟨pl, m, rfl, hP, ⟨m1, m2⟩, q⟩ := h
    refine ⟨_, pss_cons (ps_set (i := 2) sc_l_far.nd rfl (Or.inl rfl) pe_int)
      (pss_cons (ps_for PassesOwn.never rfl (pi_range1 (by rfl) G.z_range (pa_cons (pe_op op_add pe_int (pe_dg DT hr (pa_cons (pv 0) (pa_cons (pv 1) pa_nil)))) pa_nil)) (pg_name (i := 3) sc_l_far.nd rfl (Or.inl rfl))
        (pss_one (ps_set (i := 2) sc_l_far.nd rfl (Or.inl rfl) (pe_op op_add (pe_op op_mul (pv 2) pe_int) (pe_dg DT hr (pa_cons (pv 0) (pa_cons pe_int pa_nil)))))))
      (pss_one (ps_ret (pe_op op_mul (pv 2) (pe_ix ix_list (pe_lst (pa_cons pe_int (pa_cons (pe_op op_sub pe_int pe_int) pa_nil))) (pe_dg DT hr (pa_cons (pv 0) (pa_cons pe_int pa_nil))) (fun _ _ => rfl)))))), ?_⟩
    refine ⟨_, rfl, _, rfl, pl, m, rfl, hP, ⟨m1, by omega⟩, fun H1 d hd k1 => ?_⟩
    refine ⟨1, (d : Int), rfl, rfl, 1 + (d : Int), rfl, by omega, by omega, ?_⟩
    rw [show (1 + (d : Int)).toNat = 1 + d by omega]
    refine for_it walk_range0 (fun i σ H2 => ∃ (f : Nat) (y3 : Option V), σ = [some (.ref pl), some (.int (m : Int)), some (.int (f : Int)), y3] ∧ Kp pl H H2 ∧ f < 10 ^ i)
      ⟨0, none, rfl, k1, by decide⟩ (fun _ _ _ _ _ => trivial) (fun i x σ H2 H3 hi p y => ?_) (fun σ H2 p => ?_)
    · obtain ⟨f, y3, rfl, k2, hf⟩ := p
      obtain ⟨rfl, hx⟩ := y
      replace hx : x = V.int (i : Int) := hx
      subst hx
      refine ⟨_, rfl, (f : Int), 10, rfl, rfl, .inr ⟨by decide, by decide⟩, _, rfl, pl, 10, rfl, k2.p1, ⟨by decide, by decide⟩, fun H4 g hg k3 => ?_⟩
      refine ⟨_, (g : Int), rfl, rfl, f * 10 + g, some (.int (i : Int)), rfl, k2.trans k3, ?_⟩
      rw [Nat.pow_succ]
      omega
    · obtain ⟨f, y3, rfl, k2, hf⟩ := p
      refine ⟨_, rfl, 0, 1, rfl, rfl, (show 2 ≤ sizeLine by decide), fun l hl => ?_⟩
      have s2 : Same H2 (upd H2 l (.lst [.int 1, .int (0 - 1)])) := same_upd hl
      refine ⟨_, rfl, pl, 2, rfl, k2.p1.same s2, ⟨by decide, by decide⟩, fun H4 g hg k3 => ?_⟩
      have e4 : H4 l = some (.lst [.int 1, .int (0 - 1)]) := k3.keep _ _ (k2.p1.new hl) upd_same
      obtain ⟨b1, b2⟩ := far_le hf hd m2
      have k4 := (k2.same s2).trans k3
      rcases (show g = 0 ∨ g = 1 by omega) with rfl | rfl
      · refine ⟨l, _, 0, .int 1, rfl, rfl, SqL.of e4, rfl, (f : Int), 1, rfl, rfl, .inr ⟨by decide, by decide⟩, ?_⟩
        refine q _ _ ⟨?_, ?_⟩ (fun h2 => ⟨?_, ?_⟩) k4
        · omega
        · omega
        · have := b2 h2; omega
        · have := b2 h2; omega
      · refine ⟨l, _, 1, .int (0 - 1), rfl, rfl, SqL.of e4, rfl, (f : Int), (0 - 1), rfl, rfl, .inr ⟨by decide, by decide⟩, ?_⟩
        refine q _ _ ⟨?_, ?_⟩ (fun h2 => ⟨?_, ?_⟩) k4
        · omega
        · omega
        · have := b2 h2; omega
        · have := b2 h2; omega
end
end SL
set_option Elab.async false
set_option linter.all false
set_option maxRecDepth 100000
set_option maxHeartbeats 4000000
namespace SL
open PySem PySem.Spec PyProof.Rows L2 He
/-! ### shades made of letters -/
def shB (s : Str) : Bool := decide (1 ≤ s.cps.size) && decide (s.cps.size ≤ 3) && s.cps.toList.all fun c => decide (97 ≤ c) && decide (c ≤ 122)
theorem shB_ok {s : Str} (h : shB s = true) : Shade s := by
  unfold shB at h
  obtain ⟨h1, h3⟩ := Bool.and_eq_true_iff.mp h
  obtain ⟨h1, h2⟩ := Bool.and_eq_true_iff.mp h1
  refine ⟨of_decide_eq_true h1, of_decide_eq_true h2, fun c hc => ?_⟩
  obtain ⟨a, b⟩ := Bool.and_eq_true_iff.mp (List.all_eq_true.mp h3 c hc)
  exact ⟨of_decide_eq_true a, of_decide_eq_true b⟩
def one (c : Nat) : Str := ⟨#[c]⟩
def letS : Str := "abcdefghijklmnopqrstuvwxyz"
def letC (i : Nat) : Nat := letS.cps.getD i 0
def lawWords : List Str := ["run", "row", "fold", "left", "warp", "weft", "none", "put"]
theorem letS_size : letS.cps.size = 26 := by decide +kernel
theorem let_all : (List.range 26).all (fun i => decide (97 ≤ letC i) && decide (letC i ≤ 122)) = true := by decide +kernel
theorem let_at {i c : Nat} (h : letS.cps[i]? = some c) : c = letC i ∧ 97 ≤ c ∧ c ≤ 122 := by
  obtain ⟨hi, e⟩ := Array.getElem?_eq_some_iff.mp h
  have ec : c = letC i := by
    unfold letC
    rw [← e, Array.getD_eq_getD_getElem?, Array.getElem?_eq_getElem hi]
    rfl
  rw [letS_size] at hi
  have := List.all_eq_true.mp let_all i (List.mem_range.mpr hi)
  obtain ⟨a, b⟩ := Bool.and_eq_true_iff.mp this
  rw [← ec] at a b
  exact ⟨ec, of_decide_eq_true a, of_decide_eq_true b⟩
theorem words_ok : lawWords.all (fun z => shB (cutS z none (some 3))) = true := by decide +kernel
theorem cat_shade {c d : Nat} (hc : 97 ≤ c ∧ c ≤ 122) (hd : 97 ≤ d ∧ d ≤ 122) : Shade (one c ++ one d) := by
  refine ⟨(show 1 ≤ (#[c] ++ #[d]).size by simp), (show (#[c] ++ #[d]).size ≤ 3 by simp), fun x hx => ?_⟩
  have hx' : x ∈ (#[c] ++ #[d]).toList := hx
  rw [Array.toList_append] at hx'
  rcases List.mem_append.mp hx' with h | h
  · have : x = c := by simpa using h
    omega
  · have : x = d := by simpa using h
    omega
/-- one small letter -/
structure One (s : Str) : Prop where
  ex : ∃ c, s = one c ∧ 97 ≤ c ∧ c ≤ 122
theorem cut_one {w : Str} (h : Shade w) : One (cutS w none (some 1)) := by
  have h1 := h.lo
  obtain ⟨c, r, e⟩ : ∃ c r, w.cps.toList = c :: r := by
    cases e : w.cps.toList with
    | nil =>
      have : w.cps.toList.length = 0 := by rw [e]; rfl
      rw [Array.length_toList] at this
      omega
    | cons c r => exact ⟨c, r, rfl⟩
  refine ⟨c, ?_, h.abc c (by rw [e]; exact List.mem_cons_self ..)⟩
  unfold cutS one
  have l1 : w.length = w.cps.size := rfl
  rw [e, show (some (1 : Int)) = some ((1 : Nat) : Int) from rfl, HT.sIx_nat, HT.sIx_none, List.drop_zero, Nat.sub_zero, l1, Nat.min_eq_left h1]
  rfl
theorem join_shade {ys : List Str} (h1 : 1 ≤ ys.length) (h3 : ys.length ≤ 3) (h : ∀ y ∈ ys, One y) : Shade (Txt.join "" ys) := by
  have e0 : Txt.join "" ys = Str.join "" ys := StrLaws.glued_eq_join ..
  have ee : (("" : String) : Str) = Str.empty := by decide +kernel
  rw [e0, ee]
  have key : ∀ ys : List Str, (∀ y ∈ ys, One y) → (Str.join Str.empty ys).cps.size = ys.length ∧ ∀ c ∈ (Str.join Str.empty ys).cps.toList, 97 ≤ c ∧ c ≤ 122 := by
    intro ys
    induction ys with
    | nil => intro _; exact ⟨rfl, fun c hc => absurd hc (by simp [Str.join, Str.empty])⟩
    | cons y r ih =>
      intro hy
      obtain ⟨c, rfl, hc⟩ := (hy y (List.mem_cons_self ..)).ex
      cases r with
      | nil =>
        refine ⟨rfl, fun x hx => ?_⟩
        have : x = c := by simpa [Str.join, one] using hx
        omega
      | cons z r =>
        obtain ⟨i1, i2⟩ := ih fun y hy' => hy y (List.mem_cons_of_mem _ hy')
        have e : (Str.join Str.empty (one c :: z :: r)).cps = #[c] ++ #[] ++ (Str.join Str.empty (z :: r)).cps := rfl
        rw [e]
        refine ⟨?_, fun x hx => ?_⟩
        · rw [Array.size_append, i1]
          simp only [Array.size_append, List.length_cons, List.size_toArray, List.length_nil]
          omega
        · rw [Array.toList_append, Array.toList_append] at hx
          rcases List.mem_append.mp hx with hx | hx
          · have : x = c := by simpa using hx
            omega
          · exact i2 x hx
  obtain ⟨a, b⟩ := key ys h
  exact ⟨by omega, by omega, b⟩
theorem sub_len {α : Type} [DecidableEq α] : ∀ (l f : List α), l.Nodup → (∀ x ∈ l, x ∈ f) → l.length ≤ f.length
  | [], f, _, _ => Nat.zero_le _
  | x :: l, f, hn, hs => by
    have hx := hs x (List.mem_cons_self ..)
    obtain ⟨hx1, hn2⟩ := List.nodup_cons.mp hn
    have := sub_len l (f.erase x) hn2 fun y hy => (List.mem_erase_of_ne (fun e : y = x => hx1 (by rw [← e]; exact hy))).mpr (hs y (List.mem_cons_of_mem _ hy))
    rw [List.length_erase_of_mem hx] at this
    have := List.length_pos_of_mem hx
    rw [List.length_cons]
    omega
def doubles : List Str := (List.range 26).map fun i => one (letC i) ++ one (letC i)
theorem doubles_nodup : (doubles.take 5).Nodup := by decide +kernel
theorem doubles_free {f : List Str} (h : f.length ≤ 4) : ∃ x ∈ doubles, x ∉ f := by
  refine Classical.byContradiction fun hn => ?_
  have := sub_len (doubles.take 5) f doubles_nodup fun x hx => Classical.byContradiction fun hx2 => hn ⟨x, List.mem_of_mem_take hx, hx2⟩
  have : (doubles.take 5).length = 5 := by decide +kernel
  omega
theorem inV_str (x : Str) (xs : List Str) : inV (.str x) (xs.map V.str) = decide (x ∈ xs) := by
  induction xs with
  | nil => rfl
  | cons y ys ih =>
    have e : inV (.str x) ((y :: ys).map V.str) = ((y == x) || inV (.str x) (ys.map V.str)) := rfl
    rw [e, ih]
    by_cases h : y = x
    · simp [h]
    · have h' : ¬ x = y := fun z => h z.symm
      simp [h, h']
theorem flat_strs (xs : List Str) : (xs.map V.str).all flatV = true := by
  rw [List.all_eq_true]
  intro v hv
  obtain ⟨x, _, rfl⟩ := List.mem_map.mp hv
  rfl
/-- the words among which the next shade is sought -/
def some_ (w p : Str) : List Str := w :: ((List.range 26).map (fun i => p ++ one (letC i)) ++ doubles)
theorem letC_ok {i : Nat} (h : i < 26) : 97 ≤ letC i ∧ letC i ≤ 122 := by
  have := List.all_eq_true.mp let_all i (List.mem_range.mpr h)
  obtain ⟨a, b⟩ := Bool.and_eq_true_iff.mp this
  exact ⟨of_decide_eq_true a, of_decide_eq_true b⟩
theorem some_sh {w p : Str} (hw : Shade w) (hp : One p) : ∀ x ∈ some_ w p, Shade x := by
  obtain ⟨c, rfl, hc⟩ := hp.ex
  intro x hx
  rcases List.mem_cons.mp hx with rfl | hx
  · exact hw
  · rcases List.mem_append.mp hx with hx | hx
    · obtain ⟨i, hi, rfl⟩ := List.mem_map.mp hx
      exact cat_shade hc (letC_ok (List.mem_range.mp hi))
    · obtain ⟨i, hi, rfl⟩ := List.mem_map.mp hx
      exact cat_shade (letC_ok (List.mem_range.mp hi)) (letC_ok (List.mem_range.mp hi))
theorem some_len (w p : Str) : (some_ w p).length = 53 := by
  unfold some_ doubles
  simp
theorem some_pick {w p : Str} {f : List Str} (h : f.length ≤ 4) : ∃ y r, (List.range (some_ w p).length).filter (fun i => !decide (at_ (some_ w p) i ∈ f)) = y :: r := by
  cases e : (List.range (some_ w p).length).filter (fun i => !decide (at_ (some_ w p) i ∈ f)) with
  | cons y r => exact ⟨y, r, rfl⟩
  | nil =>
    obtain ⟨x, hx, hn⟩ := doubles_free h
    have hm : x ∈ some_ w p := List.mem_cons_of_mem _ (List.mem_append.mpr (.inr hx))
    obtain ⟨i, hi, ei⟩ := List.mem_iff_getElem.mp hm
    have ea : at_ (some_ w p) i = x := at_of (by rw [List.getElem?_eq_getElem hi, ei])
    have : i ∈ (List.range (some_ w p).length).filter (fun i => !decide (at_ (some_ w p) i ∈ f)) := List.mem_filter.mpr ⟨List.mem_range.mpr hi, by
      rw [ea, decide_eq_false hn]
      rfl⟩
    rw [e] at this
    exact absurd this (by simp)
theorem atI_nat {α : Type} [DecidableEq α] [Inhabited α] {xs : List α} {f : α → V} {i : Nat} (h : i < xs.length) : atI (xs.map f) (i : Int) = some (f (at_ xs i)) := by
  unfold atI ixN
  rw [if_pos (by omega), List.length_map, if_pos (by omega)]
  show (xs.map f)[((i : Int)).toNat]? = _
  rw [Int.toNat_natCast, List.getElem?_map, at_get h]
  rfl
theorem atI_zero {α : Type} (x : α) (xs : List α) : atI (x :: xs) 0 = some x := by
  unfold atI ixN
  rw [if_pos (by decide), if_pos (by rw [List.length_cons]; omega)]
  rfl
theorem let_ix : (List.range 26).all (fun g => decide (atI letS.cps.toList ((g : Nat) : Int) = some (letC g))) = true := by decide +kernel
theorem let_ix1 {g : Nat} (h : g < 26) : atI letS.cps.toList (g : Int) = some (letC g) := of_decide_eq_true (List.all_eq_true.mp let_ix g (List.mem_range.mpr h))
theorem one_sum {ys : List Str} (h : ∀ y ∈ ys, One y) : (ys.map (·.length)).sum = ys.length := by
  induction ys with
  | nil => rfl
  | cons y r ih =>
    obtain ⟨c, rfl, _⟩ := (h y (List.mem_cons_self ..)).ex
    rw [List.map_cons, List.sum_cons, ih fun z hz => h z (List.mem_cons_of_mem _ hz)]
    show 1 + r.length = r.length + 1
    omega
theorem some_map (w p : Str) : [V.str w] ++ ((List.range 26).map fun i => V.str (p ++ one (letC i))) ++ ((List.range 26).map fun i => V.str (one (letC i) ++ one (letC i))) = (some_ w p).map V.str := by
  unfold some_ doubles
  rw [List.map_cons, List.map_append, List.map_map, List.map_map]
  rfl
theorem at_mem {α : Type} [DecidableEq α] [Inhabited α] {xs : List α} {i : Nat} (h : i < xs.length) : at_ xs i ∈ xs := List.mem_of_getElem? (at_get h)
theorem word_sh {g : Nat} (h : g < 8) : Shade (cutS (at_ lawWords g) none (some 3)) := shB_ok (List.all_eq_true.mp words_ok _ (at_mem (by show g < 8; exact h)))
theorem word_len : lawWords.all (fun z => decide (z.length ≤ 100)) = true := by decide +kernel
theorem word_ln {g : Nat} (h : g < 8) : (at_ lawWords g).length ≤ 100 := of_decide_eq_true (List.all_eq_true.mp word_len _ (at_mem (by show g < 8; exact h)))
end SL
set_option Elab.async false
set_option linter.all false
set_option maxRecDepth 100000
set_option maxHeartbeats 4000000
namespace SL
open PySem PySem.Spec PyProof.Rows L2 He
section
variable {P : Program} {w : World} {K : PySem.W.Frag} {mg : Str → Option Value} {base : Heap}
/-! ### some_shades -/
def spSome : Sp := fun vs H Q _ => ∃ (pl : Addr) (m : Nat), vs = [.ref pl, .int (m : Int)] ∧ PoolAt H pl ∧ (1 ≤ m ∧ m ≤ 4) ∧ ∀ H' l (ts : List Str), Kp pl H H' → H l = none → H' l = some (.lst (ts.map V.str)) → (∀ x ∈ ts, Shade x) → ts.length = m → Q (.ref l) H'
theorem ok_some_shades (G : Gs K w mg) : Dg P w K mg base 2 "_law_some_shades" ["_law_pool_here", "_law_many"] spSome := by
  have DT : Dg P w K mg base 1 "_law_take" ["_law_pool_here", "_law_many"] spTake := ok_take G
  refine dg_of G.f_l_some_shades sc_l_some_shades (fun _ _ _ _ _ _ us hl => match us, hl with | [_, _], _ => rfl) (fun vs H Q E h => ?_) (fun cdv A outer s H vs Q E hr h => ?_)
  · obtain ⟨pl, m, rfl, _⟩ := h
    rfl
  · obtain ⟨pl, m, rfl, hP, ⟨m1, m2⟩, q⟩ := h
    refine ⟨_, pss_cons (ps_set (i := 2) sc_l_some_shades.nd rfl (Or.inr rfl) pe_str)
      (pss_cons (ps_set (i := 3) sc_l_some_shades.nd rfl (Or.inl rfl) (pe_lst (pa_cons pe_str (pa_cons pe_str (pa_cons pe_str (pa_cons pe_str (pa_cons pe_str (pa_cons pe_str (pa_cons pe_str (pa_cons pe_str pa_nil))))))))))
      (pss_cons (ps_set (i := 4) sc_l_some_shades.nd rfl (Or.inr rfl) (pe_lst pa_nil))
      (pss_cons (ps_for PassesOwn.never rfl (pi_range1 (by rfl) G.z_range (pa_cons (pv 1) pa_nil)) (pg_name (i := 5) sc_l_some_shades.nd rfl (Or.inl rfl))
        (pss_cons (ps_set (i := 6) sc_l_some_shades.nd rfl (Or.inr rfl) (pe_join pe_str
          (pe_lc (own := [("_law_place", 8)]) (g := gName 8) rfl sc_l_some_shades.nd (pi_range1 (by rfl) G.z_range (pa_cons (pe_op op_add pe_int (pe_dg DT hr (pa_cons (pv 0) (pa_cons pe_int pa_nil)))) pa_nil)) (blkOk_by (N := ["_law_pool_here", "_law_many", "_law_letters", "_law_words", "_law_found", "_law_turn", "_law_word_here", "_law_some", "_law_place", "_law_letter", "_law_one"]) (sc := defScope s_l_some_shades) (by decide +kernel))
            (fun _ _ _ _ _ => pg_name (i := 8) sc_l_some_shades.nd rfl (Or.inl rfl)) (fun _ _ _ _ _ => pts_nil)
            (fun _ _ _ _ _ => pe_ix ix_str (pv 2) (pe_dg DT hr (pa_cons (pv 0) (pa_cons pe_int pa_nil))) (fun _ _ => rfl)))))
        (Evl.pss_cut (ps_if (pt_cmpR op_eq (pe_dg DT hr (pa_cons (pv 0) (pa_cons pe_int pa_nil))) pe_int (nomark _))
            (pss_one (ps_set (i := 6) sc_l_some_shades.nd rfl (Or.inr rfl) (pe_slice L2.sl_str (pe_ix ix_list (pv 3) (pe_dg DT hr (pa_cons (pv 0) (pa_cons pe_int pa_nil))) (fun _ _ => rfl)) po_none (po_some pe_int)))) pss_nil)
        (pss_cons (ps_set (i := 7) sc_l_some_shades.nd rfl (Or.inl rfl) (pe_op op_cat (pe_op op_cat (pe_lst (pa_cons (pv 6) pa_nil))
            (pe_lc (own := [("_law_letter", 9)]) (g := gName 9) rfl sc_l_some_shades.nd (pi_str (pv 2)) (blkOk_by (N := ["_law_pool_here", "_law_many", "_law_letters", "_law_words", "_law_found", "_law_turn", "_law_word_here", "_law_some", "_law_place", "_law_letter", "_law_one"]) (sc := defScope s_l_some_shades) (by decide +kernel))
              (fun _ _ _ _ _ => pg_name (i := 9) sc_l_some_shades.nd rfl (Or.inl rfl)) (fun _ _ _ _ _ => pts_nil)
              (fun _ _ _ _ _ => pe_op op_add_str (pe_slice L2.sl_str (pv 6) po_none (po_some pe_int)) (pv 9))))
            (pe_lc (own := [("_law_letter", 9)]) (g := gName 9) rfl sc_l_some_shades.nd (pi_str (pv 2)) (blkOk_by (N := ["_law_pool_here", "_law_many", "_law_letters", "_law_words", "_law_found", "_law_turn", "_law_word_here", "_law_some", "_law_place", "_law_letter", "_law_one"]) (sc := defScope s_l_some_shades) (by decide +kernel))
              (fun _ _ _ _ _ => pg_name (i := 9) sc_l_some_shades.nd rfl (Or.inl rfl)) (fun _ _ _ _ _ => pts_nil)
              (fun _ _ _ _ _ => pe_op op_add_str (pv 9) (pv 9)))))
        (pss_one (ps_expr (pe_bm PySem.F.plainAttrs_list PySem.F.slot_list_append PySem.F.type_list_append mt_append (pv 4) (pa_cons
          (pe_ix ix_list (pe_lc (own := [("_law_one", 10)]) (g := gName 10) rfl sc_l_some_shades.nd (pi_list (pv 7)) (blkOk_by (N := ["_law_pool_here", "_law_many", "_law_letters", "_law_words", "_law_found", "_law_turn", "_law_word_here", "_law_some", "_law_place", "_law_letter", "_law_one"]) (sc := defScope s_l_some_shades) (by decide +kernel))
              (fun _ _ _ _ _ => pg_name (i := 10) sc_l_some_shades.nd rfl (Or.inl rfl)) (fun _ _ _ _ _ => pts_one (pt_cmpR (r := rIn K true) op_notIn_seq (pv 10) (pv 4) (by rfl)))
              (fun _ _ _ _ _ => pv 10)) pe_int (fun _ _ => rfl)) pa_nil))))))))
      (pss_one (ps_ret (pv 4)))))), ?_⟩
    refine ⟨(show 8 ≤ sizeLine by decide), fun lw hlw => ⟨Nat.zero_le _, fun lf hlf => ?_⟩⟩
    have sw : Same H (upd H lw (.lst (lawWords.map V.str))) := same_upd hlw
    replace hlf : (upd H lw (.lst (lawWords.map V.str))) lf = none := hlf
    have sf : Same (upd H lw (.lst (lawWords.map V.str))) (upd (upd H lw (.lst (lawWords.map V.str))) lf (.lst [])) := same_upd hlf
    have ew : (upd (upd H lw (.lst (lawWords.map V.str))) lf (.lst [])) lw = some (.lst (lawWords.map V.str)) := sf _ _ upd_same
    have nwf : lw ≠ lf := ne_of_none upd_same hlf
    have nw : lw ≠ pl := hP.new hlw
    have nf : lf ≠ pl := (hP.same sw).new hlf
    have hlf0 : H lf = none := by
      cases e : H lf with
      | none => rfl
      | some o => exact absurd ((sw _ _ e).symm.trans hlf) (by intro z; cases z)
    refine ⟨_, rfl, (m : Int), rfl, by omega, by omega, ?_⟩
    rw [show ((m : Int)).toNat = m from Int.toNat_natCast _]
    refine for_it walk_range0 (fun i σ H1 => ∃ (ts : List Str) (y5 y6 y7 y8 y9 y10 : Option V), σ = [some (.ref pl), some (.int (m : Int)), some (.str letS), some (.ref lw), some (.ref lf), y5, y6, y7, y8, y9, y10] ∧ Kp pl H H1 ∧ H1 lw = some (.lst (lawWords.map V.str)) ∧ H1 lf = some (.lst (ts.map V.str)) ∧ (∀ x ∈ ts, Shade x) ∧ ts.length = i)
      ⟨[], none, none, none, none, none, none, rfl, .of hP (sw.trans sf), ew, upd_same, fun x hx => absurd hx (by simp), rfl⟩ (fun _ _ _ _ _ => trivial) (fun i x σ H1 H2 hi p y => ?_) (fun σ H1 p => ?_)
    · obtain ⟨ts, y5, y6, y7, y8, y9, y10, rfl, k1, ew1, ef1, hts, hlen⟩ := p
      obtain ⟨rfl, hx⟩ := y
      replace hx : x = V.int (i : Int) := hx
      subst hx
      refine ⟨⟨_, rfl⟩, _, rfl, pl, 3, rfl, k1.p1, ⟨by decide, by decide⟩, fun H3 d hd k2 => ?_⟩
      refine ⟨1, (d : Int), rfl, rfl, 1 + (d : Int), rfl, by omega, by omega, fun D hD => ?_⟩
      rw [show (1 + (d : Int)).toNat = 1 + d by omega]
      have ew3 := k2.keep _ _ nw ew1
      have ef3 := k2.keep _ _ nf ef1
      have k13 := k1.trans k2
      have nDp := k2.p1.new hD
      refine lc_it walk_range0 (fun j H4 => Kp pl H3 H4 ∧ ∃ ys : List Str, H4 D = some (.lst (ys.map V.str)) ∧ ys.length = j ∧ ∀ y ∈ ys, One y) ⟨(Kp.refl k2.p1).mut hD, [], upd_same, rfl, fun y hy => absurd hy (by simp)⟩ (fun _ _ _ _ => trivial) (fun j x H4 H5 hj p y => ?_) (fun H4 p => ?_)
      · obtain ⟨k4, ys, eD, hyl, hyo⟩ := p
        obtain ⟨rfl, hx⟩ := y
        refine ⟨rfl, yes_go ?_⟩
        refine ⟨_, rfl, _, rfl, pl, 26, rfl, k4.p1, ⟨by decide, by decide⟩, fun H6 g hg k5 => ?_⟩
        refine ⟨letS, (g : Int), letC g, rfl, rfl, sz_of (by show letS.cps.size ≤ 100000; rw [letS_size]; decide), let_ix1 hg, ?_⟩
        refine ⟨ys.map V.str, k5.keep _ _ nDp eD, sz_lt (by rw [List.length_map]; omega), (k4.trans k5).mut hD, ys ++ [one (letC g)], ?_, by rw [List.length_append, hyl]; rfl, fun y hy => ?_⟩
        · rw [upd_same, List.map_append] <;> rfl
        · rcases List.mem_append.mp hy with hy | hy
          · exact hyo y hy
          · have : y = one (letC g) := by simpa using hy
            subst this
            exact ⟨_, rfl, letC_ok hg⟩
      · obtain ⟨k4, ys, eD, hyl, hyo⟩ := p
        refine ⟨_, D, ys, rfl, rfl, .inl (SqL.of eD), ?_, ?_⟩
        · rw [one_sum hyo]
          have : (("" : String) : Str).length = 0 := by decide +kernel
          rw [this]
          omega
        have hw : Shade (Txt.join "" ys) := join_shade (by omega) (by omega) hyo
        generalize Txt.join "" ys = w at hw
        have k14 := k13.trans k4
        have ew4 := k4.keep _ _ nw ew3
        have ef4 := k4.keep _ _ nf ef3
        refine ⟨fun σ' H5 => ∃ (z : Str), σ' = [some (.ref pl), some (.int (m : Int)), some (.str letS), some (.ref lw), some (.ref lf), some (.int (i : Int)), some (.str z), y7, y8, y9, y10] ∧ Shade z ∧ Kp pl H H5 ∧ H5 lw = some (.lst (lawWords.map V.str)) ∧ H5 lf = some (.lst (ts.map V.str)), ?_, ?_⟩
        · refine ⟨_, rfl, pl, 8, rfl, k4.p1, ⟨by decide, by decide⟩, fun H5 g hg k5 => ?_⟩
          refine ⟨rfl, _, rfl, iteB (fun hb => ?_) (fun hb => ?_)⟩
          · refine ⟨_, rfl, _, rfl, pl, 8, rfl, k5.p1, ⟨by decide, by decide⟩, fun H6 g2 hg2 k6 => ?_⟩
            have k56 := k5.trans k6
            refine ⟨lw, _, (g2 : Int), _, rfl, rfl, SqL.of (k56.keep _ _ nw ew4), atI_nat (xs := lawWords) (by show g2 < 8; exact hg2), _, rfl, at_ lawWords g2, rfl, sz_of (by have := word_ln hg2; omega), ?_⟩
            exact ⟨_, rfl, word_sh hg2, k14.trans k56, k56.keep _ _ nw ew4, k56.keep _ _ nf ef4⟩
          · exact ⟨w, rfl, hw, k14.trans k5, k5.keep _ _ nw ew4, k5.keep _ _ nf ef4⟩
        · rintro σ' H5 ⟨z, rfl, hz, k5, ew5, ef5⟩
          have hz1 := hz.lo
          have hz3 := hz.hi
          have lz : z.length = z.cps.size := rfl
          refine ⟨_, rfl, (show 1 ≤ sizeLine by decide), fun l1 hl1 => ?_⟩
          have s6 : Same H5 (upd H5 l1 (.lst [.str z])) := same_upd hl1
          refine ⟨_, rfl, letS, rfl, fun D1 hD1 => ?_⟩
          have ls26 : letS.cps.size ≤ 50000 := by rw [letS_size]; decide
          refine lc_map walk_str (fun i : Nat => .str (cutS z none (some 1) ++ one (letC i))) hD1 ls26 (fun _ _ => trivial) (fun _ _ _ _ y => y.1) (fun _ => rfl) (fun i x H6 hi s1 y Q1 k => ?_) (fun H6 s7 e7 => ?_)
          · obtain ⟨_, _, c, hc, rfl⟩ := y
            obtain ⟨ec, _⟩ := let_at hc
            subst ec
            have hcl := cutS_length z none (some 1)
            exact ⟨_, rfl, _, rfl, z, rfl, sz_of (by omega), _, rfl, _, _, rfl, rfl, sz_of (by show _ + 1 ≤ 100000; omega), k _ (Same.refl _)⟩
          · rw [letS_size] at e7
            refine ⟨l1, D1, _, _, rfl, rfl, s7 _ _ upd_same, e7, sz_of (by simp), fun l2 hl2 => ?_⟩
            have s8 := same_upd (o := .lst ([V.str z] ++ (List.range 26).map fun i : Nat => V.str (cutS z none (some 1) ++ one (letC i)))) hl2
            refine ⟨_, rfl, letS, rfl, fun D2 hD2 => ?_⟩
            refine lc_map walk_str (fun i : Nat => .str (one (letC i) ++ one (letC i))) hD2 ls26 (fun _ _ => trivial) (fun _ _ _ _ y => y.1) (fun _ => rfl) (fun i x H7 hi s1 y Q1 k => ?_) (fun H7 s9 e9 => ?_)
            · obtain ⟨_, _, c, hc, rfl⟩ := y
              obtain ⟨ec, _⟩ := let_at hc
              subst ec
              exact ⟨_, rfl, _, rfl, _, _, rfl, rfl, sz_of (by show 1 + 1 ≤ 100000; decide), k _ (Same.refl _)⟩
            · rw [letS_size] at e9
              refine ⟨l2, D2, _, _, rfl, rfl, s9 _ _ upd_same, e9, sz_of (by simp), fun l3 hl3 => ?_⟩
              rw [some_map]
              have s10 := same_upd (o := .lst ((some_ z (cutS z none (some 1))).map V.str)) hl3
              have s59 : Same H5 (upd H7 l3 (.lst ((some_ z (cutS z none (some 1))).map V.str))) := (((s6.trans s7).trans s8).trans s9).trans s10
              have hsh := some_sh hz (cut_one hz)
              have hl53 := some_len z (cutS z none (some 1))
              obtain ⟨y, r, hpick⟩ := some_pick (w := z) (p := cutS z none (some 1)) (f := ts) (by omega)
              have hy : y < (some_ z (cutS z none (some 1))).length := by
                have : y ∈ (List.range (some_ z (cutS z none (some 1))).length).filter (fun i => !decide (at_ (some_ z (cutS z none (some 1))) i ∈ ts)) := by rw [hpick]; exact List.mem_cons_self ..
                exact List.mem_range.mp (List.mem_filter.mp this).1
              generalize hsm : some_ z (cutS z none (some 1)) = sm at *
              have ef6 := s59 _ _ ef5
              generalize hH8 : upd H7 l3 (.lst (sm.map V.str)) = H8 at *
              have e83 : H8 l3 = some (.lst (sm.map V.str)) := by rw [← hH8]; exact upd_same
              refine ⟨_, rfl, .inl ⟨rfl, _, SqL.of ef6⟩, ?_⟩
              refine ⟨_, rfl, l3, rfl, ⟨_, SqL.of e83⟩, fun D3 hD3 => ?_⟩
              have hlm : (sm.map V.str).length = sm.length := List.length_map _
              refine lc_flt (walk_list (xs := sm.map V.str)) (fun i => !decide (at_ sm i ∈ ts)) (fun i => .str (at_ sm i)) hD3 (by omega) (fun _ s1 => SqL.of (s1 _ _ e83)) yat_same (fun _ => rfl) (fun i x H9 hi s1 y Q1 k => ?_) (fun i x H9 hi hf s1 y Q1 k => ?_) (fun H9 s1 e1 => ?_)
              · obtain ⟨_, hx⟩ := y
                obtain ⟨u, hu, rfl⟩ := map_at hx
                refine ⟨_, rfl, _, rfl, lf, ts.map V.str, rfl, .inl (SqL.of (s1 _ _ ef6)), rfl, flat_strs ts, _, rfl, ?_⟩
                have e := k _ (Same.refl _)
                rw [at_of hu] at e
                show Q1 (!inV (.str u) (ts.map V.str)) _
                rw [inV_str]
                exact e
              · obtain ⟨_, _, hx⟩ := y
                obtain ⟨u, hu, rfl⟩ := map_at hx
                have e := k _ (Same.refl _)
                rw [at_of hu] at e
                exact ⟨_, rfl, e⟩
              · rw [hlm, hpick] at e1
                refine ⟨D3, _, 0, .str (at_ sm y), rfl, rfl, SqL.of e1, (by rw [List.map_cons]; exact atI_zero _ _), ?_⟩
                refine ⟨lf, _, _, rfl, rfl, s1 _ _ ef6, sz_lt (by rw [List.length_map]; omega), ?_⟩
                refine ⟨ts ++ [at_ sm y], _, _, _, _, _, _, rfl, ((k5.same s59).same s1).mut hlf0, ?_, ?_, fun x hx => ?_, by rw [List.length_append, hlen]; rfl⟩
                · rw [upd_ne nwf]
                  exact s1 _ _ (s59 _ _ ew5)
                · rw [upd_same, List.map_append] <;> rfl
                · rcases List.mem_append.mp hx with hx | hx
                  · exact hts x hx
                  · have : x = at_ sm y := by simpa using hx
                    subst this
                    exact hsh _ (at_mem hy)
    · obtain ⟨ts, y5, y6, y7, y8, y9, y10, rfl, k1, ew1, ef1, hts, hlen⟩ := p
      exact ⟨_, rfl, q _ _ ts k1 hlf0 ef1 hts hlen⟩
end
end SL
set_option Elab.async false
set_option linter.all false
set_option maxRecDepth 100000
set_option maxHeartbeats 4000000
namespace SL
open PySem PySem.Spec PyProof.Rows L2 He
theorem Kp.none {pl l : Addr} {H H' : Hp} (k : Kp pl H H') (h : H' l = none) : H l = none := by
  cases e : H l with
  | none => rfl
  | some o => exact absurd ((k.keep _ _ (k.p1.new h) e).symm.trans h) (by intro z; cases z)
theorem Prs.kp {pl : Addr} {H H' : Hp} {as : List Addr} {ps : List Prr} (h : Prs H as ps) (k : Kp pl H H') : Prs H' as ps := ⟨h.len, fun i a p h1 h2 => k.tup (h.at_ i a p h1 h2)⟩
theorem StAt.kp {pl : Addr} {H H' : Hp} {t : Addr} {ps : List Prr} (h : StAt H t ps) (k : Kp pl H H') : StAt H' t ps := by
  obtain ⟨as, h1, h2⟩ := h
  exact ⟨as, k.tup h1, h2.kp k⟩
theorem Prs.app {H : Hp} {as bs : List Addr} {ps qs : List Prr} (h : Prs H as ps) (g : Prs H bs qs) : Prs H (as ++ bs) (ps ++ qs) := by
  refine ⟨by rw [List.length_append, List.length_append, h.len, g.len], fun i b q h1 h2 => ?_⟩
  by_cases hi : i < as.length
  · rw [List.getElem?_append_left hi] at h1
    rw [List.getElem?_append_left (by rw [← h.len]; exact hi)] at h2
    exact h.at_ i b q h1 h2
  · rw [List.getElem?_append_right (by omega)] at h1
    rw [List.getElem?_append_right (by rw [← h.len]; omega), ← h.len] at h2
    exact g.at_ _ b q h1 h2
theorem Prs.rep {H : Hp} {as : List Addr} {ps : List Prr} (h : Prs H as ps) : ∀ k, Prs H (List.replicate k as).flatten (List.replicate k ps).flatten
  | 0 => Prs.nil
  | k + 1 => by
    rw [List.replicate_succ, List.replicate_succ, List.flatten_cons, List.flatten_cons]
    exact h.app (h.rep k)
theorem rep_mem {α : Type} {k : Nat} {xs : List α} {x : α} (h : x ∈ (List.replicate k xs).flatten) : x ∈ xs := by
  obtain ⟨l, hl, hx⟩ := List.mem_flatten.mp h
  rw [List.eq_of_mem_replicate hl] at hx
  exact hx
theorem rep_map {α β : Type} (f : α → β) (k : Nat) (xs : List α) : (List.replicate k (xs.map f)).flatten = (List.replicate k xs).flatten.map f := by
  rw [List.map_flatten, List.map_replicate]
theorem rep_len {α : Type} (k : Nat) (xs : List α) : (List.replicate k xs).flatten.length = k * xs.length := by
  rw [List.length_flatten, List.map_replicate, List.sum_replicate_nat]
theorem sum_3 {ps : List Prr} (h : ∀ p ∈ ps, Shade p.1 ∧ 1 ≤ p.2 ∧ p.2 ≤ 3) : (ps.map (·.2)).sum ≤ 3 * (ps.length : Int) := by
  induction ps with
  | nil => exact Int.le_refl _
  | cons p r ih =>
    have := ih fun q hq => h q (List.mem_cons_of_mem _ hq)
    have := (h p (List.mem_cons_self ..)).2.2
    rw [List.map_cons, List.sum_cons, List.length_cons]
    omega
structure StSmall (ps : List Prr) : Prop extends StOk ps where
  few : (expand ps).length ≤ 36
theorem small_of {ps : List Prr} (h1 : 1 ≤ ps.length) (h2 : ps.length ≤ 12) (h : ∀ p ∈ ps, Shade p.1 ∧ 1 ≤ p.2 ∧ p.2 ≤ 3) : StSmall ps := by
  have h3 := sum_3 h
  have hsh : ∀ p ∈ ps, Shade p.1 ∧ 1 ≤ p.2 := fun p hp => ⟨(h p hp).1, (h p hp).2.1⟩
  have h4 := expand_len hsh
  exact ⟨⟨h1, hsh, by omega⟩, by omega⟩
section
variable {P : Program} {w : World} {K : PySem.W.Frag} {mg : Str → Option Value} {base : Heap}
/-! ### parts -/
def spParts : Sp := fun vs H Q _ => ∃ pl : Addr, vs = [.ref pl, .int 4, .int 3] ∧ PoolAt H pl ∧ ∀ H' t ps, Kp pl H H' → StAt H' t ps → StSmall ps → Q (.ref t) H'
theorem ok_parts (G : Gs K w mg) : Dg P w K mg base 3 "_law_parts" ["_law_pool_here", "_law_upto", "_law_wide"] spParts := by
  have DT : Dg P w K mg base 1 "_law_take" ["_law_pool_here", "_law_many"] spTake := ok_take G
  have DS : Dg P w K mg base 2 "_law_some_shades" ["_law_pool_here", "_law_many"] spSome := ok_some_shades G
  refine dg_of G.f_l_parts sc_l_parts (fun _ _ _ _ _ _ us hl => match us, hl with | [_, _, _], _ => rfl) (fun vs H Q E h => ?_) (fun cdv A outer s H vs Q E hr h => ?_)
  · obtain ⟨pl, rfl, _⟩ := h
    rfl
  · obtain ⟨pl, rfl, hP, q⟩ := h
    have hr1 := hr.mono (show 1 ≤ 2 by decide)
    refine ⟨_, pss_cons (ps_set (i := 3) sc_l_parts.nd rfl (Or.inl rfl) (pe_dg DS hr (pa_cons (pv 0) (pa_cons (pe_op op_add pe_int (pe_dg DT hr1 (pa_cons (pv 0) (pa_cons pe_int pa_nil)))) pa_nil))))
      (pss_cons (ps_set (i := 4) sc_l_parts.nd rfl (Or.inl rfl) (pe_lst pa_nil))
      (pss_cons (ps_for PassesOwn.never rfl (pi_range1 (by rfl) G.z_range (pa_cons (pe_op op_add pe_int (pe_dg DT hr1 (pa_cons (pv 0) (pa_cons (pv 1) pa_nil)))) pa_nil)) (pg_name (i := 5) sc_l_parts.nd rfl (Or.inl rfl))
        (pss_one (ps_expr (pe_bm PySem.F.plainAttrs_list PySem.F.slot_list_append PySem.F.type_list_append mt_append (pv 4) (pa_cons
          (pe_tup (pa_cons (pe_ix ix_list (pv 3) (pe_dg DT hr1 (pa_cons (pv 0) (pa_cons (pe_callB call_len_seq (by rfl) G.z_len PySem.boot_len (pa_cons (pv 3) pa_nil)) pa_nil))) (fun _ _ => rfl)) (pa_cons (pe_op op_add pe_int (pe_dg DT hr1 (pa_cons (pv 0) (pa_cons (pv 2) pa_nil)))) pa_nil))) pa_nil)))))
      (pss_one (ps_ret (pe_op op_repT1 (pe_callTy call_tuple_of (by rfl) G.z_tuple (by decide +kernel) (pa_cons (pv 4) pa_nil))
        (pe_ix ix_list (pe_lst (pa_cons pe_int (pa_cons pe_int (pa_cons pe_int (pa_cons pe_int pa_nil))))) (pe_dg DT hr1 (pa_cons (pv 0) (pa_cons pe_int pa_nil))) (fun _ _ => rfl))))))), ?_⟩
    refine ⟨_, rfl, _, rfl, pl, 4, rfl, hP, ⟨by decide, by decide⟩, fun H1 d hd k1 => ?_⟩
    refine ⟨1, (d : Int), rfl, rfl, pl, 1 + d, by show [V.ref pl, V.int (1 + (d : Int))] = [V.ref pl, V.int ((1 + d : Nat) : Int)]; congr 3, k1.p1, ⟨by omega, by omega⟩, fun H2 ls ts k2 nls e2 hts hlt => ?_⟩
    refine ⟨Nat.zero_le _, fun lf hlf => ?_⟩
    have sf : Same H2 (upd H2 lf (.lst [])) := same_upd hlf
    have k12 := k1.trans k2
    have hlf0 : H lf = none := k12.none hlf
    have nsf : ls ≠ lf := ne_of_none e2 hlf
    have nls0 : ls ≠ pl := k1.p1.new nls
    have nlf0 : lf ≠ pl := k12.p1.new hlf
    refine ⟨_, rfl, _, rfl, pl, 4, rfl, k12.p1.same sf, ⟨by decide, by decide⟩, fun H3 g hg k3 => ?_⟩
    refine ⟨1, (g : Int), rfl, rfl, 1 + (g : Int), rfl, by omega, by omega, ?_⟩
    rw [show (1 + (g : Int)).toNat = 1 + g by omega]
    have k13 := (k12.same sf).trans k3
    have es3 := k3.keep _ _ nls0 (sf _ _ e2)
    have ef3 := k3.keep _ _ nlf0 upd_same
    refine for_it walk_range0 (fun i σ H4 => ∃ (as : List Addr) (ps : List Prr) (y5 : Option V), σ = [some (.ref pl), some (.int 4), some (.int 3), some (.ref ls), some (.ref lf), y5] ∧ Kp pl H H4 ∧ H4 ls = some (.lst (ts.map V.str)) ∧ H4 lf = some (.lst (as.map V.ref)) ∧ Prs H4 as ps ∧ ps.length = i ∧ ∀ p ∈ ps, Shade p.1 ∧ 1 ≤ p.2 ∧ p.2 ≤ 3)
      ⟨[], [], none, rfl, k13, es3, ef3, Prs.nil, rfl, fun p hp => absurd hp (by simp)⟩ (fun _ _ _ _ _ => trivial) (fun i x σ H4 H5 hi p y => ?_) (fun σ H4 p => ?_)
    · obtain ⟨as, ps, y5, rfl, k4, es4, ef4, hp4, hpl, hps⟩ := p
      obtain ⟨rfl, hx⟩ := y
      replace hx : x = V.int (i : Int) := hx
      subst hx
      refine ⟨_, rfl, .inl ⟨rfl, _, SqL.of ef4⟩, ?_⟩
      refine ⟨_, rfl, _, rfl, _, rfl, ls, _, rfl, .inl (SqL.of es4), ?_⟩
      rw [List.length_map]
      refine ⟨pl, ts.length, rfl, k4.p1, ⟨by omega, by omega⟩, fun H6 a ha k6 => ?_⟩
      have es6 := k6.keep _ _ nls0 es4
      refine ⟨ls, _, (a : Int), _, rfl, rfl, SqL.of es6, atI_nat (xs := ts) ha, ?_⟩
      refine ⟨_, rfl, _, rfl, pl, 3, rfl, k6.p1, ⟨by decide, by decide⟩, fun H7 b hb k7 => ?_⟩
      refine ⟨1, (b : Int), rfl, rfl, (show 2 ≤ sizeLine by decide), fun T hT => ?_⟩
      have sT : Same H7 (upd H7 T (.tup [V.str (at_ ts a), V.int (1 + (b : Int))])) := same_upd hT
      have k47 := (k6.trans k7).same sT
      have ef8 := k47.keep _ _ nlf0 ef4
      have es8 := k47.keep _ _ nls0 es4
      have hasl : as.length ≤ 4 := by rw [hp4.len]; omega
      refine ⟨lf, _, _, rfl, rfl, ef8, sz_lt (by rw [List.length_map]; omega), ?_⟩
      refine ⟨as ++ [T], ps ++ [(at_ ts a, 1 + (b : Int))], _, rfl, (k4.trans k47).mut hlf0, ?_, ?_, ?_, by rw [List.length_append, hpl]; rfl, fun p hp => ?_⟩
      · rw [upd_ne nsf]
        exact es8
      · rw [upd_same, List.map_append] <;> rfl
      · exact Prs.mut ((hp4.kp k47).snoc upd_same) ef8
      · rcases List.mem_append.mp hp with hp | hp
        · exact hps p hp
        · have : p = (at_ ts a, 1 + (b : Int)) := by simpa using hp
          subst this
          exact ⟨hts _ (at_mem ha), (show 1 ≤ 1 + (b : Int) by omega), (show 1 + (b : Int) ≤ 3 by omega)⟩
    · obtain ⟨as, ps, y5, rfl, k4, es4, ef4, hp4, hpl, hps⟩ := p
      have hasl : as.length = 1 + g := by rw [hp4.len]; omega
      refine ⟨_, rfl, lf, _, rfl, .inl ⟨SqL.of ef4, fun T hT => ?_⟩⟩
      have sT : Same H4 (upd H4 T (.tup (as.map V.ref))) := same_upd hT
      refine ⟨(show 4 ≤ sizeLine by decide), fun l5 hl5 => ?_⟩
      have s5 := same_upd (o := .lst [V.int 1, V.int 1, V.int 2, V.int 3]) hl5
      refine ⟨_, rfl, pl, 4, rfl, (k4.p1.same sT).same s5, ⟨by decide, by decide⟩, fun H6 c hc k6 => ?_⟩
      have k56 := ((Kp.of k4.p1 sT).same s5).trans k6
      have e6 : H6 l5 = some (.lst [V.int 1, V.int 1, V.int 2, V.int 3]) := k6.keep _ _ ((k4.p1.same sT).new hl5) upd_same
      have eT : H6 T = some (.tup (as.map V.ref)) := k6.tup (s5 _ _ upd_same)
      have hkk : ∃ kk : Nat, atI [V.int 1, V.int 1, V.int 2, V.int 3] (c : Int) = some (.int (kk : Int)) ∧ 1 ≤ kk ∧ kk ≤ 3 := by
        rcases (show c = 0 ∨ c = 1 ∨ c = 2 ∨ c = 3 by omega) with rfl | rfl | rfl | rfl
        · exact ⟨1, rfl, by decide, by decide⟩
        · exact ⟨1, rfl, by decide, by decide⟩
        · exact ⟨2, rfl, by decide, by decide⟩
        · exact ⟨3, rfl, by decide, by decide⟩
      obtain ⟨kk, hat, hk1, hk3⟩ := hkk
      refine ⟨l5, _, (c : Int), _, rfl, rfl, SqL.of e6, hat, ?_⟩
      have hp6 := hp4.kp k56
      refine ⟨T, (kk : Int), as.map V.ref, rfl, rfl, SqT.of eT, fun z => ?_, by omega, by omega, by rw [List.length_map]; omega, fun e => ?_, fun e p hp => ?_⟩
      · have : (as.map V.ref).length = 0 := by rw [z]; rfl
        rw [List.length_map] at this
        omega
      · exact q _ T ps (k4.trans k56) ⟨as, eT, hp6⟩ (small_of (by omega) (by omega) hps)
      · have sp := same_upd (o := .tup ((List.replicate ((kk : Int)).toNat (as.map V.ref)).flatten)) hp
        refine q _ p (List.replicate kk ps).flatten ((k4.trans k56).same sp) ⟨(List.replicate kk as).flatten, ?_, (hp6.same sp).rep kk⟩ (small_of ?_ ?_ fun p hp => hps p (rep_mem hp))
        · rw [upd_same, rep_map, Int.toNat_natCast]
        · rw [rep_len]
          exact Nat.mul_pos hk1 (by omega)
        · rw [rep_len]
          have : kk * ps.length ≤ 3 * 4 := Nat.mul_le_mul hk3 (by omega)
          omega
end
end SL
set_option Elab.async false
set_option linter.all false
set_option maxRecDepth 100000
set_option maxHeartbeats 4000000
namespace SL
open PySem PySem.Spec PyProof.Rows L2 He
structure WdOk (H : Hp) (l : Addr) (ws : List Str) : Prop where
  at_ : H l = some (.lst (ws.map V.str))
  pos : 1 ≤ ws.length
  le : ws.length ≤ 480
  sh : ∀ x ∈ ws, Shade x
theorem wdOk_app {H : Hp} {p : Addr} {ws us : List Str} (h1 : 1 ≤ ws.length) (h2 : ws.length ≤ 240) (h3 : us.length ≤ ws.length) (hs : ∀ x ∈ ws, Shade x) (hu : ∀ x ∈ us, x ∈ ws) : WdOk (upd H p (.lst (ws.map V.str ++ us.map V.str))) p (ws ++ us) := by
  refine ⟨by rw [upd_same, List.map_append], by rw [List.length_append]; omega, by rw [List.length_append]; omega, fun x hx => ?_⟩
  rcases List.mem_append.mp hx with hx | hx
  · exact hs x hx
  · exact hs x (hu x hx)
theorem rep_map0 {α β : Type} (f : α → β) (k : Nat) (xs : List α) : (List.replicate k (xs.map f)).flatten = (List.replicate k xs).flatten.map f := by
  rw [List.map_flatten, List.map_replicate]
theorem rep_mem0 {α : Type} {k : Nat} {xs : List α} {x : α} (h : x ∈ (List.replicate k xs).flatten) : x ∈ xs := by
  obtain ⟨l, hl, hx⟩ := List.mem_flatten.mp h
  rw [List.eq_of_mem_replicate hl] at hx
  exact hx
section
variable {P : Program} {w : World} {K : PySem.W.Frag} {mg : Str → Option Value} {base : Heap}
/-! ### word -/
def spWordL : Sp := fun vs H Q _ => ∃ (t : Addr) (ps : List Prr) (m : Str), vs = [.ref t, .str m] ∧ StAt H t ps ∧ StOk ps ∧ ∀ H' l ws, Same H H' → WdOk H' l ws → Q (.ref l) H'
theorem ok_word (G : Gs K w mg) : Dg P w K mg base 1 "_law_word" ["_law_parts_here", "_law_tack"] spWordL := by
  refine dg_of G.f_l_word sc_l_word (fun _ _ _ _ _ _ us hl => match us, hl with | [_, _], _ => rfl) (fun vs H Q E h => ?_) (fun cdv A outer s H vs Q E hr h => ?_)
  · obtain ⟨t, ps, m, rfl, _⟩ := h
    rfl
  · obtain ⟨t, ps, m, rfl, hS, hk, q⟩ := h
    refine ⟨_, pss_cons (ps_set (i := 2) sc_l_word.nd rfl (Or.inl rfl) (pe_lst pa_nil))
      (pss_cons (ps_for PassesOwn.never rfl (pi_tup (pv 0)) (pg_tup rfl (pgs_cons (pg_name (i := 3) sc_l_word.nd rfl (Or.inl rfl)) (pgs_cons (pg_name (i := 4) sc_l_word.nd rfl (Or.inl rfl)) pgs_nil)))
        (pss_one (ps_expr (pe_bm PySem.F.plainAttrs_list PySem.F.slot_list_extend PySem.F.type_list_extend mt_extend (pv 2) (pa_cons (pe_op op_rep (pe_lst (pa_cons (pv 3) pa_nil)) (pv 4)) pa_nil)))))
      (pss_cons (ps_if (PW.pt (pw_or (pt_cmpR op_eq (pe_callB call_len_seq (by rfl) G.z_len PySem.boot_len (pa_cons (pv 2) pa_nil)) pe_int (nomark _)) (pw_or1 (pt_cmpR op_eq (pv 1) pe_str (nomark _))))) (pss_one (ps_ret (pv 2))) pss_nil)
      (pss_cons (ps_if (pt_cmpR op_eq (pv 1) pe_str (nomark _)) (pss_one (ps_ret (pe_op op_cat (pv 2) (pe_revL (pe_slice sl_list (pv 2) (po_some pe_int) (po_some (pe_un un_neg pe_int))))))) pss_nil)
      (pss_cons (ps_if (pt_cmpR op_eq (pv 1) pe_str (nomark _)) (pss_one (ps_ret (pe_op op_cat (pv 2) (pe_revL (pv 2))))) pss_nil)
      (pss_cons (ps_if (pt_cmpR op_eq (pv 1) pe_str (nomark _)) (pss_one (ps_ret (pe_op op_cat (pv 2) (pe_revL (pe_slice sl_list (pv 2) (po_some pe_int) po_none))))) pss_nil)
      (pss_one (ps_ret (pe_op op_cat (pv 2) (pe_revL (pe_slice sl_list (pv 2) po_none (po_some (pe_un un_neg pe_int)))))))))))), ?_⟩
    refine ⟨Nat.zero_le _, fun l hl => ?_⟩
    obtain ⟨as, ht, hp⟩ := id hS
    have s2 : Same H (upd H l (.lst [])) := same_upd hl
    have htl : t ≠ l := ne_of_none ht hl
    have hlen : (as.map V.ref).length = ps.length := by rw [List.length_map, hp.len]
    have htot := expand_len hk.sh
    have hsum := hk.sum
    have hsp := sum_pos hk.sh
    have hne := hk.ne
    refine ⟨_, rfl, t, rfl, ⟨_, SqT.of (same_upd hl _ _ ht)⟩, ?_⟩
    refine for_it (walk_tup (xs := as.map V.ref)) (fun i σ H' => ∃ y3 y4, σ = [some (.ref t), some (.str m), some (.ref l), y3, y4] ∧ Same H H' ∧ H' l = some (.lst ((expand (ps.take i)).map V.str))) ⟨none, none, rfl, s2, upd_same⟩ (fun i σ H' _ p => ?_) (fun i x σ H2 H3 hi p y => ?_) (fun σ H' p => ?_)
    · obtain ⟨_, _, _, s3, _⟩ := p
      exact SqT.of (s3 _ _ ht)
    · obtain ⟨y3, y4, rfl, s3, e3⟩ := p
      obtain ⟨rfl, hx⟩ := y
      obtain ⟨a, ha, rfl⟩ := map_at hx
      obtain ⟨⟨z, n⟩, hps, hat⟩ := hp.get ha
      have hmem := List.mem_of_getElem? hps
      obtain ⟨hz, hn⟩ := hk.sh _ hmem
      have hn' : 1 ≤ n := hn
      have h6 : ∀ j, ((ps.map (·.2)).take j).sum ≤ (ps.map (·.2)).sum := sum_take_le (fun x hx => by
        obtain ⟨p, hp', rfl⟩ := List.mem_map.mp hx
        exact (hk.sh p hp').2)
      have h5 : ((ps.map (·.2)).take (i + 1)).sum = ((ps.map (·.2)).take i).sum + n := sum_take (by rw [List.getElem?_map, hps]; rfl)
      have h7 := expand_len (ps := ps.take i) fun p hp => hk.sh p (List.mem_of_mem_take hp)
      rw [List.map_take] at h7
      have h8 := h6 (i + 1)
      have hn2 : n ≤ 240 := by omega
      refine ⟨a, _, rfl, SqT.of (s3 _ _ hat), rfl, _, _, rfl, _, _, rfl, rfl, ?_⟩
      refine ⟨_, rfl, .inl ⟨rfl, _, SqL.of e3⟩, _, rfl, (by show 1 ≤ sizeLine; decide), fun u hu => ?_⟩
      refine ⟨_, rfl, u, n, _, rfl, rfl, upd_same, by omega, by omega, sz_of (by show 1 * n.toNat ≤ 100000; omega), fun v hv => ?_⟩
      have nul : l ≠ u := ne_of_none e3 hu
      have e4 : (upd H3 u (.lst [.str z])) l = some (.lst ((expand (ps.take i)).map V.str)) := by rw [upd_ne nul]; exact e3
      have nvl : l ≠ v := ne_of_none e4 hv
      refine ⟨l, v, _, _, rfl, rfl, by rw [upd_ne nvl]; exact e4, upd_same, ?_, ?_⟩
      · rw [List.length_map, List.length_flatten, List.map_replicate, List.sum_replicate_nat]
        exact sz_of (by show (expand (ps.take i)).length + n.toNat * 1 ≤ 100000; omega)
      · refine ⟨_, _, rfl, Same.mut ((s3.trans (same_upd hu)).trans (same_upd hv)) hl, ?_⟩
        rw [upd_same, take_snoc hps, expand_snoc, List.map_append, List.map_replicate]
        congr 3
        show (List.replicate n.toNat [V.str z]).flatten = List.replicate n.toNat (V.str z)
        exact List.flatten_replicate_singleton
    · obtain ⟨y3, y4, rfl, s3, e3⟩ := p
      rw [hlen, List.take_of_length_le (Nat.le_refl _)] at e3
      have hsh := expand_sh hk.sh
      have hw1 : 1 ≤ (expand ps).length := by omega
      have hw2 : (expand ps).length ≤ 240 := by omega
      generalize expand ps = ws at *
      refine ⟨_, rfl, l, _, rfl, .inl (SqL.of e3), rfl, _, rfl, ?_⟩
      refine iteB (fun _ => iteT ⟨_, rfl, q _ l ws s3 ⟨e3, hw1, by omega, hsh⟩⟩) (fun _ => ?_)
      refine ⟨_, rfl, rfl, _, rfl, ?_⟩
      refine iteB (fun _ => ⟨_, rfl, q _ l ws s3 ⟨e3, hw1, by omega, hsh⟩⟩) (fun _ => ?_)
      refine ⟨_, rfl, rfl, _, rfl, ?_⟩
      refine iteB (fun _ => ?_) (fun _ => ?_)
      · refine ⟨_, rfl, _, rfl, 1, rfl, _, rfl, _, rfl, l, _, rfl, SqL.of e3, fun p1 h1 => ?_⟩
        have s4 := same_upd (o := .lst (cutV (ws.map V.str) (some 1) (some (-1)))) h1
        refine ⟨p1, _, rfl, SqL.of upd_same, fun p2 h2 => ?_⟩
        rw [cutV_map, ← List.map_reverse] at *
        have s5 := same_upd (o := .lst ((cutG ws (some 1) (some (-1))).reverse.map V.str)) h2
        have hc := cutG_len ws (some 1) (some (-1))
        refine ⟨l, p2, _, _, rfl, rfl, s5 _ _ (s4 _ _ e3), upd_same, sz_of (by rw [List.length_map, List.length_map, List.length_reverse]; omega), fun p3 h3 => ?_⟩
        exact q _ p3 _ (((s3.trans s4).trans s5).trans (same_upd h3)) (wdOk_app hw1 hw2 (by rw [List.length_reverse]; exact hc) hsh fun x hx => cutG_mem (List.mem_reverse.mp hx))
      · refine ⟨_, rfl, rfl, _, rfl, ?_⟩
        refine iteB (fun _ => ?_) (fun _ => ?_)
        · refine ⟨_, rfl, _, rfl, l, _, rfl, SqL.of e3, fun p2 h2 => ?_⟩
          rw [← List.map_reverse] at *
          have s5 := same_upd (o := .lst (ws.reverse.map V.str)) h2
          refine ⟨l, p2, _, _, rfl, rfl, s5 _ _ e3, upd_same, sz_of (by rw [List.length_map, List.length_map, List.length_reverse]; omega), fun p3 h3 => ?_⟩
          exact q _ p3 _ ((s3.trans s5).trans (same_upd h3)) (wdOk_app hw1 hw2 (by rw [List.length_reverse]; exact Nat.le_refl _) hsh fun x hx => List.mem_reverse.mp hx)
        · refine ⟨_, rfl, rfl, _, rfl, ?_⟩
          refine iteB (fun _ => ?_) (fun _ => ?_)
          · refine ⟨_, rfl, _, rfl, 1, rfl, l, _, rfl, SqL.of e3, fun p1 h1 => ?_⟩
            have s4 := same_upd (o := .lst (cutV (ws.map V.str) (some 1) none)) h1
            refine ⟨p1, _, rfl, SqL.of upd_same, fun p2 h2 => ?_⟩
            rw [cutV_map, ← List.map_reverse] at *
            have s5 := same_upd (o := .lst ((cutG ws (some 1) none).reverse.map V.str)) h2
            have hc := cutG_len ws (some 1) none
            refine ⟨l, p2, _, _, rfl, rfl, s5 _ _ (s4 _ _ e3), upd_same, sz_of (by rw [List.length_map, List.length_map, List.length_reverse]; omega), fun p3 h3 => ?_⟩
            exact q _ p3 _ (((s3.trans s4).trans s5).trans (same_upd h3)) (wdOk_app hw1 hw2 (by rw [List.length_reverse]; exact hc) hsh fun x hx => cutG_mem (List.mem_reverse.mp hx))
          · refine ⟨_, rfl, _, rfl, _, rfl, _, rfl, l, _, rfl, SqL.of e3, fun p1 h1 => ?_⟩
            have s4 := same_upd (o := .lst (cutV (ws.map V.str) none (some (-1)))) h1
            refine ⟨p1, _, rfl, SqL.of upd_same, fun p2 h2 => ?_⟩
            rw [cutV_map, ← List.map_reverse] at *
            have s5 := same_upd (o := .lst ((cutG ws none (some (-1))).reverse.map V.str)) h2
            have hc := cutG_len ws none (some (-1))
            refine ⟨l, p2, _, _, rfl, rfl, s5 _ _ (s4 _ _ e3), upd_same, sz_of (by rw [List.length_map, List.length_map, List.length_reverse]; omega), fun p3 h3 => ?_⟩
            exact q _ p3 _ (((s3.trans s4).trans s5).trans (same_upd h3)) (wdOk_app hw1 hw2 (by rw [List.length_reverse]; exact hc) hsh fun x hx => cutG_mem (List.mem_reverse.mp hx))
end
end SL
set_option Elab.async false
set_option linter.all false
set_option maxRecDepth 100000
set_option maxHeartbeats 4000000
namespace SL
open PySem PySem.Spec PyProof.Rows L2 He
section
variable {P : Program} {w : World} {K : PySem.W.Frag} {mg : Str → Option Value} {base : Heap}
/-! ### round -/
def spRound : Sp := fun vs H Q _ => ∃ (l : Addr) (ws : List Str), vs = [.ref l] ∧ WdOk H l ws ∧ ∀ H' l' us, Same H H' → WdOk H' l' us → Q (.ref l') H'
theorem WdOk.same {H H' : Hp} {l : Addr} {ws : List Str} (h : WdOk H l ws) (s : Same H H') : WdOk H' l ws := ⟨s _ _ h.at_, h.pos, h.le, h.sh⟩
theorem ok_round (G : Gs K w mg) : Dg P w K mg base 1 "_law_round" ["_law_words"] spRound := by
  refine dg_of G.f_l_round sc_l_round (fun _ _ _ _ _ _ us hl => match us, hl with | [_], _ => rfl) (fun vs H Q E h => ?_) (fun cdv A outer s H vs Q E hr h => ?_)
  · obtain ⟨l, ws, rfl, _⟩ := h
    rfl
  · obtain ⟨l, ws, rfl, hW, q⟩ := h
    refine ⟨_, pss_cons (ps_for PassesOwn.never rfl (pi_range2 (by rfl) G.z_range (pa_cons pe_int (pa_cons (pe_callB call_len_seq (by rfl) G.z_len PySem.boot_len (pa_cons (pv 0) pa_nil)) pa_nil))) (pg_name (i := 1) sc_l_round.nd rfl (Or.inl rfl))
        (pss_one (ps_if (PW.pt (pw_and (pt_cmpR op_eq (pe_op op_mod (pe_callB call_len_seq (by rfl) G.z_len PySem.boot_len (pa_cons (pv 0) pa_nil)) (pv 1)) pe_int (nomark _))
            (pw_and1 (pt_cmpR (op_eqLS hr.units) (pe_op op_rep (pe_slice sl_list (pv 0) po_none (po_some (pv 1))) (pe_op op_fdiv (pe_callB call_len_seq (by rfl) G.z_len PySem.boot_len (pa_cons (pv 0) pa_nil)) (pv 1))) (pv 0) (nomark _)))))
          (pss_one (ps_ret (pe_slice sl_list (pv 0) po_none (po_some (pv 1))))) pss_nil)))
      (pss_one (ps_ret (pv 0))), ?_⟩
    have hl : (ws.map V.str).length = ws.length := List.length_map _
    obtain ⟨e0, w1, w2, hsh⟩ := id hW
    refine ⟨_, rfl, l, _, rfl, .inl (SqL.of e0), ?_⟩
    rw [hl]
    refine ⟨1, (ws.length : Int), rfl, ⟨by omega, by omega, by omega, by omega⟩, ?_⟩
    rw [show ((ws.length : Int) - 1).toNat = ws.length - 1 by omega]
    refine for_it walk_range1 (fun i σ H1 => ∃ y1, σ = [some (.ref l), y1] ∧ Same H H1) ⟨none, rfl, Same.refl H⟩ (fun _ _ _ _ _ => trivial) (fun i x σ H1 H2 hi p y => ?_) (fun σ H1 p => ?_)
    · obtain ⟨y1, rfl, s1⟩ := p
      obtain ⟨rfl, hx⟩ := y
      replace hx : x = V.int ((1 + i : Nat) : Int) := hx
      subst hx
      have e1 := s1 _ _ e0
      refine ⟨_, rfl, l, _, rfl, .inl (SqL.of e1), ?_⟩
      rw [hl]
      refine ⟨_, rfl, (ws.length : Int), ((1 + i : Nat) : Int), rfl, rfl, (show (0 : Int) < ((1 + i : Nat) : Int) by omega), rfl, _, rfl, ?_⟩
      have out : ∃ y1 : Option V, [some (V.ref l), some (V.int ((1 + i : Nat) : Int))] = [some (V.ref l), y1] := ⟨_, rfl⟩
      refine iteB (fun hb => ?_) (fun hb => ?_)
      · refine ⟨_, rfl, _, rfl, _, rfl, l, _, rfl, SqL.of e1, fun p1 h1 => ?_⟩
        rw [cutV_map, cutG_take]
        have s2 := same_upd (o := .lst ((ws.take (1 + i)).map V.str)) h1
        refine ⟨_, rfl, l, _, rfl, .inl (SqL.of (s2 _ _ e1)), ?_⟩
        rw [hl]
        refine ⟨_, rfl, (ws.length : Int), ((1 + i : Nat) : Int), rfl, rfl, ⟨by omega, by omega⟩, ?_⟩
        obtain ⟨kk, hkk⟩ : ∃ kk : Nat, kk = ws.length / (1 + i) := ⟨_, rfl⟩
        have ed : (ws.length : Int) / ((1 + i : Nat) : Int) = (kk : Int) := by
          rw [hkk]
          exact (Int.natCast_ediv _ _).symm
        have hdl : kk ≤ ws.length := by
          rw [hkk]
          exact Nat.div_le_self _ _
        have htk : (ws.take (1 + i)).length ≤ 480 := by rw [List.length_take]; omega
        refine ⟨p1, (kk : Int), _, rfl, (by show V.int ((ws.length : Int) / ((1 + i : Nat) : Int)) = V.int _; rw [ed]), upd_same, by omega, by omega, ?_, fun p2 h2 => ?_⟩
        · rw [List.length_map, Int.toNat_natCast]
          exact Nat.le_trans (Nat.mul_le_mul htk (Nat.le_trans hdl w2)) (show 480 * 480 ≤ sizeLine by decide)
        · rw [Int.toNat_natCast, rep_map0]
          have s3 := same_upd (o := .lst ((List.replicate kk (ws.take (1 + i))).flatten.map V.str)) h2
          have s23 := s2.trans s3
          refine ⟨_, rfl, p2, l, _, ws, rfl, rfl, SqL.of upd_same, SqL.of (s23 _ _ e1), fun x hx => hsh x (List.mem_of_mem_take (rep_mem0 hx)), hsh, _, rfl, ?_⟩
          refine iteB (fun _ => ?_) (fun _ => ?_)
          · refine ⟨_, rfl, _, rfl, _, rfl, l, _, rfl, SqL.of (s23 _ _ e1), fun p3 h3 => ?_⟩
            rw [cutV_map, cutG_take]
            exact q _ p3 _ ((s1.trans s23).trans (same_upd h3)) ⟨upd_same, by rw [List.length_take]; omega, htk, fun x hx => hsh x (List.mem_of_mem_take hx)⟩
          · exact ⟨_, rfl, s1.trans s23⟩
      · exact iteF ⟨_, rfl, s1⟩
    · obtain ⟨y1, rfl, s1⟩ := p
      exact ⟨_, rfl, q _ l ws s1 (hW.same s1)⟩
end
end SL
set_option Elab.async false
set_option linter.all false
set_option maxRecDepth 100000
set_option maxHeartbeats 4000000
namespace SL
open PySem PySem.Spec PyProof.Rows L2 He
theorem WdOk.kp {pl : Addr} {H H' : Hp} {l : Addr} {ws : List Str} (h : WdOk H l ws) (n : l ≠ pl) (k : Kp pl H H') : WdOk H' l ws := ⟨k.keep _ _ n h.at_, h.pos, h.le, h.sh⟩
def rLenQ (K : PySem.W.Frag) : List V → Hp → VK → Prop := fun xs H Q => ∃ p ys, xs = [.ref p] ∧ (SqL K H p ys ∨ SqT K H p ys) ∧ Q (.int (ys.length : Nat)) H
theorem call_len_q {X : Cx} {KK : PySem.W.Frag} (hK : X.K = KK := by rfl) : CallR X (.builtin "len") (rLenQ KK) := by
  subst hK
  exact call_len_seq
section
variable {P : Program} {w : World} {K : PySem.W.Frag} {mg : Str → Option Value} {base : Heap}
/-! ### drawn -/
def spDrawn (K : PySem.W.Frag) : Sp := fun vs H Q _ => ∃ pl : Addr, vs = [.ref pl, .int 4, .int 3] ∧ PoolAt H pl ∧ ∀ H' T r l ts, Kp pl H H' → H' T = some (.tup [.ref r, .ref l]) → ObA K "Row" H' r ts → RowOk ts → Q (.ref T) H'
theorem ok_drawn (G : Gs K w mg) : Dg P w K mg base 8 "_law_drawn" ["_law_pool_here", "_law_upto", "_law_wide"] (spDrawn K) := by
  have DT : Dg P w K mg base 1 "_law_take" ["_law_pool_here", "_law_many"] spTake := ok_take G
  have DP : Dg P w K mg base 3 "_law_parts" ["_law_pool_here", "_law_upto", "_law_wide"] spParts := ok_parts G
  have DF : Dg P w K mg base 2 "_law_far" ["_law_pool_here", "_law_size"] spFar := ok_far G
  have DW : Dg P w K mg base 1 "_law_word" ["_law_parts_here", "_law_tack"] spWordL := ok_word G
  have DR : Dg P w K mg base 1 "_law_round" ["_law_words"] spRound := ok_round G
  obtain ⟨fdI, FI, _, hbI⟩ := ok_R_init (P := P) (base := base) G
  refine dg_of G.f_l_drawn sc_l_drawn (fun _ _ _ _ _ _ us hl => match us, hl with | [_, _, _], _ => rfl) (fun vs H Q E h => ?_) (fun cdv A outer s H vs Q E hr h => ?_)
  · obtain ⟨pl, rfl, _⟩ := h
    rfl
  · obtain ⟨pl, rfl, hP, q⟩ := h
    have hr1 := hr.mono (show 1 ≤ 7 by decide)
    have hr2 := hr.mono (show 2 ≤ 7 by decide)
    have hr3 := hr.mono (show 3 ≤ 7 by decide)
    refine ⟨_, pss_cons (ps_set (i := 3) sc_l_drawn.nd rfl (Or.inl rfl) (pe_dg DP hr3 (pa_cons (pv 0) (pa_cons (pv 1) (pa_cons (pv 2) pa_nil)))))
      (pss_cons (ps_set (i := 4) sc_l_drawn.nd rfl (Or.inl rfl) (pe_ix ix_list (pe_lst (pa_cons pe_str (pa_cons pe_str (pa_cons pe_str (pa_cons pe_str (pa_cons pe_str (pa_cons pe_str pa_nil))))))) (pe_dg DT hr1 (pa_cons (pv 0) (pa_cons pe_int pa_nil))) (fun _ _ => rfl)))
      (pss_cons (ps_set (i := 5) sc_l_drawn.nd rfl (Or.inr rfl) (pe_ix ix_list (pe_lst (pa_cons pe_int (pa_cons (pe_op op_sub (pe_dg DT hr1 (pa_cons (pv 0) (pa_cons pe_int pa_nil))) pe_int) (pa_cons (pe_dg DF hr2 (pa_cons (pv 0) (pa_cons pe_int pa_nil))) pa_nil)))) (pe_dg DT hr1 (pa_cons (pv 0) (pa_cons pe_int pa_nil))) (fun _ _ => rfl)))
      (pss_cons (ps_set (i := 6) sc_l_drawn.nd rfl (Or.inr rfl) (pe_dg DR hr1 (pa_cons (pe_dg DW hr1 (pa_cons (pv 3) (pa_cons (pv 4) pa_nil))) pa_nil)))
      (pss_one (ps_ret (pe_tup (pa_cons (pe_make G.row.mkr FI hr (by rfl) G.row.gl hbI .nil pass0 (pa_cons (pv 3) (pa_cons (pv 4) (pa_cons (pv 5) pa_nil))))
        (pa_cons (pe_lc (own := [("_law_at", 7)]) (g := gName 7) rfl sc_l_drawn.nd (pi_range1 (by rfl) G.z_range (pa_cons (pe_callB call_len_seq (by rfl) G.z_len PySem.boot_len (pa_cons (pv 6) pa_nil)) pa_nil)) (blkOk_by (N := ["_law_pool_here", "_law_upto", "_law_wide", "_law_parts_here", "_law_tack", "_law_begun", "_law_words", "_law_at"]) (sc := defScope s_l_drawn) (by decide +kernel))
          (fun _ _ _ _ _ => pg_name (i := 7) sc_l_drawn.nd rfl (Or.inl rfl)) (fun _ _ _ _ _ => pts_nil)
          (fun _ _ _ _ _ => pe_ix (r := rIxL K) ix_list (pv 6) (pe_op op_mod (pe_op op_add (pv 7) (pv 5)) (pe_callB (call_len_q (KK := K)) (by rfl) G.z_len PySem.boot_len (pa_cons (pv 6) pa_nil))) (fun _ _ => rfl))) pa_nil)))))))), ?_⟩
    refine ⟨_, rfl, _, rfl, _, rfl, pl, rfl, hP, fun H1 t ps k1 hS hk => ?_⟩
    -- the manner
    refine ⟨(show 6 ≤ sizeLine by decide), fun l2 hl2 => ?_⟩
    have s2 := same_upd (o := .lst [V.str "run", V.str "run", V.str "pivot", V.str "fold", V.str "left", V.str "right"]) hl2
    refine ⟨_, rfl, pl, 6, rfl, k1.p1.same s2, ⟨by decide, by decide⟩, fun H3 d hd k3 => ?_⟩
    have e3 : H3 l2 = some (.lst [V.str "run", V.str "run", V.str "pivot", V.str "fold", V.str "left", V.str "right"]) := k3.keep _ _ (k1.p1.new hl2) upd_same
    have hmm : ∃ m : Str, atI [V.str "run", V.str "run", V.str "pivot", V.str "fold", V.str "left", V.str "right"] (d : Int) = some (.str m) ∧ m ∈ manners := by
      rcases (show d = 0 ∨ d = 1 ∨ d = 2 ∨ d = 3 ∨ d = 4 ∨ d = 5 by omega) with rfl | rfl | rfl | rfl | rfl | rfl
      · exact ⟨_, rfl, by decide +kernel⟩
      · exact ⟨_, rfl, by decide +kernel⟩
      · exact ⟨_, rfl, by decide +kernel⟩
      · exact ⟨_, rfl, by decide +kernel⟩
      · exact ⟨_, rfl, by decide +kernel⟩
      · exact ⟨_, rfl, by decide +kernel⟩
    obtain ⟨m, hat, hm⟩ := hmm
    refine ⟨l2, _, (d : Int), _, rfl, rfl, SqL.of e3, hat, ?_⟩
    have k13 := (k1.same s2).trans k3
    have hS3 := (hS.same s2).kp k3
    -- the beginning
    refine ⟨_, rfl, pl, 20, rfl, k13.p1, ⟨by decide, by decide⟩, fun H4 a ha k4 => ?_⟩
    refine ⟨(a : Int), 9, rfl, rfl, _, rfl, pl, 30, rfl, k4.p1, ⟨by decide, by decide⟩, fun H5 f hf _ k5 => ?_⟩
    refine ⟨(show 3 ≤ sizeLine by decide), fun l6 hl6 => ?_⟩
    have s6 := same_upd (o := .lst [V.int 0, V.int ((a : Int) - 9), V.int f]) hl6
    refine ⟨_, rfl, pl, 3, rfl, k5.p1.same s6, ⟨by decide, by decide⟩, fun H7 b hb k7 => ?_⟩
    have e7 : H7 l6 = some (.lst [V.int 0, V.int ((a : Int) - 9), V.int f]) := k7.keep _ _ (k5.p1.new hl6) upd_same
    have hbb : ∃ x : Int, atI [V.int 0, V.int ((a : Int) - 9), V.int f] (b : Int) = some (.int x) ∧ (-(10 ^ 30) ≤ x ∧ x ≤ 10 ^ 30) := by
      rcases (show b = 0 ∨ b = 1 ∨ b = 2 by omega) with rfl | rfl | rfl
      · exact ⟨_, rfl, by decide, by decide⟩
      · exact ⟨_, rfl, by omega, by omega⟩
      · exact ⟨_, rfl, hf⟩
    obtain ⟨x, hatb, hx⟩ := hbb
    refine ⟨l6, _, (b : Int), _, rfl, rfl, SqL.of e7, hatb, ?_⟩
    have k37 := ((k4.trans k5).same s6).trans k7
    have hS7 := hS3.kp k37
    have k17 := k13.trans k37
    -- the words
    refine ⟨_, rfl, _, rfl, t, ps, m, rfl, hS7, hk.toStOk, fun H8 lw ws s8 hw => ?_⟩
    refine ⟨lw, ws, rfl, hw, fun H9 lu us s9 hu => ?_⟩
    have s79 := s8.trans s9
    have hS9 := hS7.same s79
    refine ⟨_, rfl, _, rfl, _, rfl, ?_⟩
    intro z dz nz ndz ne
    have s10 : Same H9 (upd (upd H9 dz (.own z)) z (.ins (ga K "Row") dz [])) := fun c o e => by
      rw [upd_ne (ne_of_none e nz), upd_ne (ne_of_none e ndz)]
      exact e
    have hfew := hk.few
    refine ⟨z, dz, t, ps, m, x, rfl, upd_same, hS9.same s10, hk.toStOk, hm, hx, .inr (by omega), fun H11 rs k11 ob rk hwq => ⟨rfl, ?_⟩⟩
    have s11 : Same H9 H11 := fun c o e => k11 c o (s10 _ _ e) (ne_of_none e nz)
    have hu11 := hu.same s11
    obtain ⟨eu, u1, u2, hsh⟩ := id hu11
    have hlu : (us.map V.str).length = us.length := List.length_map _
    refine ⟨_, rfl, lu, _, rfl, .inl (SqL.of eu), ?_⟩
    rw [hlu]
    refine ⟨_, rfl, by omega, by omega, fun D hD => ?_⟩
    rw [show (((us.length : Nat) : Int)).toNat = us.length from Int.toNat_natCast _]
    refine lc_map walk_range0 (fun i : Nat => .str (cy us ((i : Int) + x))) hD (by omega) (fun _ _ => trivial) yn_same (fun _ => rfl) (fun i y H12 hi s12 hy Q1 k => ?_) (fun H12 s12 e12 => ?_)
    · obtain ⟨_, _, hx4⟩ := hy
      replace hx4 : y = V.int (i : Int) := hx4
      subst hx4
      refine ⟨_, rfl, _, rfl, _, rfl, (i : Int), x, rfl, rfl, _, rfl, lu, _, rfl, .inl (SqL.of (s12 _ _ eu)), ?_⟩
      rw [hlu]
      exact ⟨(i : Int) + x, (us.length : Int), rfl, rfl, (show (0 : Int) < (us.length : Int) by omega), lu, _, _, _, rfl, rfl, SqL.of (s12 _ _ eu), atI_cy u1 _, k _ (Same.refl _)⟩
    · refine ⟨(show 2 ≤ sizeLine by decide), fun T hT => ?_⟩
      have sT := same_upd (o := .tup [V.ref z, V.ref D]) hT
      exact q _ T z D _ ((((k17.same s79).same s11).same s12).same sT) upd_same ((ob.same s12).same sT) rk
end
end SL
set_option Elab.async false
set_option linter.all false
set_option maxRecDepth 100000
set_option maxHeartbeats 4000000
namespace SL
open PySem PySem.Spec PyProof.Rows L2 He
theorem inV_true {n : Nat} {f : Nat → Bool} : inV (.bl true) ((List.range n).map fun i => V.bl (f i)) = (List.range n).any f := by
  unfold inV
  rw [List.any_map]
  congr 1
  funext i
  show (f i == true) = f i
  cases f i <;> rfl
theorem flat_bls {n : Nat} {f : Nat → Bool} : ((List.range n).map fun i => V.bl (f i)).all flatV = true := by
  rw [List.all_eq_true]
  intro v hv
  obtain ⟨x, _, rfl⟩ := List.mem_map.mp hv
  rfl
theorem any_mem {rs : List (List Str)} {ts : List Str} : ((List.range rs.length).any fun i => decide (ts = at_ rs i)) = decide (ts ∈ rs) := by
  by_cases h : ts ∈ rs
  · rw [decide_eq_true h, List.any_eq_true]
    obtain ⟨i, hi, e⟩ := List.mem_iff_getElem.mp h
    exact ⟨i, List.mem_range.mpr hi, decide_eq_true (at_of (by rw [List.getElem?_eq_getElem hi, e])).symm⟩
  · rw [decide_eq_false h, List.any_eq_false]
    intro i hi e
    exact h (by rw [of_decide_eq_true e]; exact at_mem (List.mem_range.mp hi))
theorem inV_zero {xs : List Nat} (h : 0 ∈ xs) : inV (.int 0) (xs.map fun i : Nat => V.int (i : Int)) = true := by
  unfold inV
  rw [List.any_map, List.any_eq_true]
  exact ⟨0, h, rfl⟩
theorem flat_ints {xs : List Nat} : (xs.map fun i : Nat => V.int (i : Int)).all flatV = true := by
  rw [List.all_eq_true]
  intro v hv
  obtain ⟨x, _, rfl⟩ := List.mem_map.mp hv
  rfl
theorem there_self {ts us : List Str} (h : win ts 0 us.length = us) : there ts us 0 = true := by
  unfold there
  rw [List.all_eq_true]
  intro i hi
  refine decide_eq_true ?_
  have hi' := List.mem_range.mp hi
  have := at_win (t := ts) (b := 0) hi'
  rw [h] at this
  exact this.symm
section
variable {P : Program} {w : World} {K : PySem.W.Frag} {mg : Str → Option Value} {base : Heap}
theorem dg_can_be (G : Gs K w mg) : Dg P w K mg base 9 "can_be" ["piece", "most"] (spCanBe K) := by
  obtain ⟨fd, F, _, hb⟩ := ok_can_be (P := P) (base := base) G
  exact ⟨⟨fd, F, hb⟩, G.g_can_be, G.k_can_be⟩
/-! ### among -/
def spAmong (K : PySem.W.Frag) : Sp := fun vs H Q _ => ∃ (p l : Addr) (ts : List Str) (as : List Addr) (rs : List (List Str)), vs = [.ref p, .ref l] ∧ ObA K "Row" H p ts ∧ (∀ x ∈ ts, Shade x) ∧ H l = some (.lst (as.map V.ref)) ∧ Rws K H as rs ∧ (∀ r ∈ rs, ∀ x ∈ r, Shade x) ∧ rs.length ≤ 240 ∧ ∀ H', Same H H' → Q (.bl (decide (ts ∈ rs))) H'
theorem ok_among (G : Gs K w mg) : Dg P w K mg base 2 "_law_among" ["_law_band", "_law_bands"] (spAmong K) := by
  have D1 : Dm P w K mg base 1 "Row" "alike" ["self", "other"] (spSame K "Row") := ok_R_alike G
  refine dg_of G.f_l_among sc_l_among (fun _ _ _ _ _ _ us hl => match us, hl with | [_, _], _ => rfl) (fun vs H Q E h => ?_) (fun cdv A outer s H vs Q E hr h => ?_)
  · obtain ⟨p, l, ts, as, rs, rfl, _⟩ := h
    rfl
  · obtain ⟨p, l, ts, as, rs, rfl, hO, hts, e0, hR, hrs, hn, q⟩ := h
    refine ⟨_, pss_one (ps_ret (pe_cmpR op_in_seq pe_bl
      (pe_lc (own := [("_law_one", 2)]) (g := gName 2) rfl sc_l_among.nd (pi_list (pv 1)) (blkOk_by (N := ["_law_band", "_law_bands", "_law_one"]) (sc := defScope s_l_among) (by decide +kernel)) (fun _ _ _ _ _ => pg_name (i := 2) sc_l_among.nd rfl (Or.inl rfl)) (fun _ _ _ _ _ => pts_nil)
        (fun _ _ _ _ _ => pe_dm (C := "Row") (pv 0) G.row.cl D1 hr (pa_cons (pv 2) pa_nil))) (by rfl))), ?_⟩
    obtain ⟨dx, t, hp, ht⟩ := id hO
    have hla : (as.map V.ref).length = rs.length := by rw [List.length_map, hR.len]
    refine ⟨_, rfl, l, rfl, ⟨_, SqL.of e0⟩, fun D hD => ?_⟩
    refine lc_map (walk_list (xs := as.map V.ref)) (fun i : Nat => .bl (decide (ts = at_ rs i))) hD (by omega) (fun _ s1 => SqL.of (s1 _ _ e0)) yat_same (fun _ => rfl) (fun i x H1 hi s1 y Q1 k => ?_) (fun H1 s1 e1 => ?_)
    · obtain ⟨_, _, hx⟩ := y
      obtain ⟨a, ha, rfl⟩ := map_at hx
      obtain ⟨r, hr1, ho⟩ := hR.get ha
      refine ⟨_, rfl, p, dx, _, rfl, s1 _ _ hp, kept_no t (by decide +kernel), _, rfl, p, a, ts, r, rfl, hO.same s1, ho.same s1, ⟨hts, hrs r (List.mem_of_getElem? hr1)⟩, ?_⟩
      have e := k _ (Same.refl _)
      rw [at_of hr1] at e
      exact e
    · rw [hla] at e1
      refine ⟨D, _, rfl, .inl (SqL.of e1), rfl, flat_bls, ?_⟩
      show Q (.bl (inV (.bl true) _)) _
      rw [inV_true, any_mem]
      exact q _ s1
/-! ### shown -/
def spShown (K : PySem.W.Frag) : Sp := fun vs H Q _ => ∃ (p : Addr) (ts : List Str) (mo : Nat), vs = [.ref p, .int (mo : Int)] ∧ ObA K "Piece" H p ts ∧ Shades ts ∧ (1 ≤ mo ∧ mo ≤ ts.length) ∧ ∀ H', Same H H' → Q (.bl true) H'
theorem ok_shown (G : Gs K w mg) : Dg P w K mg base 10 "_law_shown" ["_law_piece", "_law_upto"] (spShown K) := by
  have D1 : Dg P w K mg base 9 "can_be" ["piece", "most"] (spCanBe K) := dg_can_be G
  have DF : Dg P w K mg base 3 "fits" ["row", "piece"] (spFits K) := ok_fits G
  have DC : Dg P w K mg base 6 "cut" ["row", "first", "last"] (spCut K) := ok_cut G
  have DRL : Dm P w K mg base 1 "Row" "__len__" ["self"] (spLen K "Row") := ok_R_len G
  have DPL : Dm P w K mg base 1 "Piece" "__len__" ["self"] (spLen K "Piece") := ok_P_len G
  have DE : Dm P w K mg base 1 "Piece" "__eq__" ["self", "other"] (spSame K "Piece") := ok_P_eq G
  obtain ⟨⟨fdE, FE, bE⟩, mE⟩ := DE
  refine dg_of G.f_l_shown sc_l_shown (fun _ _ _ _ _ _ us hl => match us, hl with | [_, _], _ => rfl) (fun vs H Q E h => ?_) (fun cdv A outer s H vs Q E hr h => ?_)
  · obtain ⟨p, ts, mo, rfl, _⟩ := h
    rfl
  · obtain ⟨p, ts, mo, rfl, hO, hs, ⟨m1, m2⟩, q⟩ := h
    have hr2 := hr.mono (show 2 ≤ 9 by decide)
    have hr3 := hr.mono (show 3 ≤ 9 by decide)
    have hr6 := hr.mono (show 6 ≤ 9 by decide)
    refine ⟨_, pss_cons (ps_set (i := 2) sc_l_shown.nd rfl (Or.inl rfl) (pe_dg D1 hr (pa_cons (pv 0) (pa_cons (pv 1) pa_nil))))
      (pss_cons (ps_set (i := 3) sc_l_shown.nd rfl (Or.inl rfl) pe_int)
      (pss_cons (ps_for PassesOwn.never rfl (pi_list (pv 2)) (pg_name (i := 4) sc_l_shown.nd rfl (Or.inl rfl))
        (pss_cons (ps_if (PW.pt (pw_or (pt_cmpR op_le (pe_callB (call_lenD DRL hr2) (by rfl) G.z_len PySem.boot_len (pa_cons (pv 4) pa_nil)) (pv 3) (nomark _))
            (pw_or (pt_cmpR op_gt (pe_callB (call_lenD DRL hr2) (by rfl) G.z_len PySem.boot_len (pa_cons (pv 4) pa_nil)) (pv 1) (nomark _))
            (pw_or1 (pt_cmpR op_notIn_seq pe_int (pe_dg DF hr3 (pa_cons (pv 4) (pa_cons (pv 0) pa_nil))) (by rfl)))))) (pss_one (ps_ret pe_bl)) pss_nil)
        (pss_cons (ps_if (pt_cmpR (op_neI FE hr2 mE bE G.neP G.pie.isi.hm) (pe_dg DC hr6 (pa_cons (pv 4) (pa_cons pe_int (pa_cons (pe_op op_sub (pe_callB (call_lenD DPL hr2) (by rfl) G.z_len PySem.boot_len (pa_cons (pv 0) pa_nil)) pe_int) pa_nil)))) (pv 0) (nomark _)) (pss_one (ps_ret pe_bl)) pss_nil)
        (pss_one (ps_set (i := 3) sc_l_shown.nd rfl (Or.inl rfl) (pe_callB (call_lenD DRL hr2) (by rfl) G.z_len PySem.boot_len (pa_cons (pv 4) pa_nil)))))))
      (pss_one (ps_ret pe_bl)))), ?_⟩
    have h1 := hs.pos
    have h2 := hs.le
    refine ⟨_, rfl, _, rfl, p, ts, .int (mo : Int), mo, rfl, hO, hs, .inr rfl, ⟨m1, m2⟩, fun H1 l as s1 e1 hR => ?_⟩
    refine ⟨_, rfl, l, rfl, ⟨_, SqL.of e1⟩, ?_⟩
    have hlr : (as.map V.ref).length = (ds ts mo).length := by rw [List.length_map, hR.len, List.length_map]
    refine for_it (walk_list (xs := as.map V.ref)) (fun i σ H2 => ∃ (la : Nat) (y4 : Option V), σ = [some (.ref p), some (.int (mo : Int)), some (.ref l), some (.int (la : Int)), y4] ∧ Same H1 H2 ∧ ∀ d, (ds ts mo)[i]? = some d → la < d)
      ⟨0, none, rfl, Same.refl _, fun d hd => (mem_ds.mp (List.mem_of_getElem? hd)).1.1⟩ (fun i σ H2 _ p' => ?_) (fun i x σ H2 H3 hi p' y => ?_) (fun σ H2 p' => ?_)
    · obtain ⟨_, _, _, s2, _⟩ := p'
      exact SqL.of (s2 _ _ e1)
    · obtain ⟨la, y4, rfl, s2, hla⟩ := p'
      obtain ⟨rfl, hx⟩ := y
      obtain ⟨a, ha, rfl⟩ := map_at hx
      obtain ⟨r, hr1, ho⟩ := hR.get ha
      rw [List.getElem?_map] at hr1
      obtain ⟨d, hd, rfl⟩ := Option.map_eq_some_iff.mp hr1
      have hdm := List.mem_of_getElem? hd
      obtain ⟨⟨d1, d2⟩, _, _⟩ := mem_ds.mp hdm
      have hl : (ts.take d).length = d := by rw [List.length_take]; omega
      have hlt := hla d hd
      have ho2 := ho.same s2
      obtain ⟨dx, t0, hp, ht0⟩ := id ho2
      have hsh : ∀ x ∈ ts.take d, Shade x := fun x hx => hs.sh x (List.mem_of_mem_take hx)
      refine ⟨_, rfl, a, dx, _, rfl, hp, a, _, rfl, ho2, (ts.take d).length, rfl, by omega, ?_⟩
      rw [hl]
      refine ⟨_, rfl, (d : Int), (la : Int), rfl, rfl, _, rfl, iteFe (decide_eq_false (by omega)) ?_⟩
      refine ⟨_, rfl, a, dx, _, rfl, hp, a, _, rfl, ho2, (ts.take d).length, rfl, by omega, ?_⟩
      rw [hl]
      refine ⟨_, rfl, (d : Int), (mo : Int), rfl, rfl, _, rfl, iteFe (decide_eq_false (by omega)) ?_⟩
      refine ⟨_, rfl, _, rfl, a, p, _, ts, rfl, ho2, hO.same (s1.trans s2), ⟨by omega, by omega⟩, h2, fun H4 t s4 e4 => ?_⟩
      have hth : there (ts.take d) ts ((0 : Nat) : Int) = true := there_self (shown m2 hdm)
      have hin : 0 ∈ (List.range (ts.take d).length).filter fun i : Nat => there (ts.take d) ts (i : Int) := List.mem_filter.mpr ⟨List.mem_range.mpr (by omega), hth⟩
      refine ⟨t, _, rfl, .inr (SqT.of e4), rfl, flat_ints, _, rfl, iteFe (b := !inV (.int 0) _) (by rw [inV_zero hin]; rfl) ?_⟩
      have hO4 := hO.same ((s1.trans s2).trans s4)
      have ho4 := ho2.same s4
      obtain ⟨dy, t1, hp4, ht4⟩ := id hO4
      refine ⟨_, rfl, _, rfl, p, dy, _, rfl, hp4, p, ts, rfl, hO4, ts.length, rfl, by omega, ?_⟩
      refine ⟨(ts.length : Int), 1, rfl, rfl, a, _, 0, (ts.length : Int) - 1, rfl, ho4, ⟨by omega, by omega, hsh⟩, ⟨by omega, by omega, by omega, by omega⟩, fun H5 b s5 ob => ?_⟩
      rw [show ((ts.length : Int) - 1 + 1 - 0).toNat = ts.length by omega, shown m2 hdm] at ob
      have hO5 := hO4.same s5
      obtain ⟨dz, t2, hb5, _⟩ := id ob
      obtain ⟨dw, t3, hp5, _⟩ := id hO5
      refine ⟨_, rfl, b, p, dz, dw, _, _, rfl, rfl, hb5, hp5, b, p, ts, ts, rfl, ob, hO5, ⟨hs.sh, hs.sh⟩, _, rfl, _, rfl, iteFe (b := !decide (ts = ts)) (by rw [decide_eq_true rfl]; rfl) ?_⟩
      have ho5 := ho4.same s5
      obtain ⟨dv, t4, ha5, _⟩ := id ho5
      refine ⟨_, rfl, a, dv, _, rfl, ha5, a, _, rfl, ho5, (ts.take d).length, rfl, by omega, ?_⟩
      rw [hl]
      refine ⟨d, _, rfl, (s2.trans s4).trans s5, fun d' hd' => ?_⟩
      have hpw := ds_lt ts mo
      obtain ⟨hi1, ed⟩ := List.getElem?_eq_some_iff.mp hd
      obtain ⟨hi2, ed'⟩ := List.getElem?_eq_some_iff.mp hd'
      rw [← ed, ← ed']
      exact List.pairwise_iff_getElem.mp hpw i (i + 1) hi1 hi2 (Nat.lt_succ_self i)
    · obtain ⟨_, _, rfl, s2, _⟩ := p'
      exact q _ (s1.trans s2)
end
end SL
set_option Elab.async false
set_option linter.all false
set_option maxRecDepth 100000
set_option maxHeartbeats 4000000
namespace SL
open PySem PySem.Spec PyProof.Rows L2 He
theorem q_true {Q : VK} {H : Hp} {b : Bool} (hb : b = true) (h : Q (.bl true) H) : Q (.bl b) H := by
  rw [hb]
  exact h
theorem add1 (d : Nat) : (1 : Int) + (d : Int) = ((1 + d : Nat) : Int) := by omega
/-- the rounds a piece can have, as rows -/
def rows (ts : List Str) (mo : Nat) : List (List Str) := (ds ts mo).map fun d => ts.take d
theorem rows_len {ts : List Str} {mo : Nat} : (rows ts mo).length ≤ mo := by
  unfold rows ds
  rw [List.length_map]
  have := List.length_filter_le (fun d => per ts d && decide (lr (ts.take d) = d)) (List.range' 1 mo)
  rw [List.length_range'] at this
  exact this
theorem rows_sh {ts : List Str} {mo : Nat} (h : ∀ x ∈ ts, Shade x) : ∀ r ∈ rows ts mo, ∀ x ∈ r, Shade x := fun r hr x hx => by
  obtain ⟨d, _, rfl⟩ := List.mem_map.mp hr
  exact h x (List.mem_of_mem_take hx)
theorem self_row {k : List Str} {b : Int} {m mo : Nat} (hk : RowOk k) (h1 : k.length ≤ mo) (h2 : k.length ≤ m) : win k b k.length ∈ rows (win k b m) mo :=
  List.mem_map.mpr ⟨k.length, self_mem hk.pos hk.prim h1 h2, win_take h2⟩
theorem longer_row {p l : List Str} {mo : Nat} (h1 : mo ≤ p.length) {r : List Str} (h : r ∈ rows (p ++ l) mo) : r ∈ rows p mo := by
  obtain ⟨d, hd, rfl⟩ := List.mem_map.mp h
  obtain ⟨h2, h3⟩ := longer_mem h1 hd
  exact List.mem_map.mpr ⟨d, h2, h3.symm⟩
theorem win_sh {k : List Str} {b : Int} {n : Nat} (hk : Shades k) (h1 : 1 ≤ n) (h2 : n ≤ 240) : Shades (win k b n) := ⟨by rw [win_length]; exact h1, by rw [win_length]; exact h2, fun x hx => hk.sh x (win_mem hk.pos hx)⟩
section
variable {P : Program} {w : World} {K : PySem.W.Frag} {mg : Str → Option Value} {base : Heap}
/-! ### piece_right -/
def spPieceR (K : PySem.W.Frag) : Sp := fun vs H Q _ => ∃ (pl b : Addr) (k : List Str), vs = [.ref pl, .ref b] ∧ PoolAt H pl ∧ ObA K "Row" H b k ∧ RowOk k ∧ ∀ H', Kp pl H H' → Q (.bl true) H'
theorem ok_piece_right (G : Gs K w mg) : Dg P w K mg base 11 "_law_piece_right" ["_law_pool_here", "_law_band"] (spPieceR K) := by
  have DT : Dg P w K mg base 1 "_law_take" ["_law_pool_here", "_law_many"] spTake := ok_take G
  have DF : Dg P w K mg base 2 "_law_far" ["_law_pool_here", "_law_size"] spFar := ok_far G
  have DC : Dg P w K mg base 6 "cut" ["row", "first", "last"] (spCut K) := ok_cut G
  have DB : Dg P w K mg base 9 "can_be" ["piece", "most"] (spCanBe K) := dg_can_be G
  have DA : Dg P w K mg base 2 "_law_among" ["_law_band", "_law_bands"] (spAmong K) := ok_among G
  have DS : Dg P w K mg base 10 "_law_shown" ["_law_piece", "_law_upto"] (spShown K) := ok_shown G
  have DRL : Dm P w K mg base 1 "Row" "__len__" ["self"] (spLen K "Row") := ok_R_len G
  have DRM : Dm P w K mg base 9 "Row" "moved" ["self", "by"] (spMoved K) := ok_R_moved G
  have DPT : Dm P w K mg base 1 "Piece" "threads" ["self"] (spThreads K "Piece") := ok_P_threads G
  have DJ : Dm P w K mg base 6 "Piece" "joined" ["self", "other"] (spJoined K) := ok_P_joined G
  obtain ⟨fdI, FI, bI⟩ := pe_piece (P := P) (base := base) G
  obtain ⟨fdB, FB, ⟨dsB, hdsB, hbB⟩, _⟩ := ok_can_be (P := P) (base := base) G
  refine dg_of G.f_l_piece_right sc_l_piece_right (fun _ _ _ _ _ _ us hl => match us, hl with | [_, _], _ => rfl) (fun vs H Q E h => ?_) (fun cdv A outer s H vs Q E hr h => ?_)
  · obtain ⟨pl, b, k, rfl, _⟩ := h
    rfl
  · obtain ⟨pl, b, k, rfl, hP, hO, hk, q⟩ := h
    have hr1 := hr.mono (show 1 ≤ 10 by decide)
    have hr2 := hr.mono (show 2 ≤ 10 by decide)
    have hr5 := hr.mono (show 5 ≤ 10 by decide)
    have hr6 := hr.mono (show 6 ≤ 10 by decide)
    have hr9 := hr.mono (show 9 ≤ 10 by decide)
    refine ⟨_, pss_cons (ps_set (i := 2) sc_l_piece_right.nd rfl (Or.inl rfl) (pe_ix ix_list (pe_lst (pa_cons (pe_op op_sub (pe_dg DT hr1 (pa_cons (pv 0) (pa_cons pe_int pa_nil))) pe_int) (pa_cons (pe_dg DF hr2 (pa_cons (pv 0) (pa_cons pe_int pa_nil))) pa_nil))) (pe_dg DT hr1 (pa_cons (pv 0) (pa_cons pe_int pa_nil))) (fun _ _ => rfl)))
      (pss_cons (ps_set (i := 3) sc_l_piece_right.nd rfl (Or.inl rfl) (pe_op op_add pe_int (pe_dg DT hr1 (pa_cons (pv 0) (pa_cons (pe_ix ix_list (pe_lst (pa_cons pe_int (pa_cons pe_int pa_nil))) (pe_dg DT hr1 (pa_cons (pv 0) (pa_cons pe_int pa_nil))) (fun _ _ => rfl)) pa_nil)))))
      (pss_cons (ps_set (i := 4) sc_l_piece_right.nd rfl (Or.inr rfl) (pe_dg DC hr6 (pa_cons (pv 1) (pa_cons (pv 2) (pa_cons (pe_op op_sub (pe_op op_add (pv 2) (pv 3)) pe_int) pa_nil)))))
      (pss_cons (ps_set (i := 5) sc_l_piece_right.nd rfl (Or.inr rfl) (pe_op op_add pe_int (pe_dg DT hr1 (pa_cons (pv 0) (pa_cons (pv 3) pa_nil)))))
      (pss_cons (ps_if (PW.pt (pw_or (pt_not (pt_val (pe_dg DS hr (pa_cons (pv 4) (pa_cons (pv 5) pa_nil))))) (pw_or1 (pt_not (pt_val (pe_dg DS hr (pa_cons (pv 4) (pa_cons (pv 3) pa_nil)))))))) (pss_one (ps_ret pe_bl)) pss_nil)
      (Evl.pss_cut (ps_if (PW.pt (pw_and (pt_cmpR op_le (pe_callB (call_lenD DRL hr2) (by rfl) G.z_len PySem.boot_len (pa_cons (pv 1) pa_nil)) (pv 5) (nomark _))
          (pw_and1 (pt_not (pt_val (pe_dg DA hr2 (pa_cons (pe_dm (C := "Row") (pv 1) G.row.cl DRM hr9 (pa_cons (pe_op op_sub pe_int (pv 2)) pa_nil)) (pa_cons (pe_dg DB hr9 (pa_cons (pv 4) (pa_cons (pv 5) pa_nil))) pa_nil)))))))) (pss_one (ps_ret pe_bl)) pss_nil)
      (pss_cons (ps_set (i := 6) sc_l_piece_right.nd rfl (Or.inl rfl) (pe_dm (C := "Piece") (pv 4) G.pie.cl DJ hr6 (pa_cons (pe_dg DC hr6 (pa_cons (pv 1) (pa_cons (pe_op op_add (pv 2) (pv 3)) (pa_cons (pe_op op_add (pe_op op_add (pv 2) (pv 3)) (pe_dg DT hr1 (pa_cons (pv 0) (pa_cons pe_int pa_nil)))) pa_nil)))) pa_nil)))
      (pss_cons (ps_if (pt_not (pt_val (pe_callB (cr_all rfl) (by rfl) G.z_all (by decide +kernel) (pa_cons
          (pe_lc (own := [("_law_one", 8)]) (g := gName 8) rfl sc_l_piece_right.nd (pi_list (pe_dg DB hr9 (pa_cons (pv 6) (pa_cons (pv 5) pa_nil)))) (blkOk_by (N := ["_law_pool_here", "_law_band", "_law_begun", "_law_many", "_law_piece", "_law_upto", "_law_longer", "_law_words", "_law_one"]) (sc := defScope s_l_piece_right) (by decide +kernel))
            (fun _ _ _ _ _ => pg_name (i := 8) sc_l_piece_right.nd rfl (Or.inl rfl)) (fun _ _ _ _ _ => pts_nil)
            (fun _ _ _ _ _ => pe_dg DA hr2 (pa_cons (pv 8) (pa_cons (pe_dg DB hr9 (pa_cons (pv 4) (pa_cons (pv 5) pa_nil))) pa_nil)))) pa_nil)))) (pss_one (ps_ret pe_bl)) pss_nil)
      (pss_cons (ps_set (i := 7) sc_l_piece_right.nd rfl (Or.inl rfl) (pe_callTy call_list_of (by rfl) G.z_list (by decide +kernel) (pa_cons (pe_dm0 (C := "Piece") (pv 4) G.pie.cl DPT hr1) pa_nil)))
      (pss_cons (ps_asg (pe_ix ix_list (pv 7) (pe_dg DT hr1 (pa_cons (pv 0) (pa_cons (pv 3) pa_nil))) (fun _ _ => rfl)) (pg_sub (pv 7) (pe_dg DT hr1 (pa_cons (pv 0) (pa_cons (pv 3) pa_nil))) set_list))
      (pss_one (ps_ret (pe_and (pe_dg DS hr (pa_cons (pe_make G.pie.mkr FI hr5 (by rfl) G.pie.gl bI .nil pass0 (pa_cons (pe_callTy call_tuple_of (by rfl) G.z_tuple (by decide +kernel) (pa_cons (pv 7) pa_nil)) pa_nil)) (pa_cons (pv 5) pa_nil)))
        (pe_one (pe_cmpR op_ge (pe_callB call_len_seq (by rfl) G.z_len PySem.boot_len (pa_cons (pe_call FB hr9 (by rfl) G.g_can_be G.k_can_be hbB hdsB pass0 (pa_cons (pv 6) pa_nil)) pa_nil))
          (pe_callB call_len_seq (by rfl) G.z_len PySem.boot_len (pa_cons (pe_dg DB hr9 (pa_cons (pv 6) (pa_cons (pv 5) pa_nil))) pa_nil)) (nomark _))))))))))))))), ?_⟩
    have k1 := hk.pos
    have k2 := hk.le
    -- begun
    refine ⟨_, rfl, pl, 60, rfl, hP, ⟨by decide, by decide⟩, fun H1 a ha c1 => ?_⟩
    refine ⟨(a : Int), 30, rfl, rfl, _, rfl, pl, 28, rfl, c1.p1, ⟨by decide, by decide⟩, fun H2 f _ hf c2 => ?_⟩
    refine ⟨(show 2 ≤ sizeLine by decide), fun l3 hl3 => ?_⟩
    have s3 := same_upd (o := .lst [V.int ((a : Int) - 30), V.int f]) hl3
    refine ⟨_, rfl, pl, 2, rfl, c2.p1.same s3, ⟨by decide, by decide⟩, fun H4 g hg c4 => ?_⟩
    have e4 : H4 l3 = some (.lst [V.int ((a : Int) - 30), V.int f]) := c4.keep _ _ (c2.p1.new hl3) upd_same
    have hbb : ∃ x : Int, atI [V.int ((a : Int) - 30), V.int f] (g : Int) = some (.int x) ∧ (-(10 ^ 29) ≤ x ∧ x ≤ 10 ^ 29) := by
      rcases (show g = 0 ∨ g = 1 by omega) with rfl | rfl
      · exact ⟨_, rfl, by omega, by omega⟩
      · exact ⟨_, rfl, hf (by decide)⟩
    obtain ⟨x, hat, hx⟩ := hbb
    refine ⟨l3, _, (g : Int), _, rfl, rfl, SqL.of e4, hat, ?_⟩
    have c04 := ((c1.trans c2).same s3).trans c4
    -- many
    refine ⟨_, rfl, (show 2 ≤ sizeLine by decide), fun l5 hl5 => ?_⟩
    have s5 := same_upd (o := .lst [V.int 12, V.int 80]) hl5
    refine ⟨_, rfl, pl, 2, rfl, c4.p1.same s5, ⟨by decide, by decide⟩, fun H6 g2 hg2 c6 => ?_⟩
    have e6 : H6 l5 = some (.lst [V.int 12, V.int 80]) := c6.keep _ _ (c4.p1.new hl5) upd_same
    have hnn : ∃ n : Nat, atI [V.int 12, V.int 80] (g2 : Int) = some (.int (n : Int)) ∧ (1 ≤ n ∧ n ≤ 80) := by
      rcases (show g2 = 0 ∨ g2 = 1 by omega) with rfl | rfl
      · exact ⟨12, rfl, by decide, by decide⟩
      · exact ⟨80, rfl, by decide, by decide⟩
    obtain ⟨n, hatn, hn1, hn2⟩ := hnn
    refine ⟨l5, _, (g2 : Int), _, rfl, rfl, SqL.of e6, hatn, pl, n, rfl, c6.p1, ⟨hn1, by omega⟩, fun H7 d hd c7 => ?_⟩
    refine ⟨1, (d : Int), rfl, rfl, ?_⟩
    have c07 := ((c04.same s5).trans c6).trans c7
    obtain ⟨many, hmany⟩ : ∃ many : Nat, many = 1 + d := ⟨_, rfl⟩
    have em : (1 : Int) + (d : Int) = (many : Int) := by omega
    have hO7 := c07.ob hO
    -- piece
    refine ⟨_, rfl, _, rfl, _, rfl, _, rfl, x, 1 + (d : Int), rfl, rfl, _, 1, rfl, rfl, b, k, x, x + (1 + (d : Int)) - 1, rfl, hO7, hk.toShades, ⟨by omega, by omega, by omega, by omega⟩, fun H8 p s8 hp8 => ?_⟩
    rw [show (x + (1 + (d : Int)) - 1 + 1 - x).toNat = many by omega] at hp8
    have c08 := c07.same s8
    -- upto
    refine ⟨_, rfl, _, rfl, pl, many, (by show [V.ref pl, V.int (1 + (d : Int))] = [V.ref pl, V.int (many : Int)]; rw [em]), c08.p1, ⟨by omega, by omega⟩, fun H9 u hu c9 => ?_⟩
    refine ⟨1, (u : Int), rfl, rfl, ?_⟩
    obtain ⟨mo, hmo⟩ : ∃ mo : Nat, mo = 1 + u := ⟨_, rfl⟩
    have eu : (1 : Int) + (u : Int) = (mo : Int) := by omega
    have c09 := c08.trans c9
    have hp9 := c9.ob hp8
    have hO9 := c09.ob hO
    have hps : Shades (win k x many) := win_sh hk.toShades (by omega) (by omega)
    have hpl : (win k x many).length = many := win_length _ _ _
    refine ⟨_, rfl, _, rfl, p, win k x many, mo, (by show [V.ref p, V.int (1 + (u : Int))] = [V.ref p, V.int (mo : Int)]; rw [eu]), hp9, hps, ⟨by omega, by omega⟩, fun H10 s10 => ⟨true, rfl, iteF ?_⟩⟩
    refine ⟨_, rfl, _, rfl, p, win k x many, many, (by show [V.ref p, V.int (1 + (d : Int))] = [V.ref p, V.int (many : Int)]; rw [em]), hp9.same s10, hps, ⟨by omega, by omega⟩, fun H11 s11 => ⟨true, rfl, iteF ?_⟩⟩
    have s911 := s10.trans s11
    refine ⟨fun σ' H' => σ' = [some (.ref pl), some (.ref b), some (.int x), some (.int (1 + (d : Int))), some (.ref p), some (.int (1 + (u : Int))), none, none, none] ∧ Same H11 H', ?_, ?_⟩
    · have hO11 := hO9.same s911
      have hp11 := hp9.same s911
      obtain ⟨dx, t0, hb11, _⟩ := id hO11
      refine ⟨_, rfl, b, dx, _, rfl, hb11, b, k, rfl, hO11, k.length, rfl, by omega, _, rfl, (k.length : Int), 1 + (u : Int), rfl, rfl, _, rfl, ?_⟩
      refine iteB (fun hle => ?_) (fun hle => iteF ⟨rfl, Same.refl _⟩)
      have hle' : k.length ≤ mo := by
        have := of_decide_eq_true hle
        omega
      refine ⟨_, rfl, b, dx, _, rfl, hb11, kept_no t0 (by decide +kernel), _, rfl, 0, x, rfl, rfl, b, k, 0 - x, rfl, hO11, hk, ⟨by omega, by omega⟩, fun H12 r s12 hr12 => ?_⟩
      rw [show -(0 - x) = x by omega] at hr12
      refine ⟨_, rfl, _, rfl, p, win k x many, .int (1 + (u : Int)), mo, rfl, hp11.same s12, hps, .inr (by rw [eu]), ⟨by omega, by omega⟩, fun H13 l as s13 e13 hR => ?_⟩
      refine ⟨r, l, win k x k.length, as, rows (win k x many) mo, rfl, hr12.same s13, (win_sh hk.toShades k1 k2).sh, e13, hR, rows_sh hps.sh, Nat.le_trans rows_len (by omega), fun H14 s14 => ⟨true, ?_, iteF ⟨rfl, (s12.trans s13).trans s14⟩⟩⟩
      rw [decide_eq_true (self_row hk hle' (by omega))]
    · rintro σ' H12 ⟨rfl, s12⟩
      have s912 := s911.trans s12
      have c012 := c09.same s912
      have hO12 := hO9.same s912
      have hp12 := hp9.same s912
      obtain ⟨dx, t0, hpa, _⟩ := id hp12
      -- longer
      refine ⟨_, rfl, p, dx, _, rfl, hpa, kept_no t0 (by decide +kernel), _, rfl, _, rfl, _, rfl, x, 1 + (d : Int), rfl, rfl, _, rfl, _, rfl, x, 1 + (d : Int), rfl, rfl, _, rfl, pl, 30, rfl, c012.p1, ⟨by decide, by decide⟩, fun H13 v hv c13 => ?_⟩
      have hO13 := c13.ob hO12
      have hp13 := c13.ob hp12
      refine ⟨_, (v : Int), rfl, rfl, b, k, x + (1 + (d : Int)), x + (1 + (d : Int)) + (v : Int), rfl, hO13, hk.toShades, ⟨by omega, by omega, by omega, by omega⟩, fun H14 p2 s14 hp2 => ?_⟩
      rw [show (x + (1 + (d : Int)) + (v : Int) + 1 - (x + (1 + (d : Int)))).toNat = v + 1 by omega, em] at hp2
      have hjoin : win k x many ++ win k (x + (many : Int)) (v + 1) = win k x (many + (v + 1)) := win_append _ _ _ _
      have hls : Shades (win k x (many + (v + 1))) := win_sh hk.toShades (by omega) (by omega)
      refine ⟨p, p2, _, _, rfl, hp13.same s14, hp2, (by rw [hjoin]; exact hls), fun H15 lo s15 hlo => ?_⟩
      have hjl : (win k x many ++ win k (x + (many : Int)) (v + 1)).length = many + (v + 1) := by rw [hjoin, win_length]
      have hls' : Shades (win k x many ++ win k (x + (many : Int)) (v + 1)) := by rw [hjoin]; exact hls
      generalize win k (x + (many : Int)) (v + 1) = lw at *
      have s1315 := s14.trans s15
      have c015 := (c012.trans c13).same s1315
      have hp15 := hp13.same s1315
      -- all of the longer's rounds are among the piece's
      refine ⟨_, rfl, _, rfl, lo, _, .int (1 + (u : Int)), mo, rfl, hlo, hls', .inr (by rw [eu]), ⟨by omega, by omega⟩, fun H16 l16 as16 s16 e16 hR16 => ?_⟩
      refine ⟨l16, rfl, ⟨_, SqL.of e16⟩, fun D hD => ?_⟩
      have hla : (as16.map V.ref).length = (rows (win k x many ++ lw) mo).length := by rw [List.length_map]; exact hR16.len
      have hla2 := rows_len (ts := win k x many ++ lw) (mo := mo)
      refine lc_map (walk_list (xs := as16.map V.ref)) (fun _ => .bl true) hD (by omega) (fun _ z1 => SqL.of (z1 _ _ e16)) yat_same (fun _ => rfl) (fun i y H17 hi s17 yy Q1 kk => ?_) (fun H17 s17 e17 => ?_)
      · obtain ⟨_, _, hy⟩ := yy
        obtain ⟨a1, ha1, rfl⟩ := map_at hy
        obtain ⟨r1, hr1', ho1⟩ := hR16.get ha1
        have hrm : r1 ∈ rows (win k x many ++ lw) mo := List.mem_of_getElem? hr1'
        refine ⟨_, rfl, _, rfl, _, rfl, p, win k x many, .int (1 + (u : Int)), mo, rfl, (hp15.same s16).same s17, hps, .inr (by rw [eu]), ⟨by omega, by omega⟩, fun H18 l18 as18 s18 e18 hR18 => ?_⟩
        refine ⟨a1, l18, r1, as18, rows (win k x many) mo, rfl, (ho1.same s17).same s18, rows_sh hls'.sh r1 hrm, e18, hR18, rows_sh hps.sh, Nat.le_trans rows_len (by omega), fun H19 s19 => ?_⟩
        rw [decide_eq_true (longer_row (by omega) hrm)]
        exact kk _ (s18.trans s19)
      · refine ⟨D, _, rfl, seq_true e17, true, by rw [all_rep], iteF ?_⟩
        have s1517 := s16.trans s17
        have c017 := c015.same s1517
        have hp17 := hp15.same s1517
        have hlo17 := hlo.same s1517
        obtain ⟨dy, t1, hpb, _⟩ := id hp17
        -- the words, with one put
        refine ⟨_, rfl, p, dy, _, rfl, hpb, kept_no t1 (by decide +kernel), p, _, rfl, hp17, fun t ht => ?_⟩
        refine ⟨t, _, rfl, .inr ht.sq, fun lw2 hlw2 => ?_⟩
        have s18 := same_upd (o := .lst ((win k x many).map V.str)) hlw2
        have hl0 := c017.none hlw2
        have nlp := c017.p1.new hlw2
        refine ⟨_, rfl, _, rfl, _, rfl, pl, many, (by show [V.ref pl, V.int (1 + (d : Int))] = [V.ref pl, V.int (many : Int)]; rw [em]), c017.p1.same s18, ⟨by omega, by omega⟩, fun H19 g9 hg9 c19 => ?_⟩
        have e19 : H19 lw2 = some (.lst ((win k x many).map V.str)) := c19.keep _ _ nlp upd_same
        refine ⟨lw2, _, (g9 : Int), _, rfl, rfl, SqL.of e19, atI_nat (xs := win k x many) (by omega), ?_⟩
        refine ⟨_, rfl, _, rfl, _, rfl, pl, many, (by show [V.ref pl, V.int (1 + (d : Int))] = [V.ref pl, V.int (many : Int)]; rw [em]), c19.p1, ⟨by omega, by omega⟩, fun H20 g10 hg10 c20 => ?_⟩
        have e20 := c20.keep _ _ nlp e19
        have hix : ixN ((win k x many).map V.str).length (g10 : Int) = some g10 := by
          unfold ixN
          rw [List.length_map, if_pos (by omega), if_pos (by omega), Int.toNat_natCast]
        refine ⟨lw2, _, (g10 : Int), g10, rfl, rfl, e20, hix, ?_⟩
        have c1720 : Kp pl H17 (upd H20 lw2 (.lst (((win k x many).map V.str).set g10 (.str (at_ (win k x many) g9))))) := (((Kp.of c017.p1 s18).trans c19).trans c20).mut hlw2
        have eset : ((win k x many).map V.str).set g10 (.str (at_ (win k x many) g9)) = ((win k x many).set g10 (at_ (win k x many) g9)).map V.str := by rw [List.map_set]
        rw [eset] at c1720 ⊢
        have hws : Shades ((win k x many).set g10 (at_ (win k x many) g9)) := ⟨by rw [List.length_set]; exact hps.pos, by rw [List.length_set]; exact hps.le, fun y hy => by
          rcases List.mem_or_eq_of_mem_set hy with hy | rfl
          · exact hps.sh y hy
          · exact hps.sh _ (at_mem (by omega))⟩
        have hwl : ((win k x many).set g10 (at_ (win k x many) g9)).length = many := by rw [List.length_set]; exact hpl
        generalize (win k x many).set g10 (at_ (win k x many) g9) = wq at *
        have e21 : (upd H20 lw2 (.lst (wq.map V.str))) lw2 = some (.lst (wq.map V.str)) := upd_same
        generalize upd H20 lw2 (.lst (wq.map V.str)) = H21 at *
        have c021 := c017.trans c1720
        have hlo21 := c1720.ob hlo17
        refine ⟨_, rfl, lw2, _, rfl, .inl ⟨SqL.of e21, fun tt htt => ?_⟩⟩
        have s22 := same_upd (o := .tup (wq.map V.str)) htt
        intro z dz nz ndz ne
        have s23 := made_piece (K := K) s22 nz ndz
        refine ⟨z, dz, tt, wq, rfl, upd_same, s23 _ _ upd_same, hws, fun H24 k24 ob => ⟨rfl, ?_⟩⟩
        have s24 : Same H21 H24 := fun c o e => k24 c o (s23 _ _ (s22 _ _ e)) (ne_of_none (s22 _ _ e) nz)
        refine ⟨_, rfl, z, wq, mo, (by show [V.ref z, V.int (1 + (u : Int))] = [V.ref z, V.int (mo : Int)]; rw [eu]), ob, hws, ⟨by omega, by omega⟩, fun H25 s25 => ⟨true, rfl, iteT ?_⟩⟩
        have hlo25 := (hlo21.same s24).same s25
        refine ⟨_, rfl, lo, _, .non, (win k x many ++ lw).length, rfl, hlo25, hls', .inl ⟨rfl, rfl⟩, ⟨by omega, Nat.le_refl _⟩, fun H26 l26 as26 s26 e26 hR26 => ?_⟩
        refine ⟨l26, _, rfl, .inl (SqL.of e26), ?_⟩
        refine ⟨_, rfl, _, rfl, lo, _, .int (1 + (u : Int)), mo, rfl, hlo25.same s26, hls', .inr (by rw [eu]), ⟨by omega, by omega⟩, fun H27 l27 as27 s27 e27 hR27 => ?_⟩
        refine ⟨l27, _, rfl, .inl (SqL.of e27), _, _, rfl, rfl, ?_⟩
        refine q_true (decide_eq_true ?_) (q _ ((((c021.same s24).same s25).same s26).same s27))
        have hm := ds_len_mono (t := win k x many ++ lw) (show mo ≤ (win k x many ++ lw).length by omega)
        have i1 := hR26.len
        have i2 := hR27.len
        rw [List.length_map] at i1 i2
        rw [List.length_map, List.length_map]
        omega
end
end SL
set_option Elab.async false
set_option linter.all false
set_option maxRecDepth 100000
set_option maxHeartbeats 4000000
namespace SL
open PySem PySem.Spec PyProof.Rows L2 He
theorem one_row {k : List Str} {mo : Nat} (hk : RowOk k) (hm : k.length ≤ mo) (b : Int) : rows (win k b (en k mo)) mo = [win k b k.length] := by
  have h := en_one hk.pos hk.prim hm b
  unfold rows
  rw [h]
  show [(win k b (en k mo)).take k.length] = _
  rw [win_take (Nat.le_trans hm (en_ge k mo))]
section
variable {P : Program} {w : World} {K : PySem.W.Frag} {mg : Str → Option Value} {base : Heap}
/-! ### enough_right -/
def spEnoughR (K : PySem.W.Frag) : Sp := fun vs H Q _ => ∃ (pl b : Addr) (k : List Str), vs = [.ref pl, .ref b] ∧ PoolAt H pl ∧ ObA K "Row" H b k ∧ RowOk k ∧ k.length < 31 ∧ ∀ H', Kp pl H H' → Q (.bl true) H'
theorem ok_enough_right (G : Gs K w mg) : Dg P w K mg base 10 "_law_enough_right" ["_law_pool_here", "_law_band"] (spEnoughR K) := by
  have DT : Dg P w K mg base 1 "_law_take" ["_law_pool_here", "_law_many"] spTake := ok_take G
  have DF : Dg P w K mg base 2 "_law_far" ["_law_pool_here", "_law_size"] spFar := ok_far G
  have DC : Dg P w K mg base 6 "cut" ["row", "first", "last"] (spCut K) := ok_cut G
  have DB : Dg P w K mg base 9 "can_be" ["piece", "most"] (spCanBe K) := dg_can_be G
  have DE : Dg P w K mg base 3 "enough" ["row", "most"] (spEnough K) := ok_enough G
  have DRL : Dm P w K mg base 1 "Row" "__len__" ["self"] (spLen K "Row") := ok_R_len G
  have DRM : Dm P w K mg base 9 "Row" "moved" ["self", "by"] (spMoved K) := ok_R_moved G
  have DRA : Dm P w K mg base 1 "Row" "alike" ["self", "other"] (spSame K "Row") := ok_R_alike G
  refine dg_of G.f_l_enough_right sc_l_enough_right (fun _ _ _ _ _ _ us hl => match us, hl with | [_, _], _ => rfl) (fun vs H Q E h => ?_) (fun cdv A outer s H vs Q E hr h => ?_)
  · obtain ⟨pl, b, k, rfl, _⟩ := h
    rfl
  · obtain ⟨pl, b, k, rfl, hP, hO, hk, h31, q⟩ := h
    have hr1 := hr.mono (show 1 ≤ 9 by decide)
    have hr2 := hr.mono (show 2 ≤ 9 by decide)
    have hr3 := hr.mono (show 3 ≤ 9 by decide)
    have hr6 := hr.mono (show 6 ≤ 9 by decide)
    refine ⟨_, pss_cons (ps_set (i := 2) sc_l_enough_right.nd rfl (Or.inr rfl) (pe_op op_add (pe_callB (call_lenD DRL hr2) (by rfl) G.z_len PySem.boot_len (pa_cons (pv 1) pa_nil)) (pe_dg DT hr1 (pa_cons (pv 0) (pa_cons pe_int pa_nil)))))
      (pss_cons (ps_set (i := 3) sc_l_enough_right.nd rfl (Or.inr rfl) (pe_dg DE hr3 (pa_cons (pv 1) (pa_cons (pv 2) pa_nil))))
      (pss_cons (ps_if (PW.pt (pw_or (pt_cmpR op_lt (pv 3) (pv 2) (nomark _)) (pw_or1 (pt_cmpR op_gt (pv 3) pe_int (nomark _))))) (pss_one (ps_ret (pe_cmpR op_gt (pv 3) pe_int (nomark _)))) pss_nil)
      (pss_cons (ps_for PassesOwn.never rfl (pi_list (pe_lst (pa_cons (pe_dg DF hr2 (pa_cons (pv 0) (pa_cons pe_int pa_nil))) (pa_cons (pe_dg DT hr1 (pa_cons (pv 0) (pa_cons pe_int pa_nil))) pa_nil)))) (pg_name (i := 4) sc_l_enough_right.nd rfl (Or.inl rfl))
        (pss_cons (ps_set (i := 5) sc_l_enough_right.nd rfl (Or.inl rfl) (pe_dg DB hr (pa_cons (pe_dg DC hr6 (pa_cons (pv 1) (pa_cons (pv 4) (pa_cons (pe_op op_sub (pe_op op_add (pv 4) (pv 3)) pe_int) pa_nil)))) (pa_cons (pv 2) pa_nil))))
        (pss_one (ps_if (PW.pt (pw_or (pt_cmpR op_ne (pe_callB call_len_seq (by rfl) G.z_len PySem.boot_len (pa_cons (pv 5) pa_nil)) pe_int (nomark _))
            (pw_or1 (pt_not (pt_val (pe_dm (C := "Row") (pe_ix ix_list (pv 5) pe_int (fun _ _ => rfl)) G.row.cl DRA hr1 (pa_cons (pe_dm (C := "Row") (pv 1) G.row.cl DRM hr (pa_cons (pe_op op_sub pe_int (pv 4)) pa_nil)) pa_nil))))))) (pss_one (ps_ret pe_bl)) pss_nil))))
      (pss_cons (ps_if (pt_cmpR op_eq (pv 3) (pv 2) (nomark _)) (pss_one (ps_ret pe_bl)) pss_nil)
      (pss_cons (ps_setLc (i := 6) (own := [("_law_at", 7)]) (g := gName 7) rfl sc_l_enough_right.nd rfl rfl (by rfl) (pi_range1 (by rfl) G.z_range (pa_cons (pe_callB (call_lenD DRL hr2) (by rfl) G.z_len PySem.boot_len (pa_cons (pv 1) pa_nil)) pa_nil)) (blkOk_by (N := ["_law_pool_here", "_law_band", "_law_upto", "_law_many", "_law_begun", "_law_found", "_law_more", "_law_at"]) (sc := defScope s_l_enough_right) (by decide +kernel))
          (fun _ _ _ _ _ => pg_name (i := 7) sc_l_enough_right.nd rfl (Or.inl rfl)) (fun _ _ _ _ _ => pts_nil)
          (fun _ _ _ _ _ => pe_callB (call_len_q (KK := K)) (by rfl) G.z_len PySem.boot_len (pa_cons (pe_dg DB hr (pa_cons (pe_dg DC hr6 (pa_cons (pv 1) (pa_cons (pv 7) (pa_cons (pe_op op_sub (pe_op op_add (pv 7) (pv 3)) pe_int) pa_nil)))) (pa_cons (pv 2) pa_nil))) pa_nil)))
      (pss_one (ps_ret (pe_and (pe_cmpR op_gt (pe_callB (cr_max rfl) (by rfl) G.z_max (by decide +kernel) (pa_cons (pv 6) pa_nil)) pe_int (nomark _)) (pe_one (pe_cmpR op_gt (pe_callB (cr_min rfl) (by rfl) G.z_min (by decide +kernel) (pa_cons (pv 6) pa_nil)) pe_int (nomark _))))))))))), ?_⟩
    have k1 := hk.pos
    have k2 := hk.le
    obtain ⟨dx, t0, hb0, ht0⟩ := id hO
    refine ⟨_, rfl, b, dx, _, rfl, hb0, b, k, rfl, hO, k.length, rfl, by omega, _, rfl, pl, 9, rfl, hP, ⟨by decide, by decide⟩, fun H1 d hd c1 => ?_⟩
    refine ⟨(k.length : Int), (d : Int), rfl, rfl, ?_⟩
    obtain ⟨mo, hmo⟩ : ∃ mo : Nat, mo = k.length + d := ⟨_, rfl⟩
    have eu : (k.length : Int) + (d : Int) = (mo : Int) := by omega
    have hO1 := c1.ob hO
    have hge := en_ge k mo
    refine ⟨_, rfl, _, rfl, b, k, mo, (by show [V.ref b, V.int ((k.length : Int) + (d : Int))] = [V.ref b, V.int (mo : Int)]; rw [eu]), hO1, hk, ⟨by omega, by omega⟩, ?_⟩
    refine ⟨_, rfl, _, rfl, ((en k mo : Nat) : Int), (k.length : Int) + (d : Int), rfl, rfl, _, rfl, iteFe (decide_eq_false (by omega)) ?_⟩
    refine ⟨_, rfl, ((en k mo : Nat) : Int), 240, rfl, rfl, _, rfl, iteB (fun hb => ?_) (fun hb => ?_)⟩
    · exact ⟨_, rfl, ((en k mo : Nat) : Int), 240, rfl, rfl, q_true hb (q _ c1)⟩
    have hle : en k mo ≤ 240 := by
      have := of_decide_eq_false hb
      omega
    obtain ⟨many, hmany⟩ : ∃ many : Nat, many = en k mo := ⟨_, rfl⟩
    have hone := fun z => one_row (mo := mo) hk (by omega) z
    have htwo := fun h => en_two (most := mo) hk.pos hk.prim (by omega) h
    rw [← hmany] at hge hle
    simp only [← hmany] at hone htwo
    refine ⟨_, rfl, pl, 20, rfl, c1.p1, ⟨by decide, by decide⟩, fun H2 f _ hf c2 => ?_⟩
    refine ⟨_, rfl, pl, 50, rfl, c2.p1, ⟨by decide, by decide⟩, fun H3 g hg c3 => ?_⟩
    refine ⟨(show 2 ≤ sizeLine by decide), fun l4 hl4 => ?_⟩
    have s4 := same_upd (o := .lst [V.int f, V.int (g : Int)]) hl4
    have c04 := ((c1.trans c2).trans c3).same s4
    have hO4 := c04.ob hO
    generalize hH4 : upd H3 l4 (.lst [V.int f, V.int (g : Int)]) = H4 at *
    have e4 : H4 l4 = some (.lst [V.int f, V.int (g : Int)]) := by rw [← hH4]; exact upd_same
    have hzz : ∀ (i : Nat) (x : V), ([V.int f, V.int (g : Int)] : List V)[i]? = some x → ∃ z : Int, x = V.int z ∧ (-(10 ^ 29) ≤ z ∧ z ≤ 10 ^ 29) := by
      intro i x hx
      have hm := List.mem_of_getElem? hx
      rcases List.mem_cons.mp hm with rfl | hm
      · exact ⟨f, rfl, hf (by decide)⟩
      · have : x = V.int (g : Int) := by simpa using hm
        exact ⟨(g : Int), this, by omega, by omega⟩
    refine ⟨l4, rfl, ⟨_, SqL.of e4⟩, ?_⟩
    refine for_it (walk_list (xs := [V.int f, V.int (g : Int)])) (fun i σ H5 => ∃ (y4 y5 : Option V), σ = [some (.ref pl), some (.ref b), some (.int ((k.length : Int) + (d : Int))), some (.int ((en k mo : Nat) : Int)), y4, y5, none, none] ∧ Same H4 H5)
      ⟨none, none, rfl, Same.refl _⟩ (fun i σ H5 _ p' => ?_) (fun i x σ H5 H6 hi p' y => ?_) (fun σ H5 p' => ?_)
    · obtain ⟨_, _, _, s5⟩ := p'
      exact SqL.of (s5 _ _ e4)
    · obtain ⟨y4, y5, rfl, s5⟩ := p'
      obtain ⟨rfl, hx⟩ := y
      obtain ⟨z, rfl, hz⟩ := hzz i x hx
      have hO5 := hO4.same s5
      refine ⟨_, rfl, _, rfl, _, rfl, _, rfl, z, ((en k mo : Nat) : Int), rfl, rfl, _, 1, rfl, rfl, b, k, z, z + ((en k mo : Nat) : Int) - 1, rfl, hO5, hk.toShades, ⟨by omega, by omega, by omega, by omega⟩, fun H7 p s7 hp => ?_⟩
      rw [show (z + ((en k mo : Nat) : Int) - 1 + 1 - z).toNat = many by omega] at hp
      have hps : Shades (win k z many) := win_sh hk.toShades (by omega) hle
      have hpl : (win k z many).length = many := win_length _ _ _
      refine ⟨_, rfl, p, win k z many, .int ((k.length : Int) + (d : Int)), mo, rfl, hp, hps, .inr (by rw [eu]), ⟨by omega, by omega⟩, fun H8 l8 as8 s8 e8 hR8 => ?_⟩
      have hR : Rws K H8 as8 [win k z k.length] := by
        have := hR8
        rw [show ((ds (win k z many) mo).map fun d => (win k z many).take d) = rows (win k z many) mo from rfl, hone z] at this
        exact this
      have hal : as8.length = 1 := hR.len
      obtain ⟨a, rfl⟩ : ∃ a, as8 = [a] := by
        cases as8 with
        | nil => cases hal
        | cons a r =>
          cases r with
          | nil => exact ⟨a, rfl⟩
          | cons _ _ => cases hal
      have ha : ObA K "Row" H8 a (win k z k.length) := hR.at_ 0 a _ rfl rfl
      refine ⟨_, rfl, l8, _, rfl, .inl (SqL.of e8), rfl, _, rfl, iteFe (b := !decide (V.int 1 = V.int 1)) (by rw [decide_eq_true rfl]; rfl) ?_⟩
      have hO8 := (hO5.same s7).same s8
      obtain ⟨dy, t1, hb8, _⟩ := id hO8
      obtain ⟨dz, t2, ha8, _⟩ := id ha
      refine ⟨_, rfl, l8, _, 0, .ref a, rfl, rfl, SqL.of e8, rfl, a, dz, _, rfl, ha8, kept_no t2 (by decide +kernel), _, rfl, b, dy, _, rfl, hb8, kept_no t1 (by decide +kernel), _, rfl, 0, z, rfl, rfl, b, k, 0 - z, rfl, hO8, hk, ⟨by omega, by omega⟩, fun H9 r s9 hr9 => ?_⟩
      rw [show -(0 - z) = z by omega] at hr9
      have hws := (win_sh (b := z) hk.toShades k1 k2).sh
      refine ⟨a, r, _, _, rfl, ha.same s9, hr9, ⟨hws, hws⟩, _, rfl, iteFe (b := !decide _) (by rw [decide_eq_true rfl]; rfl) ?_⟩
      exact ⟨_, _, rfl, ((s5.trans s7).trans s8).trans s9⟩
    · obtain ⟨y4, y5, rfl, s5⟩ := p'
      have c05 := c04.same s5
      have hO5 := hO4.same s5
      refine ⟨_, rfl, _, rfl, rfl, _, rfl, iteB (fun _ => q _ c05) (fun hne => ?_)⟩
      have hne' : many ≠ mo := fun e => by
        have h9 := of_decide_eq_false hne
        refine h9 ?_
        show V.int ((en k mo : Nat) : Int) = V.int ((k.length : Int) + (d : Int))
        rw [eu, ← hmany, e]
      obtain ⟨pp, hpp, htw⟩ := htwo hne'
      obtain ⟨dy, t1, hb5, _⟩ := id hO5
      refine ⟨_, rfl, b, dy, _, rfl, hb5, b, k, rfl, hO5, k.length, rfl, by omega, ?_⟩
      refine ⟨_, rfl, by omega, by omega, fun D hD => ?_⟩
      rw [show (((k.length : Nat) : Int)).toNat = k.length from Int.toNat_natCast _]
      refine lc_map walk_range0 (fun i : Nat => .int ((((rows (win k (i : Int) (many - 1)) mo).length : Nat) : Int))) hD (by omega) (fun _ _ => trivial) yn_same (fun _ => rfl) (fun i y H6 hi s6 yy Q1 kk => ?_) (fun H6 s6 e6 => ?_)
      · obtain ⟨_, _, hx4⟩ := yy
        replace hx4 : y = V.int (i : Int) := hx4
        subst hx4
        refine ⟨_, rfl, _, rfl, _, rfl, _, rfl, (i : Int), ((en k mo : Nat) : Int), rfl, rfl, _, 2, rfl, rfl, b, k, (i : Int), (i : Int) + ((en k mo : Nat) : Int) - 2, rfl, hO5.same s6, hk.toShades, ⟨by omega, by omega, by omega, by omega⟩, fun H7 p s7 hp => ?_⟩
        rw [show ((i : Int) + ((en k mo : Nat) : Int) - 2 + 1 - (i : Int)).toNat = many - 1 by omega] at hp
        have hps : Shades (win k (i : Int) (many - 1)) := win_sh hk.toShades (by omega) (by omega)
        have hpl : (win k (i : Int) (many - 1)).length = many - 1 := win_length _ _ _
        refine ⟨_, rfl, p, win k (i : Int) (many - 1), .int ((k.length : Int) + (d : Int)), mo, rfl, hp, hps, .inr (by rw [eu]), ⟨by omega, by omega⟩, fun H8 l8 as8 s8 e8 hR8 => ?_⟩
        refine ⟨l8, _, rfl, .inl (SqL.of e8), ?_⟩
        have hl : (as8.map V.ref).length = (rows (win k (i : Int) (many - 1)) mo).length := by rw [List.length_map]; exact hR8.len
        rw [hl]
        exact kk _ (s7.trans s8)
      · have e6' : H6 D = some (.lst (((List.range k.length).map fun i : Nat => (((rows (win k (i : Int) (many - 1)) mo).length : Nat) : Int)).map V.int)) := by
          rw [e6, List.map_map]
          rfl
        have hpos : ∀ i : Nat, 1 ≤ (rows (win k (i : Int) (many - 1)) mo).length := fun i => List.length_pos_of_mem (self_row (b := (i : Int)) hk (show k.length ≤ mo by omega) (show k.length ≤ many - 1 by omega))
        refine ⟨_, rfl, D, _, rfl, SqL.of e6', by rw [List.length_map, List.length_range]; omega, fun m hm hmx => ?_⟩
        refine ⟨m, 1, rfl, rfl, _, rfl, iteTe (decide_eq_true ?_) ?_⟩
        · have h9 := hmx _ (List.mem_map.mpr ⟨pp, List.mem_range.mpr hpp, rfl⟩)
          have h10 : (rows (win k (pp : Int) (many - 1)) mo).length = (ds (win k (pp : Int) (many - 1)) mo).length := List.length_map _
          omega
        · refine ⟨_, rfl, D, _, rfl, SqL.of e6', by rw [List.length_map, List.length_range]; omega, fun m' hm' _ => ?_⟩
          refine ⟨m', 0, rfl, rfl, q_true (decide_eq_true ?_) (q _ (c05.same s6))⟩
          obtain ⟨i, _, rfl⟩ := List.mem_map.mp hm'
          have := hpos i
          omega
end
end SL
set_option Elab.async false
set_option linter.all false
set_option maxRecDepth 100000
set_option maxHeartbeats 4000000
namespace SL
open PySem PySem.Spec PyProof.Rows L2 He
theorem kp_same {pl : Addr} {H H1 H2 : Hp} (s : Same H H1) (n : H pl = none) (k : Kp pl H1 H2) : Same H H2 := fun c o e => k.keep _ _ (ne_of_none e n) (s _ _ e)
theorem rg2 {j : Int} (h1 : 1 ≤ j) (h8 : j ≤ 8) : ∃ n : Nat, n ≤ 4 ∧ RgC 0 j 2 n := by
  rcases (show j = 1 ∨ j = 2 ∨ j = 3 ∨ j = 4 ∨ j = 5 ∨ j = 6 ∨ j = 7 ∨ j = 8 by omega) with rfl | rfl | rfl | rfl | rfl | rfl | rfl | rfl
  · exact ⟨1, by decide, by decide, by decide, by decide, by decide⟩
  · exact ⟨1, by decide, by decide, by decide, by decide, by decide⟩
  · exact ⟨2, by decide, by decide, by decide, by decide, by decide⟩
  · exact ⟨2, by decide, by decide, by decide, by decide, by decide⟩
  · exact ⟨3, by decide, by decide, by decide, by decide, by decide⟩
  · exact ⟨3, by decide, by decide, by decide, by decide, by decide⟩
  · exact ⟨4, by decide, by decide, by decide, by decide, by decide⟩
  · exact ⟨4, by decide, by decide, by decide, by decide, by decide⟩
section
variable {P : Program} {w : World} {K : PySem.W.Frag} {mg : Str → Option Value} {base : Heap}
/-! ### law -/
def spLaw (K : PySem.W.Frag) : Sp := fun vs H Q _ => ∃ (a : Addr) (ns : List Int), vs = [.ref a] ∧ SqL K H a (ns.map V.int) ∧ ∀ H', Q (.bl true) H'
theorem fn_of {x : Str} {st : Stmt} {N ps : List Str} {k : Nat} {sp : Sp} {fd : FuncData} (F : FunD K x x (defArgs st) (defBody st) (defScope st) [] [] (ga K x) fd) (S : FnScope N ps (defScope st))
    (len : ∀ vs H Q E, sp vs H Q E → vs.length = ps.length)
    (hbody : ∀ (cdv : Value) (A : Around) (outer : List Env) (s : Shared) (H : Hp) (vs : List V) (Q : VK) (E : XK), Room k (A.deeper (envOfC x (defScope st) s.heap.objs.size (ga K x) cdv)) → sp vs H Q E →
      ∃ t, PSs (cxOf CX0 P w K mg base N x (defScope st) (ga K x) cdv A outer s H E).nox (defBody st) t ∧ t { nx := fun _ H' => Q .non H', rt := Q } (start N vs) H) : FnOk P w K mg base CX0 (k + 1) (ga K x) fd ps sp := by
  refine F.ok S len fun cdv A outer s H vs Q E hr hsp => ?_
  obtain ⟨t, h, q⟩ := hbody cdv A outer s H vs Q E hr hsp
  exact ⟨t, h.nox, q⟩
theorem ok_law {fd : FuncData} (F : FunD K "law" "law" (defArgs s_law) (defBody s_law) (defScope s_law) [] [] (ga K "law") fd) (G : Gs K w mg) : FnOk P w K mg base CX0 12 (ga K "law") fd ["_law_script"] (spLaw K) := by
  have DPo : Dg P w K mg base 1 "_law_pool" ["_law_script", "_law_k"] (spPool K) := ok_pool G
  have DD : Dg P w K mg base 8 "_law_drawn" ["_law_pool_here", "_law_upto", "_law_wide"] (spDrawn K) := ok_drawn G
  have DPR : Dg P w K mg base 11 "_law_piece_right" ["_law_pool_here", "_law_band"] (spPieceR K) := ok_piece_right G
  have DER : Dg P w K mg base 10 "_law_enough_right" ["_law_pool_here", "_law_band"] (spEnoughR K) := ok_enough_right G
  have DRL : Dm P w K mg base 1 "Row" "__len__" ["self"] (spLen K "Row") := ok_R_len G
  refine fn_of F sc_law (fun vs H Q E h => ?_) (fun cdv A outer s H vs Q E hr h => ?_)
  · obtain ⟨a, ns, rfl, _⟩ := h
    rfl
  · obtain ⟨a, ns, rfl, hS, q⟩ := h
    have hr1 := hr.mono (show 1 ≤ 11 by decide)
    have hr2 := hr.mono (show 2 ≤ 11 by decide)
    have hr8 := hr.mono (show 8 ≤ 11 by decide)
    have hr10 := hr.mono (show 10 ≤ 11 by decide)
    refine ⟨_, pss_cons (ps_for PassesOwn.never rfl (pi_range3 (by rfl) G.z_range (pa_cons pe_int (pa_cons (pe_callB (call_max2 rfl) (by rfl) G.z_max (by decide +kernel) (pa_cons pe_int (pa_cons (pe_callB (call_min2 rfl) (by rfl) G.z_min (by decide +kernel) (pa_cons (pe_callB call_len_seq (by rfl) G.z_len PySem.boot_len (pa_cons (pv 0) pa_nil)) (pa_cons pe_int pa_nil))) pa_nil))) (pa_cons pe_int pa_nil)))) (pg_name (i := 1) sc_law.nd rfl (Or.inl rfl))
        (pss_cons (ps_asg (pe_dg DD hr8 (pa_cons (pe_dg DPo hr1 (pa_cons (pv 0) (pa_cons (pv 1) pa_nil))) (pa_cons pe_int (pa_cons pe_int pa_nil)))) (pg_tup rfl (pgs_cons (pg_name (i := 2) sc_law.nd rfl (Or.inl rfl)) (pgs_cons (pg_name (i := 3) sc_law.nd rfl (Or.inl rfl)) pgs_nil))))
        (pss_cons (ps_set (i := 4) sc_law.nd rfl (Or.inl rfl) (pe_dg DPo hr1 (pa_cons (pv 0) (pa_cons (pe_op op_add (pv 1) pe_int) pa_nil))))
        (pss_cons (ps_for PassesOwn.never rfl (pi_range1 (by rfl) G.z_range (pa_cons pe_int pa_nil)) (pg_name (i := 5) sc_law.nd rfl (Or.inl rfl))
          (pss_one (ps_if (pt_not (pt_val (pe_dg DPR hr (pa_cons (pv 4) (pa_cons (pv 2) pa_nil))))) (pss_one (ps_ret pe_bl)) pss_nil)))
        (pss_one (ps_if (PW.pt (pw_and (pt_cmpR op_lt (pe_callB (call_lenD DRL hr2) (by rfl) G.z_len PySem.boot_len (pa_cons (pv 2) pa_nil)) pe_int (nomark _))
            (pw_and1 (pt_not (pt_val (pe_dg DER hr10 (pa_cons (pv 4) (pa_cons (pv 2) pa_nil)))))))) (pss_one (ps_ret pe_bl)) pss_nil))))))
      (pss_one (ps_ret pe_bl)), ?_⟩
    refine ⟨_, rfl, a, _, rfl, .inl hS, _, 8, rfl, 1, _, rfl, ?_⟩
    obtain ⟨j, hj⟩ : ∃ j : Int, j = (if (if (8 : Int) < ((ns.map V.int).length : Nat) then (8 : Int) else ((ns.map V.int).length : Nat)) > 1 then (if (8 : Int) < ((ns.map V.int).length : Nat) then (8 : Int) else ((ns.map V.int).length : Nat)) else 1) := ⟨_, rfl⟩
    have hj1 : 1 ≤ j := by
      rw [hj]
      split <;> omega
    have hj8 : j ≤ 8 := by
      rw [hj]
      split
      · split <;> omega
      · omega
    obtain ⟨n, hn4, hrg⟩ := rg2 hj1 hj8
    refine ⟨0, j, 2, n, (by rw [hj]), hrg, ?_⟩
    refine for_it walk_rangeC (fun i σ H1 => ∃ (y1 y2 y3 y4 y5 : Option V), σ = [some (.ref a), y1, y2, y3, y4, y5] ∧ Same H H1)
      ⟨_, _, _, _, _, rfl, Same.refl H⟩ (fun _ _ _ _ _ => trivial) (fun i x σ H1 H2 hi p y => ?_) (fun σ H1 p => ?_)
    · obtain ⟨y1, y2, y3, y4, y5, rfl, s1⟩ := p
      obtain ⟨rfl, hx⟩ := y
      obtain ⟨kk, hkk⟩ : ∃ kk : Nat, kk = 2 * i := ⟨_, rfl⟩
      have hkx : (0 : Int) + (i : Nat) * 2 = (kk : Int) := by omega
      replace hx : x = V.int (kk : Int) := by
        have hx' : x = V.int ((0 : Int) + (i : Nat) * 2) := hx
        rw [hx', hkx]
      subst hx
      have hS2 := s1.seq hS
      refine ⟨_, rfl, _, rfl, a, ns, kk, rfl, hS2, by omega, fun H3 pl s3 npl hP3 => ?_⟩
      refine ⟨pl, rfl, hP3, fun H4 T r l ts c4 eT ob hk => ?_⟩
      refine ⟨T, _, rfl, SqT.of eT, rfl, _, _, rfl, _, _, rfl, rfl, ?_⟩
      have s24 : Same H2 H4 := kp_same s3 npl c4
      have s4 := s1.trans s24
      refine ⟨_, rfl, _, rfl, (kk : Int), 1, rfl, rfl, a, ns, kk + 1, rfl, s4.seq hS, by omega, fun H5 pl2 s5 npl2 hP5 => ?_⟩
      have ob5 := ob.same s5
      refine ⟨3, rfl, by decide, by decide, ?_⟩
      refine for_it walk_range0 (fun _ σ H6 => ∃ y5, σ = [some (.ref a), some (.int (kk : Int)), some (.ref r), some (.ref l), some (.ref pl2), y5] ∧ Kp pl2 H5 H6)
        ⟨_, rfl, Kp.refl hP5⟩ (fun _ _ _ _ _ => trivial) (fun i2 x2 σ H6 H7 hi2 p2 yy2 => ?_) (fun σ H6 p2 => ?_)
      · obtain ⟨z5, rfl, c6⟩ := p2
        obtain ⟨rfl, hx2⟩ := yy2
        refine ⟨_, rfl, _, rfl, pl2, r, ts, rfl, c6.p1, c6.ob ob5, hk, fun H8 c8 => ⟨true, rfl, iteF ?_⟩⟩
        exact ⟨_, rfl, c6.trans c8⟩
      · obtain ⟨z5, rfl, c6⟩ := p2
        have ob6 := c6.ob ob5
        obtain ⟨dx, t0, hr6, _⟩ := id ob6
        have k2 := hk.le
        have sfin : ∀ {H8 : Hp}, Kp pl2 H5 H8 → Same H H8 := fun c => s4.trans (kp_same s5 npl2 c)
        refine ⟨_, rfl, r, dx, _, rfl, hr6, r, ts, rfl, ob6, ts.length, rfl, by omega, (ts.length : Int), 31, rfl, rfl, _, rfl, ?_⟩
        refine iteB (fun hlt => ?_) (fun _ => iteF ⟨_, _, _, _, _, rfl, sfin c6⟩)
        have h31 : ts.length < 31 := by
          have := of_decide_eq_true hlt
          omega
        refine ⟨_, rfl, _, rfl, pl2, r, ts, rfl, c6.p1, ob6, hk, h31, fun H8 c8 => ⟨true, rfl, iteF ?_⟩⟩
        exact ⟨_, _, _, _, _, rfl, sfin (c6.trans c8)⟩
    · obtain ⟨_, _, _, _, _, rfl, _⟩ := p
      exact q _
end
end SL
set_option Elab.async false
set_option linter.all false
set_option maxRecDepth 100000
set_option maxHeartbeats 0
namespace SL
open PySem PySem.Spec PyProof.Rows L2 He
/-! ### the head -/
def fa0 : List He.Fa := [.glo "is_whole",
  .glo "is_between",
  .glo "is_word",
  .glo "is_shade",
  .glo "is_stripe",
  .glo "check_stripes",
  .glo "threads_of",
  .glo "are_threads",
  .glo "merged",
  .glo "run_word",
  .glo "pivot_word",
  .glo "fold_word",
  .glo "left_word",
  .glo "right_word",
  .glo "is_manner",
  .glo "check_spot"]
def fa1 : List He.Fa := [.glo "least_round",
  .glo "row_of_threads",
  .glo "longest_agreement",
  .glo "enough",
  .glo "is_there",
  .glo "fits",
  .glo "cut",
  .glo "_law_pool",
  .glo "_law_take",
  .glo "_law_far",
  .glo "_law_some_shades",
  .glo "_law_parts",
  .glo "_law_word",
  .glo "_law_round",
  .glo "_law_drawn",
  .glo "_law_among"]
def fa2 : List He.Fa := [.glo "_law_shown",
  .glo "_law_piece_right",
  .glo "_law_enough_right",
  .glo "law",
  .glo "can_be",
  .glo "Row",
  .glo "Piece",
  .glo "MANNERS",
  .free "len",
  .free "isinstance",
  .free "int",
  .free "bool",
  .free "str",
  .free "tuple",
  .free "all",
  .free "enumerate"]
def fa3 : List He.Fa := [.free "range",
  .free "max",
  .free "min",
  .free "sum",
  .free "abs",
  .free "divmod",
  .free "list",
  .int "BIG" (10 ^ 30),
  .int "MOST" 240,
  .str "LETTERS" "abcdefghijklmnopqrstuvwxyz",
  .cls "Row",
  .noat "Row" "kept",
  .mkr "Row",
  .cls "Piece",
  .noat "Piece" "kept",
  .mkr "Piece"]
def fa4 : List He.Fa := [.meth "Row" "__len__",
  .meth "Row" "thread",
  .meth "Row" "threads",
  .meth "Row" "moved",
  .meth "Row" "alike",
  .meth "Piece" "__init__",
  .meth "Piece" "__len__",
  .meth "Piece" "__eq__",
  .meth "Piece" "threads",
  .meth "Piece" "joined"]
def fa : List He.Fa := fa0 ++ fa1 ++ fa2 ++ fa3 ++ fa4
def fn0 : List He.DefD := [⟨("is_whole", none), "is_whole", "is_whole", defArgs s_is_whole, defBody s_is_whole, defScope s_is_whole, [], []⟩,
  ⟨("is_between", none), "is_between", "is_between", defArgs s_is_between, defBody s_is_between, defScope s_is_between, [], []⟩,
  ⟨("is_word", none), "is_word", "is_word", defArgs s_is_word, defBody s_is_word, defScope s_is_word, [], []⟩,
  ⟨("is_shade", none), "is_shade", "is_shade", defArgs s_is_shade, defBody s_is_shade, defScope s_is_shade, [], []⟩,
  ⟨("is_stripe", none), "is_stripe", "is_stripe", defArgs s_is_stripe, defBody s_is_stripe, defScope s_is_stripe, [], []⟩,
  ⟨("check_stripes", none), "check_stripes", "check_stripes", defArgs s_check_stripes, defBody s_check_stripes, defScope s_check_stripes, [], []⟩,
  ⟨("threads_of", none), "threads_of", "threads_of", defArgs s_threads_of, defBody s_threads_of, defScope s_threads_of, [], []⟩,
  ⟨("are_threads", none), "are_threads", "are_threads", defArgs s_are_threads, defBody s_are_threads, defScope s_are_threads, [], []⟩]
def fn1 : List He.DefD := [⟨("merged", none), "merged", "merged", defArgs s_merged, defBody s_merged, defScope s_merged, [], []⟩,
  ⟨("run_word", none), "run_word", "run_word", defArgs s_run_word, defBody s_run_word, defScope s_run_word, [], []⟩,
  ⟨("pivot_word", none), "pivot_word", "pivot_word", defArgs s_pivot_word, defBody s_pivot_word, defScope s_pivot_word, [], []⟩,
  ⟨("fold_word", none), "fold_word", "fold_word", defArgs s_fold_word, defBody s_fold_word, defScope s_fold_word, [], []⟩,
  ⟨("left_word", none), "left_word", "left_word", defArgs s_left_word, defBody s_left_word, defScope s_left_word, [], []⟩,
  ⟨("right_word", none), "right_word", "right_word", defArgs s_right_word, defBody s_right_word, defScope s_right_word, [], []⟩,
  ⟨("is_manner", none), "is_manner", "is_manner", defArgs s_is_manner, defBody s_is_manner, defScope s_is_manner, [], []⟩,
  ⟨("check_spot", none), "check_spot", "check_spot", defArgs s_check_spot, defBody s_check_spot, defScope s_check_spot, [], []⟩]
def fn2 : List He.DefD := [⟨("least_round", none), "least_round", "least_round", defArgs s_least_round, defBody s_least_round, defScope s_least_round, [], []⟩,
  ⟨("row_of_threads", none), "row_of_threads", "row_of_threads", defArgs s_row_of_threads, defBody s_row_of_threads, defScope s_row_of_threads, [], []⟩,
  ⟨("longest_agreement", none), "longest_agreement", "longest_agreement", defArgs s_longest_agreement, defBody s_longest_agreement, defScope s_longest_agreement, [], []⟩,
  ⟨("enough", none), "enough", "enough", defArgs s_enough, defBody s_enough, defScope s_enough, [], []⟩,
  ⟨("is_there", none), "is_there", "is_there", defArgs s_is_there, defBody s_is_there, defScope s_is_there, [], []⟩,
  ⟨("fits", none), "fits", "fits", defArgs s_fits, defBody s_fits, defScope s_fits, [], []⟩,
  ⟨("cut", none), "cut", "cut", defArgs s_cut, defBody s_cut, defScope s_cut, [], []⟩,
  ⟨("_law_pool", none), "_law_pool", "_law_pool", defArgs s_l_pool, defBody s_l_pool, defScope s_l_pool, [], []⟩]
def fn3 : List He.DefD := [⟨("_law_take", none), "_law_take", "_law_take", defArgs s_l_take, defBody s_l_take, defScope s_l_take, [], []⟩,
  ⟨("_law_far", none), "_law_far", "_law_far", defArgs s_l_far, defBody s_l_far, defScope s_l_far, [], []⟩,
  ⟨("_law_some_shades", none), "_law_some_shades", "_law_some_shades", defArgs s_l_some_shades, defBody s_l_some_shades, defScope s_l_some_shades, [], []⟩,
  ⟨("_law_parts", none), "_law_parts", "_law_parts", defArgs s_l_parts, defBody s_l_parts, defScope s_l_parts, [], []⟩,
  ⟨("_law_word", none), "_law_word", "_law_word", defArgs s_l_word, defBody s_l_word, defScope s_l_word, [], []⟩,
  ⟨("_law_round", none), "_law_round", "_law_round", defArgs s_l_round, defBody s_l_round, defScope s_l_round, [], []⟩,
  ⟨("_law_drawn", none), "_law_drawn", "_law_drawn", defArgs s_l_drawn, defBody s_l_drawn, defScope s_l_drawn, [], []⟩,
  ⟨("_law_among", none), "_law_among", "_law_among", defArgs s_l_among, defBody s_l_among, defScope s_l_among, [], []⟩]
def fn4 : List He.DefD := [⟨("_law_shown", none), "_law_shown", "_law_shown", defArgs s_l_shown, defBody s_l_shown, defScope s_l_shown, [], []⟩,
  ⟨("_law_piece_right", none), "_law_piece_right", "_law_piece_right", defArgs s_l_piece_right, defBody s_l_piece_right, defScope s_l_piece_right, [], []⟩,
  ⟨("_law_enough_right", none), "_law_enough_right", "_law_enough_right", defArgs s_l_enough_right, defBody s_l_enough_right, defScope s_l_enough_right, [], []⟩,
  ⟨("law", none), "law", "law", defArgs s_law, defBody s_law, defScope s_law, [], []⟩,
  ⟨("Row", some "__len__"), "__len__", "Row.__len__", defArgs s_R_len, defBody s_R_len, defScope s_R_len, [], []⟩,
  ⟨("Row", some "thread"), "thread", "Row.thread", defArgs s_R_thread, defBody s_R_thread, defScope s_R_thread, [], []⟩,
  ⟨("Row", some "threads"), "threads", "Row.threads", defArgs s_R_threads, defBody s_R_threads, defScope s_R_threads, [], []⟩,
  ⟨("Row", some "moved"), "moved", "Row.moved", defArgs s_R_moved, defBody s_R_moved, defScope s_R_moved, [], []⟩]
def fn5 : List He.DefD := [⟨("Row", some "alike"), "alike", "Row.alike", defArgs s_R_alike, defBody s_R_alike, defScope s_R_alike, [], []⟩,
  ⟨("Piece", some "__init__"), "__init__", "Piece.__init__", defArgs s_P_init, defBody s_P_init, defScope s_P_init, [], []⟩,
  ⟨("Piece", some "__len__"), "__len__", "Piece.__len__", defArgs s_P_len, defBody s_P_len, defScope s_P_len, [], []⟩,
  ⟨("Piece", some "__eq__"), "__eq__", "Piece.__eq__", defArgs s_P_eq, defBody s_P_eq, defScope s_P_eq, [], []⟩,
  ⟨("Piece", some "threads"), "threads", "Piece.threads", defArgs s_P_threads, defBody s_P_threads, defScope s_P_threads, [], []⟩,
  ⟨("Piece", some "joined"), "joined", "Piece.joined", defArgs s_P_joined, defBody s_P_joined, defScope s_P_joined, [], []⟩,
  ⟨("can_be", none), "can_be", "can_be", defArgs s_can_be, defBody s_can_be, defScope s_can_be, [.non], []⟩,
  ⟨("Row", some "__init__"), "__init__", "Row.__init__", defArgs s_R_init, defBody s_R_init, defScope s_R_init, [.str "run", .int 0], []⟩]
def fn : List He.DefD := fn0 ++ fn1 ++ fn2 ++ fn3 ++ fn4 ++ fn5
def loose0 : List PySem.Str := ["_wall",
  "__name__",
  "StripeError",
  "SpotError",
  "NoStripes",
  "NoThreads",
  "NoManner",
  "TooLong",
  "NoNumber",
  "NoSpot",
  "NoCut",
  "BIG",
  "MOST",
  "LETTERS",
  "is_whole",
  "is_between",
  "is_word",
  "is_shade",
  "is_stripe",
  "check_stripes"]
def loose1 : List PySem.Str := ["threads_of",
  "are_threads",
  "merged",
  "run_word",
  "pivot_word",
  "fold_word",
  "left_word",
  "right_word",
  "MANNERS",
  "is_manner",
  "check_spot",
  "least_round",
  "least_begun",
  "Row",
  "row_of_threads",
  "can_be",
  "longest_agreement",
  "enough",
  "is_there",
  "fits"]
def loose2 : List PySem.Str := ["Piece",
  "cut",
  "_law_pool",
  "_law_take",
  "_law_far",
  "_law_some_shades",
  "_law_parts",
  "_law_word",
  "_law_round",
  "_law_drawn",
  "_law_among",
  "_law_shown",
  "_law_piece_right",
  "_law_enough_right"]
def loose : List PySem.Str := loose0 ++ loose1 ++ loose2
def isiB (K : PySem.W.Frag) (C : Addr) : Bool := eqO (PySem.W.findIn K (.ref C) "__class__") (some (some (.builtin "object.__class__"))) && (eqO (PySem.W.specialIn K (.builtin "object.__class__") "__get__") (some (some (.builtin "getset_descriptor.__get__"))) &&
  (decide (PySem.W.takesIn K (.builtin "object.__class__") = some true) && decide (PySem.W.mroIn K C (.type "object") = some true)))
def manKV : List (Str × Dv) := [("run", .glo "run_word"), ("pivot", .glo "pivot_word"), ("fold", .glo "fold_word"), ("left", .glo "left_word"), ("right", .glo "right_word")]
def exB (K : PySem.W.Frag) : Bool := isiB K (ga K "Row") && (isiB K (ga K "Piece") && (eqO (PySem.W.findIn K (.ref (ga K "Piece")) "__ne__") (some (some (.builtin "object.__ne__"))) && valsB K (ga K "MANNERS") manKV))
def tabs : List Tab := [(fun K => ga K "MANNERS", ["run", "pivot", "fold", "left", "right"])]
abbrev Rw : PySem.W.OpenRow := PySem.W.OpenLaw.row PySem.Challenge.rw_stripelay_k27_whole_seen_in_part
abbrev hk : PySem.W.Hook := He.hookX 6 fa fn tabs [] exB
def ob (s : PySem.W.SharedT) : He.AlX := He.obsX 6 fa fn tabs [] exB (HandSHeadRun.getT s)
theorem ob_eq (s : PySem.W.SharedT) : ob s = hk.obs s.abs := He.obsX_eq (HandSHeadRun.getT_eq s)
theorem runF (w : World) : HandSHeadRun.RunEq Rw (PySem.W.view Rw.prog [60]) hk ob 6000 loose (w.withFollow "special-get-raises" false) := by
  intro os
  kernel_rfl
theorem runT (w : World) : HandSHeadRun.RunEq Rw (PySem.W.view Rw.prog [60]) hk ob 6000 loose (w.withFollow "special-get-raises" true) := by
  intro os
  kernel_rfl
theorem run (w : World) : HandSHeadRun.RunEq Rw (PySem.W.view Rw.prog [60]) hk ob 6000 loose w := PySem.W.byRow2 "special-get-raises" (P := fun w => HandSHeadRun.RunEq Rw (PySem.W.view Rw.prog [60]) hk ob 6000 loose w) runF runT w
end SL
set_option Elab.async false
set_option linter.all false
set_option maxRecDepth 100000
set_option maxHeartbeats 4000000
namespace SL
open PySem PySem.Spec PyProof.Rows L2 He
theorem isi_of {K : PySem.W.Frag} {C : Addr} (h : isiB K C = true) : IsiA K C := by
  unfold isiB at h
  obtain ⟨h1, h2⟩ := ba h
  obtain ⟨h2, h3⟩ := ba h2
  obtain ⟨h3, h4⟩ := ba h3
  exact ⟨eqO_ok h1, eqO_ok h2, of_decide_eq_true h3, of_decide_eq_true h4⟩
theorem gs_of {w : World} {K : PySem.W.Frag} {h : Heap} {mg : Str → Option Value} (X : K.In h) (G : h.Ns mainGlobals mg) (c : SaysX fa fn tabs [] exB w h K) : Gs K w mg := by
  have m0 := c.more
  unfold exB at m0
  obtain ⟨m1, m0⟩ := ba m0
  obtain ⟨m2, m0⟩ := ba m0
  obtain ⟨m3, m4⟩ := ba m0
  have kcb : PySem.W.keepIn K (.ref (ga K "can_be")) = true := by
    obtain ⟨fd, F⟩ := c.t.d.def_ 46 (d := ⟨("can_be", none), "can_be", "can_be", defArgs s_can_be, defBody s_can_be, defScope s_can_be, [.non], []⟩) rfl
    exact F.kp
  exact {
    f_is_whole := ⟨c.t.d.def_ 0 (d := ⟨("is_whole", none), "is_whole", "is_whole", defArgs s_is_whole, defBody s_is_whole, defScope s_is_whole, [], []⟩) rfl, glo_ok X G (c.t.d.fact 0 (f := .glo "is_whole") rfl)⟩,
    f_is_between := ⟨c.t.d.def_ 1 (d := ⟨("is_between", none), "is_between", "is_between", defArgs s_is_between, defBody s_is_between, defScope s_is_between, [], []⟩) rfl, glo_ok X G (c.t.d.fact 1 (f := .glo "is_between") rfl)⟩,
    f_is_word := ⟨c.t.d.def_ 2 (d := ⟨("is_word", none), "is_word", "is_word", defArgs s_is_word, defBody s_is_word, defScope s_is_word, [], []⟩) rfl, glo_ok X G (c.t.d.fact 2 (f := .glo "is_word") rfl)⟩,
    f_is_shade := ⟨c.t.d.def_ 3 (d := ⟨("is_shade", none), "is_shade", "is_shade", defArgs s_is_shade, defBody s_is_shade, defScope s_is_shade, [], []⟩) rfl, glo_ok X G (c.t.d.fact 3 (f := .glo "is_shade") rfl)⟩,
    f_is_stripe := ⟨c.t.d.def_ 4 (d := ⟨("is_stripe", none), "is_stripe", "is_stripe", defArgs s_is_stripe, defBody s_is_stripe, defScope s_is_stripe, [], []⟩) rfl, glo_ok X G (c.t.d.fact 4 (f := .glo "is_stripe") rfl)⟩,
    f_check_stripes := ⟨c.t.d.def_ 5 (d := ⟨("check_stripes", none), "check_stripes", "check_stripes", defArgs s_check_stripes, defBody s_check_stripes, defScope s_check_stripes, [], []⟩) rfl, glo_ok X G (c.t.d.fact 5 (f := .glo "check_stripes") rfl)⟩,
    f_threads_of := ⟨c.t.d.def_ 6 (d := ⟨("threads_of", none), "threads_of", "threads_of", defArgs s_threads_of, defBody s_threads_of, defScope s_threads_of, [], []⟩) rfl, glo_ok X G (c.t.d.fact 6 (f := .glo "threads_of") rfl)⟩,
    f_are_threads := ⟨c.t.d.def_ 7 (d := ⟨("are_threads", none), "are_threads", "are_threads", defArgs s_are_threads, defBody s_are_threads, defScope s_are_threads, [], []⟩) rfl, glo_ok X G (c.t.d.fact 7 (f := .glo "are_threads") rfl)⟩,
    f_merged := ⟨c.t.d.def_ 8 (d := ⟨("merged", none), "merged", "merged", defArgs s_merged, defBody s_merged, defScope s_merged, [], []⟩) rfl, glo_ok X G (c.t.d.fact 8 (f := .glo "merged") rfl)⟩,
    f_run_word := ⟨c.t.d.def_ 9 (d := ⟨("run_word", none), "run_word", "run_word", defArgs s_run_word, defBody s_run_word, defScope s_run_word, [], []⟩) rfl, glo_ok X G (c.t.d.fact 9 (f := .glo "run_word") rfl)⟩,
    f_pivot_word := ⟨c.t.d.def_ 10 (d := ⟨("pivot_word", none), "pivot_word", "pivot_word", defArgs s_pivot_word, defBody s_pivot_word, defScope s_pivot_word, [], []⟩) rfl, glo_ok X G (c.t.d.fact 10 (f := .glo "pivot_word") rfl)⟩,
    f_fold_word := ⟨c.t.d.def_ 11 (d := ⟨("fold_word", none), "fold_word", "fold_word", defArgs s_fold_word, defBody s_fold_word, defScope s_fold_word, [], []⟩) rfl, glo_ok X G (c.t.d.fact 11 (f := .glo "fold_word") rfl)⟩,
    f_left_word := ⟨c.t.d.def_ 12 (d := ⟨("left_word", none), "left_word", "left_word", defArgs s_left_word, defBody s_left_word, defScope s_left_word, [], []⟩) rfl, glo_ok X G (c.t.d.fact 12 (f := .glo "left_word") rfl)⟩,
    f_right_word := ⟨c.t.d.def_ 13 (d := ⟨("right_word", none), "right_word", "right_word", defArgs s_right_word, defBody s_right_word, defScope s_right_word, [], []⟩) rfl, glo_ok X G (c.t.d.fact 13 (f := .glo "right_word") rfl)⟩,
    f_is_manner := ⟨c.t.d.def_ 14 (d := ⟨("is_manner", none), "is_manner", "is_manner", defArgs s_is_manner, defBody s_is_manner, defScope s_is_manner, [], []⟩) rfl, glo_ok X G (c.t.d.fact 14 (f := .glo "is_manner") rfl)⟩,
    f_check_spot := ⟨c.t.d.def_ 15 (d := ⟨("check_spot", none), "check_spot", "check_spot", defArgs s_check_spot, defBody s_check_spot, defScope s_check_spot, [], []⟩) rfl, glo_ok X G (c.t.d.fact 15 (f := .glo "check_spot") rfl)⟩,
    f_least_round := ⟨c.t.d.def_ 16 (d := ⟨("least_round", none), "least_round", "least_round", defArgs s_least_round, defBody s_least_round, defScope s_least_round, [], []⟩) rfl, glo_ok X G (c.t.d.fact 16 (f := .glo "least_round") rfl)⟩,
    f_row_of_threads := ⟨c.t.d.def_ 17 (d := ⟨("row_of_threads", none), "row_of_threads", "row_of_threads", defArgs s_row_of_threads, defBody s_row_of_threads, defScope s_row_of_threads, [], []⟩) rfl, glo_ok X G (c.t.d.fact 17 (f := .glo "row_of_threads") rfl)⟩,
    f_longest_agreement := ⟨c.t.d.def_ 18 (d := ⟨("longest_agreement", none), "longest_agreement", "longest_agreement", defArgs s_longest_agreement, defBody s_longest_agreement, defScope s_longest_agreement, [], []⟩) rfl, glo_ok X G (c.t.d.fact 18 (f := .glo "longest_agreement") rfl)⟩,
    f_enough := ⟨c.t.d.def_ 19 (d := ⟨("enough", none), "enough", "enough", defArgs s_enough, defBody s_enough, defScope s_enough, [], []⟩) rfl, glo_ok X G (c.t.d.fact 19 (f := .glo "enough") rfl)⟩,
    f_is_there := ⟨c.t.d.def_ 20 (d := ⟨("is_there", none), "is_there", "is_there", defArgs s_is_there, defBody s_is_there, defScope s_is_there, [], []⟩) rfl, glo_ok X G (c.t.d.fact 20 (f := .glo "is_there") rfl)⟩,
    f_fits := ⟨c.t.d.def_ 21 (d := ⟨("fits", none), "fits", "fits", defArgs s_fits, defBody s_fits, defScope s_fits, [], []⟩) rfl, glo_ok X G (c.t.d.fact 21 (f := .glo "fits") rfl)⟩,
    f_cut := ⟨c.t.d.def_ 22 (d := ⟨("cut", none), "cut", "cut", defArgs s_cut, defBody s_cut, defScope s_cut, [], []⟩) rfl, glo_ok X G (c.t.d.fact 22 (f := .glo "cut") rfl)⟩,
    f_l_pool := ⟨c.t.d.def_ 23 (d := ⟨("_law_pool", none), "_law_pool", "_law_pool", defArgs s_l_pool, defBody s_l_pool, defScope s_l_pool, [], []⟩) rfl, glo_ok X G (c.t.d.fact 23 (f := .glo "_law_pool") rfl)⟩,
    f_l_take := ⟨c.t.d.def_ 24 (d := ⟨("_law_take", none), "_law_take", "_law_take", defArgs s_l_take, defBody s_l_take, defScope s_l_take, [], []⟩) rfl, glo_ok X G (c.t.d.fact 24 (f := .glo "_law_take") rfl)⟩,
    f_l_far := ⟨c.t.d.def_ 25 (d := ⟨("_law_far", none), "_law_far", "_law_far", defArgs s_l_far, defBody s_l_far, defScope s_l_far, [], []⟩) rfl, glo_ok X G (c.t.d.fact 25 (f := .glo "_law_far") rfl)⟩,
    f_l_some_shades := ⟨c.t.d.def_ 26 (d := ⟨("_law_some_shades", none), "_law_some_shades", "_law_some_shades", defArgs s_l_some_shades, defBody s_l_some_shades, defScope s_l_some_shades, [], []⟩) rfl, glo_ok X G (c.t.d.fact 26 (f := .glo "_law_some_shades") rfl)⟩,
    f_l_parts := ⟨c.t.d.def_ 27 (d := ⟨("_law_parts", none), "_law_parts", "_law_parts", defArgs s_l_parts, defBody s_l_parts, defScope s_l_parts, [], []⟩) rfl, glo_ok X G (c.t.d.fact 27 (f := .glo "_law_parts") rfl)⟩,
    f_l_word := ⟨c.t.d.def_ 28 (d := ⟨("_law_word", none), "_law_word", "_law_word", defArgs s_l_word, defBody s_l_word, defScope s_l_word, [], []⟩) rfl, glo_ok X G (c.t.d.fact 28 (f := .glo "_law_word") rfl)⟩,
    f_l_round := ⟨c.t.d.def_ 29 (d := ⟨("_law_round", none), "_law_round", "_law_round", defArgs s_l_round, defBody s_l_round, defScope s_l_round, [], []⟩) rfl, glo_ok X G (c.t.d.fact 29 (f := .glo "_law_round") rfl)⟩,
    f_l_drawn := ⟨c.t.d.def_ 30 (d := ⟨("_law_drawn", none), "_law_drawn", "_law_drawn", defArgs s_l_drawn, defBody s_l_drawn, defScope s_l_drawn, [], []⟩) rfl, glo_ok X G (c.t.d.fact 30 (f := .glo "_law_drawn") rfl)⟩,
    f_l_among := ⟨c.t.d.def_ 31 (d := ⟨("_law_among", none), "_law_among", "_law_among", defArgs s_l_among, defBody s_l_among, defScope s_l_among, [], []⟩) rfl, glo_ok X G (c.t.d.fact 31 (f := .glo "_law_among") rfl)⟩,
    f_l_shown := ⟨c.t.d.def_ 32 (d := ⟨("_law_shown", none), "_law_shown", "_law_shown", defArgs s_l_shown, defBody s_l_shown, defScope s_l_shown, [], []⟩) rfl, glo_ok X G (c.t.d.fact 32 (f := .glo "_law_shown") rfl)⟩,
    f_l_piece_right := ⟨c.t.d.def_ 33 (d := ⟨("_law_piece_right", none), "_law_piece_right", "_law_piece_right", defArgs s_l_piece_right, defBody s_l_piece_right, defScope s_l_piece_right, [], []⟩) rfl, glo_ok X G (c.t.d.fact 33 (f := .glo "_law_piece_right") rfl)⟩,
    f_l_enough_right := ⟨c.t.d.def_ 34 (d := ⟨("_law_enough_right", none), "_law_enough_right", "_law_enough_right", defArgs s_l_enough_right, defBody s_l_enough_right, defScope s_l_enough_right, [], []⟩) rfl, glo_ok X G (c.t.d.fact 34 (f := .glo "_law_enough_right") rfl)⟩,
    f_law := ⟨c.t.d.def_ 35 (d := ⟨("law", none), "law", "law", defArgs s_law, defBody s_law, defScope s_law, [], []⟩) rfl, glo_ok X G (c.t.d.fact 35 (f := .glo "law") rfl)⟩,
    m_R_len := ⟨c.t.d.def_ 36 (d := ⟨("Row", some "__len__"), "__len__", "Row.__len__", defArgs s_R_len, defBody s_R_len, defScope s_R_len, [], []⟩) rfl, meth_ok (c.t.d.fact 64 (f := .meth "Row" "__len__") rfl)⟩,
    m_R_thread := ⟨c.t.d.def_ 37 (d := ⟨("Row", some "thread"), "thread", "Row.thread", defArgs s_R_thread, defBody s_R_thread, defScope s_R_thread, [], []⟩) rfl, meth_ok (c.t.d.fact 65 (f := .meth "Row" "thread") rfl)⟩,
    m_R_threads := ⟨c.t.d.def_ 38 (d := ⟨("Row", some "threads"), "threads", "Row.threads", defArgs s_R_threads, defBody s_R_threads, defScope s_R_threads, [], []⟩) rfl, meth_ok (c.t.d.fact 66 (f := .meth "Row" "threads") rfl)⟩,
    m_R_moved := ⟨c.t.d.def_ 39 (d := ⟨("Row", some "moved"), "moved", "Row.moved", defArgs s_R_moved, defBody s_R_moved, defScope s_R_moved, [], []⟩) rfl, meth_ok (c.t.d.fact 67 (f := .meth "Row" "moved") rfl)⟩,
    m_R_alike := ⟨c.t.d.def_ 40 (d := ⟨("Row", some "alike"), "alike", "Row.alike", defArgs s_R_alike, defBody s_R_alike, defScope s_R_alike, [], []⟩) rfl, meth_ok (c.t.d.fact 68 (f := .meth "Row" "alike") rfl)⟩,
    m_P_init := ⟨c.t.d.def_ 41 (d := ⟨("Piece", some "__init__"), "__init__", "Piece.__init__", defArgs s_P_init, defBody s_P_init, defScope s_P_init, [], []⟩) rfl, meth_ok (c.t.d.fact 69 (f := .meth "Piece" "__init__") rfl)⟩,
    m_P_len := ⟨c.t.d.def_ 42 (d := ⟨("Piece", some "__len__"), "__len__", "Piece.__len__", defArgs s_P_len, defBody s_P_len, defScope s_P_len, [], []⟩) rfl, meth_ok (c.t.d.fact 70 (f := .meth "Piece" "__len__") rfl)⟩,
    m_P_eq := ⟨c.t.d.def_ 43 (d := ⟨("Piece", some "__eq__"), "__eq__", "Piece.__eq__", defArgs s_P_eq, defBody s_P_eq, defScope s_P_eq, [], []⟩) rfl, meth_ok (c.t.d.fact 71 (f := .meth "Piece" "__eq__") rfl)⟩,
    m_P_threads := ⟨c.t.d.def_ 44 (d := ⟨("Piece", some "threads"), "threads", "Piece.threads", defArgs s_P_threads, defBody s_P_threads, defScope s_P_threads, [], []⟩) rfl, meth_ok (c.t.d.fact 72 (f := .meth "Piece" "threads") rfl)⟩,
    m_P_joined := ⟨c.t.d.def_ 45 (d := ⟨("Piece", some "joined"), "joined", "Piece.joined", defArgs s_P_joined, defBody s_P_joined, defScope s_P_joined, [], []⟩) rfl, meth_ok (c.t.d.fact 73 (f := .meth "Piece" "joined") rfl)⟩,
    f_can_be := c.t.d.def_ 46 (d := ⟨("can_be", none), "can_be", "can_be", defArgs s_can_be, defBody s_can_be, defScope s_can_be, [.non], []⟩) rfl,
    g_can_be := glo_ok X G (c.t.d.fact 36 (f := .glo "can_be") rfl),
    k_can_be := kcb,
    f_R_init := c.t.d.def_ 47 (d := ⟨("Row", some "__init__"), "__init__", "Row.__init__", defArgs s_R_init, defBody s_R_init, defScope s_R_init, [.str "run", .int 0], []⟩) rfl,
    row := ⟨cls_ok (c.t.d.fact 58 (f := .cls "Row") rfl), noat_ok (c.t.d.fact 59 (f := .noat "Row" "kept") rfl), mkr_ok (c.t.d.fact 60 (f := .mkr "Row") rfl), glo_ok X G (c.t.d.fact 37 (f := .glo "Row") rfl), isi_of m1⟩,
    pie := ⟨cls_ok (c.t.d.fact 61 (f := .cls "Piece") rfl), noat_ok (c.t.d.fact 62 (f := .noat "Piece" "kept") rfl), mkr_ok (c.t.d.fact 63 (f := .mkr "Piece") rfl), glo_ok X G (c.t.d.fact 38 (f := .glo "Piece") rfl), isi_of m2⟩,
    neP := eqO_ok m3,
    big := int_ok X G (c.t.d.fact 55 (f := .int "BIG" (10 ^ 30)) rfl),
    most := int_ok X G (c.t.d.fact 56 (f := .int "MOST" 240) rfl),
    letters := str_ok X G (c.t.d.fact 57 (f := .str "LETTERS" "abcdefghijklmnopqrstuvwxyz") rfl),
    g_man := glo_ok X G (c.t.d.fact 39 (f := .glo "MANNERS") rfl),
    man := c.t.tab 0 rfl,
    man1 := valsB_ok (q := ("run", .glo "run_word")) m4 (by simp [manKV]),
    man2 := valsB_ok (q := ("pivot", .glo "pivot_word")) m4 (by simp [manKV]),
    man3 := valsB_ok (q := ("fold", .glo "fold_word")) m4 (by simp [manKV]),
    man4 := valsB_ok (q := ("left", .glo "left_word")) m4 (by simp [manKV]),
    man5 := valsB_ok (q := ("right", .glo "right_word")) m4 (by simp [manKV]),
    z_len := free_ok X G (c.t.d.fact 40 (f := .free "len") rfl),
    z_isinstance := free_ok X G (c.t.d.fact 41 (f := .free "isinstance") rfl),
    z_int := free_ok X G (c.t.d.fact 42 (f := .free "int") rfl),
    z_bool := free_ok X G (c.t.d.fact 43 (f := .free "bool") rfl),
    z_str := free_ok X G (c.t.d.fact 44 (f := .free "str") rfl),
    z_tuple := free_ok X G (c.t.d.fact 45 (f := .free "tuple") rfl),
    z_all := free_ok X G (c.t.d.fact 46 (f := .free "all") rfl),
    z_enumerate := free_ok X G (c.t.d.fact 47 (f := .free "enumerate") rfl),
    z_range := free_ok X G (c.t.d.fact 48 (f := .free "range") rfl),
    z_max := free_ok X G (c.t.d.fact 49 (f := .free "max") rfl),
    z_min := free_ok X G (c.t.d.fact 50 (f := .free "min") rfl),
    z_sum := free_ok X G (c.t.d.fact 51 (f := .free "sum") rfl),
    z_abs := free_ok X G (c.t.d.fact 52 (f := .free "abs") rfl),
    z_divmod := free_ok X G (c.t.d.fact 53 (f := .free "divmod") rfl),
    z_list := free_ok X G (c.t.d.fact 54 (f := .free "list") rfl)
  }
end SL
set_option Elab.async false
set_option linter.all false
set_option maxRecDepth 100000
set_option maxHeartbeats 0
namespace SL
open PySem PySem.Spec PyProof.Rows L2 He
theorem facts {P : Program} {w : World} {K : PySem.W.Frag} {h : Heap} {mg : Str → Option Value} {f : Addr} (X : K.In h) (G : h.Ns mainGlobals mg) (hfa : mg ("law" : Str) = some (.ref f)) (c : SaysX fa fn tabs [] exB w h K) :
    ∃ fd : FuncData, (∀ (s : Shared) (v : Value), BindsTo s fd ⟨[v], []⟩ [("_law_script", v)]) ∧ ∀ base : Heap, K.In base → base.Ns mainGlobals mg → FnOk P w K mg base CX0 12 f fd ["_law_script"] (spLaw K) := by
  have Gg : Gs K w mg := gs_of X G c
  obtain ⟨⟨fd, F⟩, gl⟩ := Gg.f_law
  have e := hfa.symm.trans gl
  cases e
  have b := FunD.bindsA (ps := ["_law_script"]) F fun _ _ _ _ _ _ us hl => match us, hl with | [_], _ => rfl
  exact ⟨fd, fun s v => b s [v] rfl, fun base _ _ => ok_law F Gg⟩
end SL
open PySem PySem.W PySem.Calls PyProof.Rows
theorem PySem.Challenge.cw_stripelay_k27_whole_seen_in_part_holds : PySem.Challenge.rw_stripelay_k27_whole_seen_in_part.Holds := by
  w_on; o_law
  refine HandSHeadRun.head_any (r := OpenLaw.row PySem.Challenge.rw_stripelay_k27_whole_seen_in_part) (q := view (OpenLaw.row PySem.Challenge.rw_stripelay_k27_whole_seen_in_part).prog [60]) (H := SL.hk) (ob := SL.ob) (M := 6000) (loose := SL.loose) (d := HandSHeadRun.topDef (OpenLaw.row PySem.Challenge.rw_stripelay_k27_whole_seen_in_part).prog 60) (kwd := []) SL.ob_eq
    (by kernel_rfl) (fun s => by kernel_rfl) SL.run (by kernel_rfl) (by kernel_rfl) (by kernel_rfl) (by rfl) (by first | assumption | decide +kernel) (by decide +kernel) ⟨rfl, rfl, rfl, rfl, rfl, by decide +kernel⟩ ?hw ?hc
  case hw => w_witness2
  case hc =>
    refine L2.walk_ofE (l := PySem.Challenge.rw_stripelay_k27_whole_seen_in_part) (n := 63) (k := 12) (x := "_law_script") (CX := L2.CX0) rfl (by decide) (by kernel_rfl) ⟨rfl, by decide, by decide⟩ ?F (fun _ _ _ _ z => z)
    intro w mg fa h Y G hmg0
    obtain ⟨K, KX, c⟩ := Y
    have hmg : mg ("law" : PySem.Str) = some (.ref fa) := by
      have e : (HandSHeadRun.topDef (OpenLaw.row PySem.Challenge.rw_stripelay_k27_whole_seen_in_part).prog 60).name = ("law" : PySem.Str) := by kernel_rfl
      rw [← e]
      exact hmg0
    obtain ⟨fd, hb, hF⟩ := SL.facts (P := (PySem.Challenge.rw_stripelay_k27_whole_seen_in_part).prog) (w := w) KX G hmg c
    exact ⟨K, fd, SL.spLaw K, KX, hb, fun H a ns hl _ hS => ⟨a, ns, rfl, hS, fun _ => rfl⟩, hF⟩
