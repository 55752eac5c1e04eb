import PyProof.Rows.All
import Wide.All
import OpenK.AllK
import Wide.FinOn
import Lean
import PySem.Challenge.RW_sa0063_01
open PySem PySem.W PySem.Calls PyProof.Rows
set_option Elab.async false
set_option maxRecDepth 100000
set_option maxHeartbeats 8000000
namespace Mine
local macro_rules | `(tactic| omega) => `(tactic| lia)
local macro_rules | `(tactic| k_qdec) => `(tactic| decide +kernel)
-- piece 01
-- needs: -
-- pure
def figs (n : Int) : Int := if h : n < 10 then 1 else 1 + figs (n / 10)
termination_by n.toNat
decreasing_by omega
theorem figs_small {n : Int} (h : n < 10) : figs n = 1 := by rw [figs]; simp [h]
theorem figs_big {n : Int} (h : ¬ n < 10) : figs n = 1 + figs (n / 10) := by rw [figs]; simp [h]
theorem figs_pos (n : Int) : 1 ≤ figs n := by
  by_cases h : n < 10
  · rw [figs_small h]; decide
  · rw [figs_big h]; have := figs_pos (n / 10); omega
termination_by n.toNat
decreasing_by omega
theorem pow10_pos (k : Nat) : (1 : Int) ≤ 10 ^ k := by
  induction k with
  | zero => decide
  | succ k ih => rw [Int.pow_succ]; omega
theorem pow10_succ (k : Nat) : (10 : Int) ^ (k + 1) = 10 ^ k * 10 := Int.pow_succ _ _
/-- 10 ^ k ≤ n < 10 ^ (k + 1) says that n has k + 1 figures -/
theorem figs_of {n : Int} {k : Nat} (h1 : 10 ^ k ≤ n) (h2 : n < 10 ^ (k + 1)) : figs n = k + 1 := by
  induction k generalizing n with
  | zero => rw [figs_small (by simpa using h2)]; rfl
  | succ k ih =>
    rw [pow10_succ] at h1 h2
    have hp := pow10_pos k
    have h : ¬ n < 10 := by omega
    rw [figs_big h, ih (n := n / 10) (by omega) (by rw [pow10_succ] at *; omega)]
    omega
def FigW (n many bound : Int) : Prop := ∃ k : Nat, many = (k : Int) + 1 ∧ bound = 10 ^ (k + 1) ∧ (k = 0 ∨ 10 ^ k ≤ n) ∧ 10 ≤ bound
theorem figW0 {n : Int} : FigW n 1 10 := ⟨0, rfl, rfl, .inl rfl, by decide⟩
theorem figW1 {n many bound : Int} (h : FigW n many bound) (hb : bound ≤ n) : FigW n (many + 1) (bound * 10) := by
  obtain ⟨k, h1, h2, h3, h4⟩ := h
  exact ⟨k + 1, by omega, by rw [h2, Int.pow_succ _ (k+1)], .inr (by rw [← h2]; exact hb), by omega⟩
theorem figs_end {n many bound : Int} (h : FigW n many bound) (hb : ¬ bound ≤ n) : many = figs n := by
  obtain ⟨k, h1, h2, h3, h4⟩ := h
  rw [h2] at hb
  rcases h3 with rfl | h3
  · rw [figs_small (by simpa using hb)]; simpa using h1
  · rw [figs_of h3 (by omega), h1]
theorem figW_pos {n many bound : Int} (h : FigW n many bound) (hb : bound ≤ n) : (n + 1 - bound * 10).toNat < (n + 1 - bound).toNat := by
  obtain ⟨k, h1, h2, h3, h4⟩ := h
  omega

-- piece 02
-- needs: 01
-- pure
/-- rounded_by: half to even at 10 ^ p -/
def rnd (n p : Int) : Int :=
  if p ≤ 0 then n else if figs n + 1 < p then 0 else
    if 10 ^ p.toNat < 2 * (n % 10 ^ p.toNat) ∨ (2 * (n % 10 ^ p.toNat) = 10 ^ p.toNat ∧ n / 10 ^ p.toNat % 2 = 1) then n / 10 ^ p.toNat + 1 else n / 10 ^ p.toNat
theorem pow10_lt (k : Nat) : (0 : Int) < 10 ^ k := by have := pow10_pos k; omega
theorem pow10_log {k : Nat} (h : k ≤ 200) : ((10 : Int) ^ k).natAbs.log2 < 9000 := by
  have e : ((10 : Int) ^ k).natAbs = 10 ^ k := by rw [Int.natAbs_pow]; rfl
  rw [e]
  have h1 : 10 ^ k ≤ 10 ^ 200 := Nat.pow_le_pow_right (by decide) h
  have h2 : (10 : Nat) ^ k ≠ 0 := Nat.ne_of_gt (Nat.pow_pos (by decide))
  rw [Nat.log2_lt h2]
  exact Nat.lt_of_le_of_lt h1 (by decide +kernel)
theorem fdiv_pos {a b : Int} (h : 0 < b) : a.fdiv b = a / b := Int.fdiv_eq_ediv_of_nonneg _ (by omega)
theorem fmod_pos {a b : Int} (h : 0 < b) : a.fmod b = a % b := Int.fmod_eq_emod_of_nonneg _ (by omega)

/-- half to even: n at 10 ^ k -/
def hlf (n : Int) (k : Nat) : Int := if 10 ^ k < 2 * (n % 10 ^ k) ∨ (2 * (n % 10 ^ k) = 10 ^ k ∧ n / 10 ^ k % 2 = 1) then n / 10 ^ k + 1 else n / 10 ^ k
theorem rnd_hlf {n p : Int} (h0 : ¬ p ≤ 0) (h1 : ¬ figs n + 1 < p) : rnd n p = hlf n p.toNat := by
  unfold rnd hlf
  rw [if_neg h0, if_neg h1]

-- piece 03
-- needs: 02
-- pure
theorem figs_ten {s : Int} (h : 0 < s) (hm : s % 10 = 0) : figs s = 1 + figs (s / 10) := figs_big (by omega)
def stripZ (s e : Int) : Int × Int := if h : 0 < s ∧ s % 10 = 0 then stripZ (s / 10) (e + 1) else (s, e)
termination_by s.toNat
decreasing_by omega
theorem stripZ_go {s e : Int} (h : 0 < s) (hm : s % 10 = 0) : stripZ s e = stripZ (s / 10) (e + 1) := by rw [stripZ, dif_pos ⟨h, hm⟩]
theorem stripZ_end {s e : Int} (hm : s % 10 ≠ 0) : stripZ s e = (s, e) := by rw [stripZ, dif_neg fun h => hm h.2]
theorem lt_pow_figs {n : Int} : n < 10 ^ (figs n).toNat := by
  by_cases h : n < 10
  · rw [figs_small h]; simpa using h
  · have ih := lt_pow_figs (n := n / 10)
    have hp := figs_pos (n / 10)
    rw [figs_big h, show (1 + figs (n / 10)).toNat = (figs (n / 10)).toNat + 1 from by omega, pow10_succ]
    omega
termination_by n.toNat
decreasing_by omega
theorem figs_le {n : Int} {k : Nat} (hk : 1 ≤ k) (h : n < 10 ^ k) : figs n ≤ k := by
  induction k generalizing n with
  | zero => omega
  | succ k ih =>
    by_cases h1 : n < 10
    · rw [figs_small h1]; omega
    · rw [figs_big h1]
      by_cases hk0 : k = 0
      · subst hk0; simp at h; omega
      · rw [pow10_succ] at h
        have := ih (n := n / 10) (by omega) (by omega)
        omega
theorem pow10_le {a b : Nat} (h : a ≤ b) : (10 : Int) ^ a ≤ 10 ^ b := by
  obtain ⟨c, rfl⟩ := Nat.exists_eq_add_of_le h
  rw [Int.pow_add]
  have h1 := pow10_pos a; have h2 := pow10_pos c
  calc (10 : Int) ^ a = 10 ^ a * 1 := by omega
    _ ≤ 10 ^ a * 10 ^ c := Int.mul_le_mul_of_nonneg_left h2 (by omega)
theorem rnd_nonneg {n p : Int} (h : 0 ≤ n) : 0 ≤ rnd n p := by
  unfold rnd
  have hq : 0 ≤ n / 10 ^ p.toNat := Int.ediv_nonneg h (Int.le_of_lt (pow10_lt _))
  (repeat' split) <;> omega
theorem div_mul_bounds {n : Int} (k : Nat) : 10 ^ k * (n / 10 ^ k) ≤ n ∧ n < 10 ^ k * (n / 10 ^ k) + 10 ^ k := by
  have h1 := Int.mul_ediv_add_emod n (10 ^ k)
  have h2 := Int.emod_nonneg n (Int.ne_of_gt (pow10_lt k))
  have h3 := Int.emod_lt_of_pos n (pow10_lt k)
  omega
/-- rounding at p figures gives at most 10 ^ (figs - p) -/
theorem rnd_le {n p : Int} (hp : 0 < p) (hf : p ≤ figs n) : rnd n p ≤ 10 ^ (figs n - p).toNat := by
  have h1 : n < 10 ^ (figs n).toNat := lt_pow_figs
  have e : (figs n).toNat = p.toNat + (figs n - p).toNat := by omega
  rw [e, Int.pow_add] at h1
  have h3 : n / 10 ^ p.toNat < 10 ^ (figs n - p).toNat := Int.ediv_lt_of_lt_mul (pow10_lt _) (by rw [Int.mul_comm]; exact h1)
  unfold rnd
  (repeat' split) <;> omega
/-- what made gives where it neither overflows nor vanishes -/
def mad (c e d : Int) : Int × Int :=
  if figs c.natAbs - d > 0 then
    (if rnd c.natAbs (figs c.natAbs - d) = 0 then (0, 0) else
      (if c < 0 then -(stripZ (rnd c.natAbs (figs c.natAbs - d)) (e + (figs c.natAbs - d))).1 else (stripZ (rnd c.natAbs (figs c.natAbs - d)) (e + (figs c.natAbs - d))).1,
       (stripZ (rnd c.natAbs (figs c.natAbs - d)) (e + (figs c.natAbs - d))).2))
  else if (c.natAbs : Int) = 0 then (0, 0) else
    (if c < 0 then -(stripZ c.natAbs e).1 else (stripZ c.natAbs e).1, (stripZ c.natAbs e).2)

theorem figs_mono {a b : Int} (h : a ≤ b) : figs a ≤ figs b := by
  have h1 := lt_pow_figs (n := b)
  have h2 := figs_pos b
  have := figs_le (n := a) (k := (figs b).toNat) (by omega) (by omega)
  omega
theorem figs_pow (k : Nat) : figs (10 ^ k) = k + 1 := figs_of (Int.le_refl _) (by rw [pow10_succ]; have := pow10_pos k; omega)
theorem figs_rnd {n d : Int} (hd : 0 ≤ d) (hp : 0 < figs n - d) : figs (rnd n (figs n - d)) ≤ d + 1 := by
  have h := rnd_le hp (show figs n - d ≤ figs n by omega)
  have h2 := figs_mono h
  rw [figs_pow] at h2
  omega
def MadW (s0 e0 s e : Int) : Prop := 0 < s ∧ stripZ s e = stripZ s0 e0 ∧ e + figs s ≤ 99 ∧ -98 ≤ e + figs s
theorem madW0 {s e : Int} (h0 : 0 ≤ s) (hn : s ≠ 0) (h1 : e + figs s ≤ 99) (h2 : -98 ≤ e + figs s) : MadW s e s e := ⟨by omega, rfl, h1, h2⟩
theorem madW1 {s0 e0 s e : Int} (h : MadW s0 e0 s e) (hm : s % 10 = 0) : MadW s0 e0 (s / 10) (e + 1) := by
  obtain ⟨h1, h2, h3, h4⟩ := h
  have hf := figs_ten h1 hm
  exact ⟨by omega, by rw [← h2, stripZ_go h1 hm], by omega, by omega⟩
theorem madW_m {s0 e0 s e : Int} (h : MadW s0 e0 s e) (hm : s % 10 = 0) : (s / 10).toNat < s.toNat := by
  have := h.1; omega
theorem madW_end {s0 e0 s e : Int} (h : MadW s0 e0 s e) (hm : ¬ s % 10 = 0) : stripZ s0 e0 = (s, e) ∧ e + figs s ≤ 99 ∧ -98 ≤ e + figs s := ⟨by rw [← h.2.1, stripZ_end hm], h.2.2⟩
theorem mad_zero {e d : Int} (hd : 1 ≤ d) : mad 0 e d = (0, 0) := by
  unfold mad
  have h : figs ((0 : Int).natAbs : Int) = 1 := figs_small (by decide)
  rw [h, if_neg (by omega), if_pos (show ((0 : Int).natAbs : Int) = 0 from rfl)]

theorem hlf_far {n : Int} (h : 0 ≤ n) : hlf n (figs n + 1).toNat = 0 := by
  have h1 := lt_pow_figs (n := n)
  have h2 := figs_pos n
  have e : (figs n + 1).toNat = (figs n).toNat + 1 := by omega
  have h3 : n < 10 ^ (figs n + 1).toNat := by rw [e, pow10_succ]; have := pow10_pos (figs n).toNat; omega
  have h4 : n / 10 ^ (figs n + 1).toNat = 0 := Int.ediv_eq_zero_of_lt h h3
  have h5 : n % 10 ^ (figs n + 1).toNat = n := Int.emod_eq_of_lt h h3
  have h6 : 2 * n < 10 ^ (figs n + 1).toNat := by rw [e, pow10_succ]; omega
  unfold hlf
  rw [h4, h5, if_neg (by omega)]
theorem rnd_min {n p : Int} (h : 0 ≤ n) (hp : ¬ p ≤ 0) : hlf n (min p (figs n + 1)).toNat = rnd n p := by
  by_cases h1 : figs n + 1 < p
  · rw [show min p (figs n + 1) = figs n + 1 by omega, hlf_far h]
    unfold rnd
    rw [if_neg hp, if_pos h1]
  · rw [show min p (figs n + 1) = p by omega, rnd_hlf hp h1]
theorem rnd_lt {n p : Int} {k : Nat} (h0 : 0 ≤ n) (hn : n < 10 ^ k) : rnd n p ≤ 10 ^ k := by
  unfold rnd
  have hq : n / 10 ^ p.toNat ≤ n := Int.ediv_le_self _ h0
  (repeat' split) <;> omega
/-- d_round -/
def drd (c e p : Int) : Int × Int := if 0 - p - e ≤ 0 then (c, e) else if c = 0 then (c, e) else
  if rnd c.natAbs (0 - p - e) = 0 then (0, 0) else mad (if 0 < c then rnd c.natAbs (0 - p - e) else 0 - rnd c.natAbs (0 - p - e)) (e + (0 - p - e)) 9
/-- scaled -/
def scl (c e p : Int) : Int := if 0 ≤ e + p then c * 10 ^ (e + p).toNat else rnd c (-e - p)
theorem scl_bd {c e p : Int} (h0 : 0 ≤ c) (hc : c < 10 ^ 12) (h : e + p ≤ 30) : 0 ≤ scl c e p ∧ figs (scl c e p) ≤ 50 := by
  unfold scl
  split
  · have hp := pow10_pos (e + p).toNat
    refine ⟨Int.mul_nonneg h0 (by omega), ?_⟩
    refine figs_le (k := 50) (by decide) ?_
    have h1 : (10 : Int) ^ (e + p).toNat ≤ 10 ^ 30 := pow10_le (by omega)
    have h2 : c * 10 ^ (e + p).toNat ≤ 10 ^ 12 * 10 ^ (e + p).toNat := Int.mul_le_mul_of_nonneg_right (by omega) (by omega)
    have h3 : (10 : Int) ^ 12 * 10 ^ (e + p).toNat ≤ 10 ^ 12 * 10 ^ 30 := Int.mul_le_mul_of_nonneg_left h1 (by decide)
    have h4 : (10 : Int) ^ 12 * 10 ^ 30 < 10 ^ 50 := by decide
    omega
  · have h1 := rnd_nonneg (n := c) (p := -e - p) h0
    have h2 := rnd_lt (n := c) (p := -e - p) (k := 12) h0 hc
    exact ⟨h1, figs_le (k := 50) (by decide) (by have : (10 : Int) ^ 12 < 10 ^ 50 := by decide
                                                 omega)⟩

-- piece 04
-- needs: 03
-- pure
open PyProof PySem.Builtin.Str
abbrev Lz (x : PySem.Str) : List Nat := x.cps.toList
abbrev St (l : List Nat) : PySem.Str := ⟨l.toArray⟩
theorem lz_st (l : List Nat) : Lz (St l) = l := rfl
theorem st_lz (x : PySem.Str) : St (Lz x) = x := rfl
theorem lz_append (x y : PySem.Str) : Lz (x ++ y) = Lz x ++ Lz y := by
  show (x ++ y).cps.toList = _
  rw [PySem.Str.cps_append, Array.toList_append]
theorem lz_length (x : PySem.Str) : (Lz x).length = x.length := rfl
theorem lz_inj {x y : PySem.Str} (h : Lz x = Lz y) : x = y := by
  obtain ⟨a⟩ := x; obtain ⟨b⟩ := y
  have h' : a = b := Array.toList_inj.mp h
  rw [h']
theorem beq_lz (x y : PySem.Str) : (x == y) = (Lz x == Lz y) := by
  by_cases h : x = y
  · subst h; simp
  · have h2 : Lz x ≠ Lz y := fun e => h (lz_inj e)
    rw [beq_eq_false_iff_ne.mpr h, beq_eq_false_iff_ne.mpr h2]
def clipN (v : Option Int) (d n : Nat) : Nat := match v with
  | none => d
  | some i => (max 0 (min (if i < 0 then i + n else i) (n : Int))).toNat
theorem range_plain {a b : Nat} : sliceRange (a : Int) (b : Int) 1 = (List.range (b - a)).map fun k => a + k := by
  unfold sliceRange
  have e1 : ((1 : Int) > 0) = True := by simp
  simp only [e1, if_true]
  by_cases h : (a : Int) < b
  · rw [if_pos h, show (((b : Int) - a + 1 - 1) / 1).toNat = b - a by rw [Int.ediv_one]; omega]
    exact List.map_congr_left fun k _ => by omega
  · rw [if_neg h, show b - a = 0 by omega]; rfl
theorem sidx_gen (lo hi : Option Int) (n : Nat) : strSliceIndices lo hi 1 n = (List.range (clipN hi n n - clipN lo 0 n)).map fun k => clipN lo 0 n + k := by
  rw [← range_plain]
  unfold strSliceIndices
  have e1 : ((1 : Int) > 0) = True := by simp
  simp only [e1, if_true]
  congr 1
  · cases lo with
    | none => rfl
    | some i => unfold clipN; simp only; omega
  · cases hi with
    | none => rfl
    | some i => unfold clipN; simp only; omega
theorem picks_gen (l : List Nat) (a m : Nat) (h : a + m ≤ l.length) : ((List.range m).map fun k => a + k).filterMap (l[·]?) = (l.drop a).take m := by
  have := StrLaws.picks l m a h
  simpa using this
theorem slice_lz (x : PySem.Str) (lo hi : Option Int) : Lz (Txt.slice x lo hi) = ((Lz x).drop (clipN lo 0 x.length)).take (clipN hi x.length x.length - clipN lo 0 x.length) := by
  have hb : clipN hi x.length x.length ≤ x.length := by cases hi <;> (unfold clipN; simp only; omega)
  have ha : clipN lo 0 x.length ≤ x.length := by cases lo <;> (unfold clipN; simp only; omega)
  have hp := picks_gen (Lz x) (clipN lo 0 x.length) (clipN hi x.length x.length - clipN lo 0 x.length) (by rw [lz_length]; omega)
  unfold Txt.slice
  split
  · rename_i he
    rw [sidx_gen] at he
    simp only [BEq.rfl, Bool.true_and, List.length_map, List.length_range, beq_iff_eq] at he
    have e0 : clipN lo 0 x.length = 0 := by omega
    have e1 : clipN hi x.length x.length = x.length := by omega
    rw [e0, e1, List.drop_zero, Nat.sub_zero, ← lz_length, List.take_length]
  · rw [sidx_gen]
    show List.filterMap (fun i => x.cps[i]?) _ = _
    rw [← hp]
    congr 1
    funext i
    exact (Array.getElem?_toList).symm

-- piece 05
-- needs: 04
-- pure
theorem ofs_eq {s : String} {l : List Nat} (h : PySem.Str.ofString s = St l) : Lz (PySem.Str.ofString s) = l := by rw [h]
/-- padded_figures -/
def padL (n k : Int) (f : List Nat) : List Nat := if 0 < n ∨ (f.length : Int) < k then padL (n / 10) k ((48 + (n % 10).toNat) :: f) else f
termination_by n.toNat + (k - f.length).toNat
decreasing_by
  rename_i h
  simp only [List.length_cons]
  rcases h with h | h <;> omega
theorem padL_go {n k : Int} {f : List Nat} (h : 0 < n ∨ (f.length : Int) < k) : padL n k f = padL (n / 10) k ((48 + (n % 10).toNat) :: f) := by rw [padL, if_pos h]
theorem padL_end {n k : Int} {f : List Nat} (h : ¬ (0 < n ∨ (f.length : Int) < k)) : padL n k f = f := by rw [padL, if_neg h]
theorem item_digit {n : Int} : Txt.item (PySem.Str.ofString "0123456789") (n % 10) = St [48 + (n % 10).toNat] := by
  have h : ∀ k : Nat, k < 10 → Txt.item (PySem.Str.ofString "0123456789") (k : Int) = St [48 + k] := by decide +kernel
  have h2 := h (n % 10).toNat (by omega)
  rwa [show (((n % 10).toNat : Nat) : Int) = n % 10 by omega] at h2
def PadW (n0 k : Int) (found : PySem.Str) (n : Int) : Prop :=
  padL n k (Lz found) = padL n0 k [] ∧ 0 ≤ n ∧ (0 < n → (found.length : Int) + figs n ≤ 50) ∧ found.length ≤ 101
theorem padW0 {n k : Int} (h0 : 0 ≤ n) (h : figs n ≤ 50) : PadW n k (PySem.Str.ofString "") n :=
  ⟨by rw [ofs_eq (l := []) (by decide +kernel)], h0, fun _ => by rw [show (PySem.Str.ofString "").length = 0 by decide +kernel]; omega, by decide +kernel⟩
theorem padW1 {n0 k n : Int} {found : PySem.Str} (hk : k ≤ 100) (h : PadW n0 k found n) (hc : 0 < n ∨ (found.length : Int) < k) : PadW n0 k (Txt.item (PySem.Str.ofString "0123456789") (n % 10) ++ found) (n / 10) := by
  obtain ⟨h1, h2, h3, h4⟩ := h
  have hl : (Txt.item (PySem.Str.ofString "0123456789") (n % 10) ++ found).length = found.length + 1 := by rw [PySem.Str.length_append, item_digit]; show 1 + _ = _; omega
  refine ⟨?_, by omega, fun hn => ?_, ?_⟩
  · rw [← h1, lz_append, item_digit, lz_st, padL_go (f := Lz found) hc]; rfl
  · rw [hl]
    have := h3 (by omega)
    have := figs_big (n := n) (by omega)
    omega
  · rw [hl]
    rcases hc with hc | hc
    · have := h3 hc; have := figs_pos n; omega
    · omega
theorem padW_m {n0 k n : Int} {found : PySem.Str} (h : PadW n0 k found n) (hc : 0 < n ∨ (found.length : Int) < k) :
    (n / 10).toNat + (k - (Txt.item (PySem.Str.ofString "0123456789") (n % 10) ++ found).length).toNat < n.toNat + (k - found.length).toNat := by
  have hl : (Txt.item (PySem.Str.ofString "0123456789") (n % 10) ++ found).length = found.length + 1 := by rw [PySem.Str.length_append, item_digit]; show 1 + _ = _; omega
  have h2 := h.2.1
  rw [hl]
  rcases hc with hc | hc <;> omega
theorem padW_len {n0 k n : Int} {found : PySem.Str} (h : PadW n0 k found n) : found.length ≤ 101 := h.2.2.2
theorem padW_end {n0 k n : Int} {found : PySem.Str} (h : PadW n0 k found n) (hc : ¬ 0 < n) (hc' : ¬ (found.length : Int) < k) : found = St (padL n0 k []) := by
  rw [← h.1, padL_end (by rw [lz_length]; omega)]
theorem padL_length {n k : Int} {f : List Nat} (h0 : 0 ≤ n) : (padL n k f).length = max (f.length + (if n = 0 then 0 else (figs n).toNat)) (max f.length k.toNat) := by
  by_cases hc : 0 < n ∨ (f.length : Int) < k
  · rw [padL_go hc, padL_length (n := n / 10) (by omega)]
    simp only [List.length_cons]
    have hp := figs_pos (n / 10)
    by_cases h10 : n < 10
    · have e : n / 10 = 0 := by omega
      rw [if_pos e]
      by_cases hz : n = 0
      · rw [if_pos hz]; omega
      · rw [if_neg hz, figs_small h10]; omega
    · rw [if_neg (by omega), if_neg (by omega), figs_big h10]; omega
  · rw [padL_end hc]
    have : n = 0 := by omega
    rw [if_pos this]; omega
termination_by n.toNat + (k - f.length).toNat
decreasing_by
  simp only [List.length_cons]
  rcases hc with h | h <;> omega
theorem padL_le {n k : Int} (h0 : 0 ≤ n) (hn : figs n ≤ 50) (hk : k ≤ 50) : (St (padL n k [])).length ≤ 50 := by
  show (padL n k []).length ≤ 50
  rw [padL_length h0]
  simp only [List.length_nil]
  split <;> omega

-- piece 06
-- needs: 05
-- pure
/-- grouped -/
def grpL (x f : List Nat) : List Nat :=
  if h : 3 < x.length then grpL (x.take (x.length - 3)) ((x.take (x.length - 3)).drop ((x.take (x.length - 3)).length - 3) ++ 44 :: f) else f
termination_by x.length
decreasing_by simp only [List.length_take]; omega
theorem grpL_go {x f : List Nat} (h : 3 < x.length) : grpL x f = grpL (x.take (x.length - 3)) ((x.take (x.length - 3)).drop ((x.take (x.length - 3)).length - 3) ++ 44 :: f) := by rw [grpL, dif_pos h]
theorem grpL_end {x f : List Nat} (h : ¬ 3 < x.length) : grpL x f = f := by rw [grpL, dif_neg h]
def grp (x : List Nat) : List Nat := grpL x (x.drop (x.length - 3))
theorem lz_last3 (x : PySem.Str) : Lz (Txt.slice x (some (-3)) none) = (Lz x).drop ((Lz x).length - 3) := by
  rw [slice_lz]
  unfold clipN
  simp only [lz_length]
  rw [List.take_of_length_le (by rw [List.length_drop, lz_length]; omega)]
  congr 1
  omega
theorem lz_but3 (x : PySem.Str) : Lz (Txt.slice x none (some (-3))) = (Lz x).take ((Lz x).length - 3) := by
  rw [slice_lz]
  unfold clipN
  simp only [lz_length, List.drop_zero]
  congr 1
  omega
def GrpW (x0 figures found : PySem.Str) : Prop := grpL (Lz figures) (Lz found) = grp (Lz x0) ∧ figures.length ≤ 100 ∧ found.length + 2 * figures.length ≤ 203
theorem grpW0 {x : PySem.Str} (h : x.length ≤ 100) : GrpW x x (Txt.slice x (some (-3)) none) := by
  refine ⟨by rw [lz_last3]; rfl, h, ?_⟩
  rw [← lz_length (Txt.slice x _ _), lz_last3, List.length_drop, lz_length]
  omega
theorem ofs_comma : Lz (PySem.Str.ofString ",") = [44] := by decide +kernel
theorem len_comma : (PySem.Str.ofString ",").length = 1 := by decide +kernel
theorem len_last3 (x : PySem.Str) : (Txt.slice x (some (-3)) none).length = min 3 x.length := by
  rw [← lz_length, lz_last3, List.length_drop, lz_length]; omega
theorem len_but3 (x : PySem.Str) : (Txt.slice x none (some (-3))).length = x.length - 3 := by
  rw [← lz_length, lz_but3, List.length_take, lz_length]; omega
theorem grpW1 {x0 figures found : PySem.Str} (h : GrpW x0 figures found) (hc : 3 < (figures.length : Int)) :
    GrpW x0 (Txt.slice figures none (some (-3))) (Txt.slice (Txt.slice figures none (some (-3))) (some (-3)) none ++ PySem.Str.ofString "," ++ found) := by
  obtain ⟨h1, h2, h3⟩ := h
  refine ⟨?_, ?_, ?_⟩
  · rw [← h1, lz_append, lz_append, lz_last3, lz_but3, ofs_comma, grpL_go (x := Lz figures) (by rw [lz_length]; omega)]
    simp
  · rw [len_but3]; omega
  · rw [PySem.Str.length_append, PySem.Str.length_append, len_last3, len_but3, len_comma]; omega
theorem grpW_m {figures : PySem.Str} (hc : 3 < (figures.length : Int)) : (Txt.slice figures none (some (-3))).length < figures.length := by rw [len_but3]; omega
theorem grpW_len {x0 figures found : PySem.Str} (h : GrpW x0 figures found) : figures.length ≤ 100 ∧ found.length ≤ 203 := ⟨h.2.1, by have := h.2.2; omega⟩
theorem grpW_end {x0 figures found : PySem.Str} (h : GrpW x0 figures found) (hc : ¬ 3 < (figures.length : Int)) : found = St (grp (Lz x0)) := by
  rw [← h.1, grpL_end (by rw [lz_length]; omega)]
/-- run_of_figures: the number, and where it ends -/
def runF (x : List Nat) (a : Nat) (f : Int) : Int × Nat :=
  if h : a < x.length then (if 48 ≤ x[a] ∧ x[a] ≤ 57 then runF x (a + 1) (10 * f + x[a] - 48) else (f, a)) else (f, a)
termination_by x.length - a
theorem runF_go {x : List Nat} {a : Nat} {f : Int} {c : Nat} (h : x[a]? = some c) (h1 : 48 ≤ c) (h2 : c ≤ 57) : runF x a f = runF x (a + 1) (10 * f + c - 48) := by
  obtain ⟨hl, rfl⟩ := List.getElem?_eq_some_iff.mp h
  rw [runF, dif_pos hl, if_pos ⟨h1, h2⟩]
theorem runF_end {x : List Nat} {a : Nat} {f : Int} (h : ∀ c, x[a]? = some c → ¬ (48 ≤ c ∧ c ≤ 57)) : runF x a f = (f, a) := by
  rw [runF]
  split
  · rename_i hl
    rw [if_neg (h _ (List.getElem?_eq_getElem hl))]
  · rfl
theorem item_lz {x : PySem.Str} {i : Int} (h0 : 0 ≤ i) (h1 : i < x.length) : ∃ c, (Lz x)[i.toNat]? = some c ∧ Txt.item x i = St [c] := by
  have hl : i.toNat < (Lz x).length := by rw [lz_length]; omega
  refine ⟨(Lz x)[i.toNat], List.getElem?_eq_getElem hl, ?_⟩
  have hs : seqIndex? i x.length = some i.toNat := by
    unfold seqIndex?
    have e1 : ¬ i < 0 := by omega
    have e2 : (decide (0 ≤ i) && decide (i < (x.length : Int))) = true := by simp [h0, h1]
    simp only [e1, if_false, e2, if_true]
  have hc : Txt.charAt x i = some (Lz x)[i.toNat] := by
    unfold Txt.charAt
    rw [hs, Option.bind_some]
    show x.cps[i.toNat]? = _
    rw [← Array.getElem?_toList]
    exact List.getElem?_eq_getElem hl
  unfold Txt.item
  rw [hc]
  rfl
theorem lt_one {a b : Nat} : ([a] < [b]) ↔ a < b := by rw [List.cons_lt_cons_iff]; simp
theorem ofs_0 : (PySem.Str.ofString "0").cps.toList = [48] := by decide +kernel
theorem ofs_9 : (PySem.Str.ofString "9").cps.toList = [57] := by decide +kernel
theorem runW0 {x : PySem.Str} {a : Int} (h0 : 0 ≤ a) (h1 : a ≤ x.length) : 0 ≤ a ∧ a ≤ x.length ∧ a ≤ a ∧ runF (Lz x) a.toNat 0 = runF (Lz x) a.toNat 0 := ⟨h0, h1, Int.le_refl _, rfl⟩
theorem runW1 {x : PySem.Str} {a0 a f : Int} (h : 0 ≤ a ∧ a ≤ x.length ∧ a0 ≤ a ∧ runF (Lz x) a.toNat f = runF (Lz x) a0.toNat 0) (hl : a < x.length)
    (h1 : ¬ (Txt.item x a).cps.toList < (PySem.Str.ofString "0").cps.toList) (h2 : ¬ (PySem.Str.ofString "9").cps.toList < (Txt.item x a).cps.toList) :
    0 ≤ a + 1 ∧ a + 1 ≤ x.length ∧ a0 ≤ a + 1 ∧ runF (Lz x) (a + 1).toNat (10 * f + ((Txt.item x a).cps.getD 0 0 : Nat) - 48) = runF (Lz x) a0.toNat 0 := by
  obtain ⟨h0, _, ha, hr⟩ := h
  obtain ⟨c, hc, hi⟩ := item_lz h0 hl
  rw [hi] at h1 h2 ⊢
  rw [ofs_0] at h1
  rw [ofs_9] at h2
  have h1' : ¬ c < 48 := fun h => h1 (lt_one.mpr h)
  have h2' : ¬ 57 < c := fun h => h2 (lt_one.mpr h)
  refine ⟨by omega, by omega, by omega, ?_⟩
  rw [← hr, runF_go hc (by omega) (by omega), show (a + 1).toNat = a.toNat + 1 by omega]
  rfl
theorem runW_end1 {x : PySem.Str} {a0 a f : Int} (h : runF (Lz x) a.toNat f = runF (Lz x) a0.toNat 0) (h0 : 0 ≤ a) (hl : ¬ a < x.length) : runF (Lz x) a0.toNat 0 = (f, a.toNat) := by
  rw [← h, runF_end fun c hc => ?_]
  have := (List.getElem?_eq_some_iff.mp hc).1
  rw [lz_length] at this
  omega
theorem runW_end2 {x : PySem.Str} {a0 a f : Int} (h : runF (Lz x) a.toNat f = runF (Lz x) a0.toNat 0) (h0 : 0 ≤ a) (hl : a < x.length) (h1 : (Txt.item x a).cps.toList < (PySem.Str.ofString "0").cps.toList) : runF (Lz x) a0.toNat 0 = (f, a.toNat) := by
  obtain ⟨c, hc, hi⟩ := item_lz h0 hl
  rw [hi, ofs_0] at h1
  have h1' := lt_one.mp h1
  rw [← h, runF_end fun d hd => ?_]
  rw [hc] at hd; cases hd; omega
theorem runW_end3 {x : PySem.Str} {a0 a f : Int} (h : runF (Lz x) a.toNat f = runF (Lz x) a0.toNat 0) (h0 : 0 ≤ a) (hl : a < x.length) (h1 : (PySem.Str.ofString "9").cps.toList < (Txt.item x a).cps.toList) : runF (Lz x) a0.toNat 0 = (f, a.toNat) := by
  obtain ⟨c, hc, hi⟩ := item_lz h0 hl
  rw [hi, ofs_9] at h1
  have h1' := lt_one.mp h1
  rw [← h, runF_end fun d hd => ?_]
  rw [hc] at hd; cases hd; omega

-- piece 07
-- needs: 06
-- pure
theorem slice1_lz {x : PySem.Str} {a : Int} (h0 : 0 ≤ a) : Lz (Txt.slice x (some a) (some (a + 1))) = ((Lz x).drop a.toNat).take 1 := by
  rw [slice_lz]
  unfold clipN
  simp only
  rw [if_neg (by omega), if_neg (by omega)]
  by_cases h : a < x.length
  · congr 1
    · omega
    · congr 1; omega
  · rw [List.drop_of_length_le (by rw [lz_length]; omega), List.drop_of_length_le (by rw [lz_length]; omega)]
    simp
theorem take1_drop {l : List Nat} {k c : Nat} : (l.drop k).take 1 = [c] ↔ l[k]? = some c := by
  rw [← List.head?_drop]
  cases l.drop k with
  | nil => simp
  | cons y r => simp
theorem sl1 {x : PySem.Str} {a : Int} (h0 : 0 ≤ a) (c : Nat) : (Txt.slice x (some a) (some (a + 1)) == St [c]) = decide ((Lz x)[a.toNat]? = some c) := by
  rw [beq_lz, slice1_lz h0, lz_st]
  by_cases h : (Lz x)[a.toNat]? = some c
  · rw [take1_drop.mpr h, decide_eq_true h]; simp
  · rw [decide_eq_false h, beq_eq_false_iff_ne]
    exact fun e => h (take1_drop.mp e)
theorem sl1' {x : PySem.Str} {a : Int} (h0 : 0 ≤ a) (c : Nat) : (St [c] == Txt.slice x (some a) (some (a + 1))) = decide ((Lz x)[a.toNat]? = some c) := by
  rw [← sl1 h0 c, Bool.beq_comm]
theorem o_minus : PySem.Str.ofString "-" = St [45] := by decide +kernel
theorem o_plus : PySem.Str.ofString "+" = St [43] := by decide +kernel
theorem o_dot : PySem.Str.ofString "." = St [46] := by decide +kernel
theorem o_hash : PySem.Str.ofString "#" = St [35] := by decide +kernel
theorem o_comma : PySem.Str.ofString "," = St [44] := by decide +kernel
theorem o_dollar : PySem.Str.ofString "$" = St [36] := by decide +kernel
theorem o_star : PySem.Str.ofString "*" = St [42] := by decide +kernel
theorem o_zero : PySem.Str.ofString "0" = St [48] := by decide +kernel
theorem o_blank : PySem.Str.ofString " " = St [32] := by decide +kernel
theorem o_pct : PySem.Str.ofString "%" = St [37] := by decide +kernel
theorem o_E : PySem.Str.ofString "E" = St [69] := by decide +kernel
theorem o_empty : PySem.Str.ofString "" = St [] := by decide +kernel
theorem occ_EeDd : ∀ c : Nat, c < 128 → (Builtin.Str.occurrences (PySem.Str.ofString "EeDd") (St [c]) 0 (PySem.Str.ofString "EeDd").length 1).isEmpty = !decide (c = 69 ∨ c = 101 ∨ c = 68 ∨ c = 100) := by decide +kernel
/-- where an exponent's figures begin -/
def expB (x : List Nat) (a : Int) : Int := if x[(a + 1).toNat]? = some 43 ∨ x[(a + 1).toNat]? = some 45 then a + 1 + 1 else a + 1
/-- exponent_at -/
def expA (x : List Nat) (a : Int) : Int × Int :=
  match x[a.toNat]? with
  | none => (0, a)
  | some c => if c = 69 ∨ c = 101 ∨ c = 68 ∨ c = 100 then
      (if ((runF x (expB x a).toNat 0).2 : Int) - expB x a = 0 then (0, a) else
        ((if x[(a + 1).toNat]? = some 45 then -1 else 1) * min (runF x (expB x a).toNat 0).1 9999, (runF x (expB x a).toNat 0).2))
    else (0, a)
theorem expA_out {x : List Nat} {a : Int} (h : (x.length : Int) ≤ a) : expA x a = (0, a) := by
  unfold expA
  rw [List.getElem?_eq_none (by omega)]
theorem expA_no {x : List Nat} {a : Int} {c : Nat} (hc : x[a.toNat]? = some c) (h : ¬ (c = 69 ∨ c = 101 ∨ c = 68 ∨ c = 100)) : expA x a = (0, a) := by
  unfold expA
  rw [hc]; simp only; rw [if_neg h]
theorem expA_yes {x : List Nat} {a : Int} {c : Nat} {s1 s2 : Bool} (hc : x[a.toNat]? = some c) (h : c = 69 ∨ c = 101 ∨ c = 68 ∨ c = 100)
    (h1 : (x[(a + 1).toNat]? = some 45) = (s1 = true)) (h2 : (x[(a + 1).toNat]? = some 43 ∨ x[(a + 1).toNat]? = some 45) = (s2 = true)) :
    expA x a = if ((runF x (if s2 = true then a + 1 + 1 else a + 1).toNat 0).2 : Int) - (if s2 = true then a + 1 + 1 else a + 1) = 0 then (0, a) else
        ((if s1 = true then -1 else 1) * min (runF x (if s2 = true then a + 1 + 1 else a + 1).toNat 0).1 9999, (runF x (if s2 = true then a + 1 + 1 else a + 1).toNat 0).2) := by
  have e : expB x a = if s2 = true then a + 1 + 1 else a + 1 := by unfold expB; simp only [h2]
  unfold expA
  rw [hc, e]; simp only; rw [if_pos h]
  simp only [h1]
theorem at_minus {x : PySem.Str} {a : Int} {b : Bool} (h0 : 0 ≤ a) (h : (Txt.slice x (some a) (some (a + 1)) == PySem.Str.ofString "-") = b) : ((Lz x)[a.toNat]? = some 45) = (b = true) := by
  rw [o_minus, sl1 h0] at h
  subst h; simp
theorem at_sign {x : PySem.Str} {a : Int} {b : Bool} (h0 : 0 ≤ a) (h : ([PySem.Str.ofString "+", PySem.Str.ofString "-"].any fun y => y == Txt.slice x (some a) (some (a + 1))) = b) : ((Lz x)[a.toNat]? = some 43 ∨ (Lz x)[a.toNat]? = some 45) = (b = true) := by
  rw [o_minus, o_plus] at h
  simp only [List.any_cons, List.any_nil, Bool.or_false, sl1' h0] at h
  subst h; simp
theorem sign_lt {x : PySem.Str} {a : Int} (h0 : 0 ≤ a) (h : ([PySem.Str.ofString "+", PySem.Str.ofString "-"].any fun y => y == Txt.slice x (some a) (some (a + 1))) = true) : a < x.length := by
  have h1 := of_eq_true ((at_sign h0 h).trans (by simp))
  have h2 : a.toNat < (Lz x).length := by
    rcases h1 with h1 | h1 <;> exact (List.getElem?_eq_some_iff.mp h1).1
  rw [lz_length] at h2; omega
theorem sign_lt' {x : PySem.Str} {a : Int} (h : ([PySem.Str.ofString "+", PySem.Str.ofString "-"].any fun y => y == Txt.slice x (some a) (some (a + 1))) = true) (h0 : 0 ≤ a) : a < x.length := sign_lt h0 h
theorem at_E {x : PySem.Str} {a : Int} {b : Bool} (hx : ∀ c ∈ Lz x, c < 128) (h0 : 0 ≤ a) (h1 : ¬ (x.length : Int) ≤ a) (h : (Builtin.Str.occurrences (PySem.Str.ofString "EeDd") (Txt.item x a) 0 (PySem.Str.ofString "EeDd").length 1).isEmpty = b) :
    ∃ c, (Lz x)[a.toNat]? = some c ∧ (c = 69 ∨ c = 101 ∨ c = 68 ∨ c = 100) = (b = false) := by
  obtain ⟨c, hc, hi⟩ := item_lz h0 (by omega : a < x.length)
  refine ⟨c, hc, ?_⟩
  rw [hi, occ_EeDd c (hx c (List.mem_of_getElem? hc))] at h
  subst h; simp only [Bool.not_eq_false', decide_eq_true_eq]
theorem lz_to {x : PySem.Str} {n : Int} (h0 : 0 ≤ n) : Lz (Txt.slice x none (some n)) = (Lz x).take n.toNat := by
  rw [slice_lz]
  unfold clipN
  simp only [List.drop_zero, Nat.sub_zero]
  rw [if_neg (by omega)]
  by_cases h : n ≤ x.length
  · congr 1; omega
  · rw [List.take_of_length_le (by rw [lz_length]; omega), List.take_of_length_le (by rw [lz_length]; omega)]
theorem lz_from {x : PySem.Str} {n : Int} (h0 : 0 ≤ n) : Lz (Txt.slice x (some n) none) = (Lz x).drop n.toNat := by
  rw [slice_lz]
  unfold clipN
  simp only
  rw [if_neg (by omega)]
  by_cases h : n ≤ x.length
  · rw [List.take_of_length_le (by rw [List.length_drop, lz_length]; omega)]
    congr 1; omega
  · rw [List.drop_of_length_le (by rw [lz_length]; omega), List.drop_of_length_le (by rw [lz_length]; omega)]
    simp
theorem to_st {x : PySem.Str} {n : Int} (h0 : 0 ≤ n) : Txt.slice x none (some n) = St ((Lz x).take n.toNat) := lz_inj (lz_to h0)
theorem from_st {x : PySem.Str} {n : Int} (h0 : 0 ≤ n) : Txt.slice x (some n) none = St ((Lz x).drop n.toNat) := lz_inj (lz_from h0)

theorem mul_st {c : Nat} {n : Int} : Txt.mul (St [c]) n = St (List.replicate n.toNat c) := lz_inj (mul_one_list c n)
theorem o_E00 : PySem.Str.ofString "E+00" = St [69, 43, 48, 48] := by decide +kernel
theorem st_append {a b : List Nat} : St a ++ St b = St (a ++ b) := lz_inj (by rw [lz_append])
/-- with_exponent's lift and units, and its three texts -/
def wxL (pl r c e : Int) : Int := if 10 ^ (pl + r).toNat ≤ scl c (e - (e + figs c - pl)) r then e + figs c - pl + 1 else e + figs c - pl
def wxU (pl r c e : Int) : Int := if 10 ^ (pl + r).toNat ≤ scl c (e - (e + figs c - pl)) r then scl c (e - (e + figs c - pl + 1)) r else scl c (e - (e + figs c - pl)) r
def wx1 (pl r c e : Int) : List Nat := if c = 0 then List.replicate pl.toNat 48 else (padL (wxU pl r c e) (pl + r) []).take pl.toNat
def wx2 (pl r c e : Int) : List Nat := if c = 0 then List.replicate r.toNat 48 else (padL (wxU pl r c e) (pl + r) []).drop pl.toNat
def wx3 (pl r c e : Int) : List Nat := if c = 0 then [69, 43, 48, 48] else [69] ++ (if wxL pl r c e < 0 then [45] else [43]) ++ padL (wxL pl r c e).natAbs 2 []
/-- a Picture's fields -/
structure Pic where
  left : Int
  right : Int
  point : Bool
  star : Bool
  dollar : Bool
  comma : Bool
  expo : Bool
  sign   : PySem.Str
def leadS (p : Pic) (b : Bool) : List Nat := if (p.sign == PySem.Str.ofString "+ahead") = true then (if b = true then [45] else [43]) else if (p.sign == PySem.Str.ofString "") = true then (if b = true then [45] else []) else []
def tailS (p : Pic) (b : Bool) : List Nat := if ([PySem.Str.ofString "+behind", PySem.Str.ofString "-behind"].any fun x => x == p.sign) = true then (if b = true then [45] else if (p.sign == PySem.Str.ofString "+behind") = true then [43] else [32]) else []
theorem grpL_length {x f : List Nat} : (grpL x f).length ≤ f.length + 2 * x.length := by
  by_cases h : 3 < x.length
  · rw [grpL_go h]
    refine Nat.le_trans (grpL_length (x := x.take (x.length - 3))) ?_
    simp only [List.length_append, List.length_cons, List.length_drop, List.length_take]
    omega
  · rw [grpL_end h]; omega
termination_by x.length
decreasing_by simp only [List.length_take]; omega
theorem grp_length {x : List Nat} : (grp x).length ≤ 3 + 2 * x.length := by
  unfold grp
  refine Nat.le_trans grpL_length ?_
  rw [List.length_drop]; omega
/-- number_by's text, from the two texts of figures -/
def nbG (p : Pic) (A : List Nat) : List Nat := if p.comma = true ∧ p.expo = false then grp A else A
def nbW (p : Pic) : Int := p.left + (if (p.sign == PySem.Str.ofString "+ahead") = true then 1 else 0)
def nbLd (p : Pic) (b : Bool) : List Nat := leadS p b ++ (if p.dollar = true then [36] else [])
def nbA (p : Pic) (b : Bool) (A B : List Nat) : List Nat := if nbW p < ((nbLd p b ++ nbG p A).length : Int) ∧ nbG p A = [48] ∧ B ≠ [] then [] else nbG p A
def nbR (p : Pic) (b : Bool) (A B : List Nat) : Int := nbW p - ((nbLd p b ++ nbA p b A B).length : Int)
def nbT (p : Pic) (b : Bool) (A B T : List Nat) : List Nat :=
  List.replicate (nbR p b A B).toNat (if p.star = true then 42 else 32) ++ nbLd p b ++ nbA p b A B ++ (if p.point = true then [46] else []) ++ B ++ T ++ tailS p b
def nbO (p : Pic) (b : Bool) (A B T : List Nat) : List Nat := if nbR p b A B < 0 then [37] ++ nbT p b A B T else nbT p b A B T

theorem nbG_len {p : Pic} {A : List Nat} (h : A.length ≤ 60) : (St (nbG p A)).length ≤ 130 := by
  show (nbG p A).length ≤ 130
  unfold nbG; split
  · exact Nat.le_trans grp_length (by omega)
  · omega
theorem nbA_len {p : Pic} {b : Bool} {A B : List Nat} (h : A.length ≤ 60) : (St (nbA p b A B)).length ≤ 130 := by
  show (nbA p b A B).length ≤ 130
  unfold nbA; split
  · exact Nat.zero_le _
  · exact nbG_len h
section
variable {p : Pic} {b : Bool} {A B T : List Nat}
theorem ldS_eq : St (leadS p b) ++ (if p.dollar = true then St [36] else St []) = St (nbLd p b) := by
  unfold nbLd; split <;> exact st_append
theorem st_len {l : List Nat} : (St l).length = l.length := rfl
theorem nbA1 (h : p.left + (if (p.sign == PySem.Str.ofString "+ahead") = true then 1 else 0) < (((St (leadS p b) ++ (if p.dollar = true then St [36] else St [])) ++ St (nbG p A)).length : Int))
    (h2 : (St (nbG p A) == PySem.Str.ofString "0") = true) (h3 : (St B != PySem.Str.ofString "") = true) : PySem.Str.ofString "" = St (nbA p b A B) := by
  rw [ldS_eq, st_append, st_len] at h
  rw [o_zero, beq_lz, beq_iff_eq] at h2
  have h3' : B ≠ [] := by rintro rfl; rw [o_empty] at h3; simp at h3
  rw [o_empty, nbA, if_pos ⟨h, h2, h3'⟩]
theorem nbA2 (h3 : (St B != PySem.Str.ofString "") = false) : St (nbG p A) = St (nbA p b A B) := by
  have h3' : B = [] := by
    rw [o_empty] at h3
    have := bne_eq_false_iff_eq.mp h3
    exact congrArg Lz this
  rw [nbA, if_neg (fun h => h.2.2 h3')]
theorem nbA3 (h2 : (St (nbG p A) == PySem.Str.ofString "0") = false) : St (nbG p A) = St (nbA p b A B) := by
  rw [nbA, if_neg (fun h => ?_)]
  rw [o_zero, h.2.1] at h2
  simp at h2
theorem nbA4 (h : ¬ p.left + (if (p.sign == PySem.Str.ofString "+ahead") = true then 1 else 0) < (((St (leadS p b) ++ (if p.dollar = true then St [36] else St [])) ++ St (nbG p A)).length : Int)) : St (nbG p A) = St (nbA p b A B) := by
  rw [ldS_eq, st_append, st_len] at h
  rw [nbA, if_neg (fun h' => h h'.1)]
theorem mulS {k : Bool} {n : Int} : Txt.mul (if k = true then St [42] else St [32]) n = St (List.replicate n.toNat (if k = true then 42 else 32)) := by
  split <;> exact mul_st
theorem mulS_len {k : Bool} {n : Int} : (Txt.mul (if k = true then St [42] else St [32]) n).length = n.toNat := by
  rw [mulS, st_len, List.length_replicate]
theorem nbR_eq : p.left + (if (p.sign == PySem.Str.ofString "+ahead") = true then 1 else 0) - (((St (leadS p b) ++ (if p.dollar = true then St [36] else St [])) ++ St (nbA p b A B)).length : Int) = nbR p b A B := by
  rw [ldS_eq, st_append, st_len]; rfl
theorem nbT_eq : (((((Txt.mul (if p.star = true then St [42] else St [32]) (p.left + (if (p.sign == PySem.Str.ofString "+ahead") = true then 1 else 0) - (((St (leadS p b) ++ (if p.dollar = true then St [36] else St [])) ++ St (nbA p b A B)).length : Int)) ++ (St (leadS p b) ++ (if p.dollar = true then St [36] else St []))) ++ St (nbA p b A B)) ++ (if p.point = true then St [46] else St [])) ++ St B) ++ St T) ++ St (tailS p b) = St (nbT p b A B T) := by
  rw [nbR_eq, ldS_eq, mulS, show (if p.point = true then St [46] else St []) = St (if p.point = true then [46] else []) from by split <;> rfl]
  simp only [st_append]
  rfl
end
theorem o_len0 : (PySem.Str.ofString "").length = 0 := by decide +kernel
theorem o_len1 : (PySem.Str.ofString "%").length = 1 := by decide +kernel
section
variable {p : Pic} {b : Bool} {A B T : List Nat}
theorem nbO1 {X : PySem.Str} (hX : X = St T) (h : p.left + (if (p.sign == PySem.Str.ofString "+ahead") = true then 1 else 0) - (((St (leadS p b) ++ (if p.dollar = true then St [36] else St [])) ++ St (nbA p b A B)).length : Int) < 0) :
    PySem.Str.ofString "%" ++ ((((((Txt.mul (if p.star = true then St [42] else St [32]) (p.left + (if (p.sign == PySem.Str.ofString "+ahead") = true then 1 else 0) - (((St (leadS p b) ++ (if p.dollar = true then St [36] else St [])) ++ St (nbA p b A B)).length : Int)) ++ (St (leadS p b) ++ (if p.dollar = true then St [36] else St []))) ++ St (nbA p b A B)) ++ (if p.point = true then St [46] else St [])) ++ St B) ++ X) ++ St (tailS p b)) = St (nbO p b A B T) := by
  rw [hX, nbT_eq, o_pct, st_append]
  rw [nbR_eq] at h
  rw [nbO, if_pos h]
theorem nbO2 {X : PySem.Str} (hX : X = St T) (h : ¬ p.left + (if (p.sign == PySem.Str.ofString "+ahead") = true then 1 else 0) - (((St (leadS p b) ++ (if p.dollar = true then St [36] else St [])) ++ St (nbA p b A B)).length : Int) < 0) :
    ((((((Txt.mul (if p.star = true then St [42] else St [32]) (p.left + (if (p.sign == PySem.Str.ofString "+ahead") = true then 1 else 0) - (((St (leadS p b) ++ (if p.dollar = true then St [36] else St [])) ++ St (nbA p b A B)).length : Int)) ++ (St (leadS p b) ++ (if p.dollar = true then St [36] else St []))) ++ St (nbA p b A B)) ++ (if p.point = true then St [46] else St [])) ++ St B) ++ X) ++ St (tailS p b)) = St (nbO p b A B T) := by
  rw [hX, nbT_eq]
  rw [nbR_eq] at h
  rw [nbO, if_neg h]
theorem nbO_len (hl : p.left ≤ 30) (hA : A.length ≤ 60) (hB : B.length ≤ 101) (hT : T.length ≤ 103) : (St (nbO p b A B T)).length ≤ 400 := by
  have h1 : (nbA p b A B).length ≤ 130 := nbA_len hA
  have h2 : (leadS p b).length ≤ 1 := by unfold leadS; (repeat' split) <;> decide
  have h3 : (tailS p b).length ≤ 1 := by unfold tailS; (repeat' split) <;> decide
  have h4 : (nbLd p b).length ≤ 2 := by unfold nbLd; rw [List.length_append]; split <;> simp <;> omega
  have h5 : (nbR p b A B).toNat ≤ 31 := by unfold nbR nbW; split <;> omega
  have h6 : (if p.point = true then [46] else [] : List Nat).length ≤ 1 := by split <;> decide
  have h7 : (nbT p b A B T).length ≤ 390 := by
    unfold nbT
    simp only [List.length_append, List.length_replicate]
    omega
  show (nbO p b A B T).length ≤ 400
  unfold nbO; split
  · rw [List.length_append]; simp only [List.length_cons, List.length_nil]; omega
  · omega
end

-- piece 08
-- needs: 07
-- pure
/-- the text from a place on -/
def suf (x : PySem.Str) (a : Int) : List Nat := (Lz x).drop a.toNat
theorem slice_suf {x : PySem.Str} {a : Int} (k : Nat) (h0 : 0 ≤ a) : Lz (Txt.slice x (some a) (some (a + k))) = (suf x a).take k := by
  rw [slice_lz]
  unfold clipN suf
  simp only
  rw [if_neg (by omega), if_neg (by omega)]
  by_cases h : a ≤ x.length
  · rw [show (max 0 (min a (x.length : Int))).toNat = a.toNat by omega]
    by_cases h2 : a + k ≤ x.length
    · congr 1; omega
    · rw [List.take_of_length_le (by rw [List.length_drop, lz_length]; omega), List.take_of_length_le (by rw [List.length_drop, lz_length]; omega)]
  · rw [List.drop_of_length_le (by rw [lz_length]; omega), List.drop_of_length_le (by rw [lz_length]; omega)]
    simp
theorem suf_is {x : PySem.Str} {a : Int} {k : Nat} {y : PySem.Str} {m : List Nat} (h0 : 0 ≤ a) (hy : y = St m) : (Txt.slice x (some a) (some (a + k)) == y) = decide ((suf x a).take k = m) := by
  rw [beq_lz, slice_suf k h0, hy, lz_st]
  by_cases h : (suf x a).take k = m
  · rw [decide_eq_true h, h]; simp
  · rw [decide_eq_false h, beq_eq_false_iff_ne]; exact h
theorem suf_is1 {x : PySem.Str} {a : Int} {y : PySem.Str} {m : List Nat} (h0 : 0 ≤ a) (hy : y = St m) : (Txt.slice x (some a) (some (a + 1)) == y) = decide ((suf x a).take 1 = m) := suf_is (k := 1) h0 hy
theorem suf_is2 {x : PySem.Str} {a : Int} {y : PySem.Str} {m : List Nat} (h0 : 0 ≤ a) (hy : y = St m) : (Txt.slice x (some a) (some (a + 2)) == y) = decide ((suf x a).take 2 = m) := suf_is (k := 2) h0 hy
theorem suf_is4 {x : PySem.Str} {a : Int} {y : PySem.Str} {m : List Nat} (h0 : 0 ≤ a) (hy : y = St m) : (Txt.slice x (some a) (some (a + 4)) == y) = decide ((suf x a).take 4 = m) := suf_is (k := 4) h0 hy
theorem beq_swap (a b : PySem.Str) : (a == b) = (b == a) := Bool.beq_comm
theorem o_ss : PySem.Str.ofString "**" = St [42, 42] := by decide +kernel
theorem o_dd : PySem.Str.ofString "$$" = St [36, 36] := by decide +kernel
theorem o_dh : PySem.Str.ofString ".#" = St [46, 35] := by decide +kernel
theorem o_cc : PySem.Str.ofString "^^^^" = St [94, 94, 94, 94] := by decide +kernel
theorem suf_add {x : PySem.Str} {a : Int} (k : Nat) (h0 : 0 ≤ a) : suf x (a + k) = (suf x a).drop k := by
  unfold suf; rw [List.drop_drop]; congr 1; omega
theorem suf_add1 {x : PySem.Str} {a : Int} (h0 : 0 ≤ a) : suf x (a + 1) = (suf x a).drop 1 := suf_add 1 h0
theorem suf_add2 {x : PySem.Str} {a : Int} (h0 : 0 ≤ a) : suf x (a + 2) = (suf x a).drop 2 := suf_add 2 h0
theorem suf_add4 {x : PySem.Str} {a : Int} (h0 : 0 ≤ a) : suf x (a + 4) = (suf x a).drop 4 := suf_add 4 h0
theorem suf_len {x : PySem.Str} {a : Int} : (suf x a).length = x.length - a.toNat := by unfold suf; rw [List.length_drop, lz_length]
/-- begins_number -/
def bgnL (D : List Nat) : Bool := let E := if D.take 1 = [43] then D.drop 1 else D
  decide (E.take 1 = [35]) || (decide (E.take 2 = [42, 42]) || decide (E.take 2 = [36, 36]) || decide (E.take 2 = [46, 35]))
/-- read_ahead -/
def aheadL (p : Pic) (D : List Nat) : Pic × Nat :=
  let s := decide (D.take 1 = [43]); let E := if s = true then D.drop 1 else D; let k := if s = true then 1 else 0
  let p := if s = true then { p with sign := PySem.Str.ofString "+ahead" } else p
  if E.take 2 = [42, 42] then (if (E.drop 2).take 1 = [36] then ({ p with star := true, left := 3, dollar := true }, k + 3) else ({ p with star := true, left := 2 }, k + 2))
  else if E.take 2 = [36, 36] then ({ p with dollar := true, left := 2 }, k + 2) else (p, k)
def plN : List Nat → Nat
  | [] => 0
  | c :: r => if c = 35 ∨ c = 44 then plN r + 1 else 0
def plC : List Nat → Bool
  | [] => false
  | c :: r => if c = 35 ∨ c = 44 then decide (c = 44) || plC r else false
def hsN : List Nat → Nat
  | [] => 0
  | c :: r => if c = 35 then hsN r + 1 else 0
/-- read_places -/
def placesL (p : Pic) (D : List Nat) : Pic × Nat :=
  let E := D.drop (plN D); let q := { p with left := p.left + plN D, comma := p.comma || plC D }
  if E.take 1 = [46] then ({ q with point := true, right := q.right + hsN (E.drop 1) }, plN D + 1 + hsN (E.drop 1)) else (q, plN D)
def pic0 : Pic := ⟨0, 0, false, false, false, false, false, PySem.Str.ofString ""⟩
/-- read_picture -/
def rdL (D : List Nat) : Pic × Nat :=
  let u := aheadL pic0 D; let v := placesL u.1 (D.drop u.2); let E := D.drop (u.2 + v.2)
  let w : Pic × Nat := if E.take 4 = [94, 94, 94, 94] then ({ v.1 with expo := true }, u.2 + v.2 + 4) else (v.1, u.2 + v.2)
  let F := D.drop w.2
  if (w.1.sign == PySem.Str.ofString "") = true ∧ (F.take 1 = [43] ∨ F.take 1 = [45]) then ({ w.1 with sign := if F.take 1 = [43] then PySem.Str.ofString "+behind" else PySem.Str.ofString "-behind" }, w.2 + 1) else w
theorem plN_le : ∀ D : List Nat, plN D ≤ D.length
  | [] => Nat.le_refl _
  | c :: r => by unfold plN; split; · exact Nat.succ_le_succ (plN_le r)
                 · exact Nat.zero_le _
theorem hsN_le : ∀ D : List Nat, hsN D ≤ D.length
  | [] => Nat.le_refl _
  | c :: r => by unfold hsN; split; · exact Nat.succ_le_succ (hsN_le r)
                 · exact Nat.zero_le _
theorem plN_go {c : Nat} {r : List Nat} (h : c = 35 ∨ c = 44) : plN (c :: r) = plN r + 1 := by rw [plN, if_pos h]
theorem plC_go {c : Nat} {r : List Nat} (h : c = 35 ∨ c = 44) : plC (c :: r) = (decide (c = 44) || plC r) := by rw [plC, if_pos h]
theorem hsN_go {c : Nat} {r : List Nat} (h : c = 35) : hsN (c :: r) = hsN r + 1 := by rw [hsN, if_pos h]
/-- the loops of read_places -/
def PlW (x : PySem.Str) (a : Int) (p : Pic) (cm : Bool) (l b : Int) : Prop := a ≤ b ∧ l = p.left + (b - a) ∧ b - a + plN (suf x b) = plN (suf x a) ∧ (cm || plC (suf x b)) = (p.comma || plC (suf x a))
theorem suf_cons {x : PySem.Str} {b : Int} (h0 : 0 ≤ b) (h1 : b < x.length) : ∃ c, suf x b = c :: suf x (b + 1) ∧ Txt.item x b = St [c] ∧ (Lz x)[b.toNat]? = some c := by
  obtain ⟨c, hc, hi⟩ := item_lz h0 h1
  refine ⟨c, ?_, hi, hc⟩
  unfold suf
  have hl := (List.getElem?_eq_some_iff.mp hc).1
  rw [List.drop_eq_getElem_cons hl, (List.getElem?_eq_some_iff.mp hc).2, show (b + 1).toNat = b.toNat + 1 by omega]
theorem suf_out {x : PySem.Str} {b : Int} (h1 : (x.length : Int) ≤ b) : suf x b = [] := by unfold suf; rw [List.drop_of_length_le (by rw [lz_length]; omega)]
theorem slice_lt {x : PySem.Str} {b : Int} {c : Nat} {y : PySem.Str} (hy : y = St [c]) (h0 : 0 ≤ b) (h : (Txt.slice x (some b) (some (b + 1)) == y) = true) : b < x.length := by
  rw [suf_is1 h0 hy, decide_eq_true_eq] at h
  by_cases hb : b < x.length
  · exact hb
  · rw [suf_out (by omega)] at h; simp at h
theorem plW0 {x : PySem.Str} {a : Int} {p : Pic} (h0 : 0 ≤ a) (h1 : a ≤ x.length) : 0 ≤ a ∧ a ≤ x.length ∧ PlW x a p p.comma p.left a := ⟨h0, h1, Int.le_refl _, by omega, by omega, rfl⟩
theorem hc_of {x : PySem.Str} {b : Int} {v : Bool} (h0 : 0 ≤ b) (h : ([PySem.Str.ofString "#", PySem.Str.ofString ","].any fun y => y == Txt.slice x (some b) (some (b + 1))) = v) : ((suf x b).take 1 = [35] ∨ (suf x b).take 1 = [44]) = (v = true) := by
  simp only [List.any_cons, List.any_nil, Bool.or_false, beq_swap _ (Txt.slice _ _ _), suf_is1 h0 o_hash, suf_is1 h0 o_comma] at h
  subst h; simp
theorem plW1 {x : PySem.Str} {a : Int} {p : Pic} {cm : Bool} {l b : Int} (h : PlW x a p cm l b) (h0 : 0 ≤ b) (h1 : b < x.length) (ht : ([PySem.Str.ofString "#", PySem.Str.ofString ","].any fun y => y == Txt.slice x (some b) (some (b + 1))) = true) :
    0 ≤ b + 1 ∧ b + 1 ≤ x.length ∧ PlW x a p (cm || (Txt.item x b == PySem.Str.ofString ",")) (l + 1) (b + 1) := by
  obtain ⟨g1, g2, g3, g4⟩ := h
  obtain ⟨c, e1, e2, _⟩ := suf_cons h0 h1
  have hc := (iff_of_eq (hc_of h0 ht)).mpr rfl
  rw [e1] at hc
  have hc' : c = 35 ∨ c = 44 := by simpa using hc
  rw [e1] at g3 g4
  have e3 : (Txt.item x b == PySem.Str.ofString ",") = decide (c = 44) := by rw [e2, o_comma, beq_lz, lz_st, lz_st]; by_cases q : c = 44 <;> simp [q]
  refine ⟨by omega, by omega, by omega, by omega, ?_, ?_⟩
  · rw [plN_go hc'] at g3; omega
  · rw [plC_go hc'] at g4; rw [e3, ← g4, Bool.or_assoc]
theorem plW1a {x : PySem.Str} {a : Int} {p : Pic} {cm : Bool} {l b : Int} (h : PlW x a p cm l b) (h0 : 0 ≤ b) (h1 : b < x.length) (ht : ([PySem.Str.ofString "#", PySem.Str.ofString ","].any fun y => y == Txt.slice x (some b) (some (b + 1))) = true) (hc : cm = true) :
    0 ≤ b + 1 ∧ b + 1 ≤ x.length ∧ PlW x a p cm (l + 1) (b + 1) := by
  have h2 := plW1 h h0 h1 ht
  subst hc; simpa only [Bool.true_or] using h2
theorem plW1b {x : PySem.Str} {a : Int} {p : Pic} {cm : Bool} {l b : Int} (h : PlW x a p cm l b) (h0 : 0 ≤ b) (h1 : b < x.length) (ht : ([PySem.Str.ofString "#", PySem.Str.ofString ","].any fun y => y == Txt.slice x (some b) (some (b + 1))) = true) (hc : cm = false) :
    0 ≤ b + 1 ∧ b + 1 ≤ x.length ∧ PlW x a p (Txt.item x b == PySem.Str.ofString ",") (l + 1) (b + 1) := by
  have h2 := plW1 h h0 h1 ht
  subst hc; simpa only [Bool.false_or] using h2
def HsW (x : PySem.Str) (a : Int) (p : Pic) (r b : Int) : Prop := a ≤ b ∧ r = p.right + (b - a) ∧ b - a + hsN (suf x b) = hsN (suf x a)
theorem hsW0 {x : PySem.Str} {b : Int} {p : Pic} (h0 : 0 ≤ b) (h : (Txt.slice x (some b) (some (b + 1)) == PySem.Str.ofString ".") = true) : 0 ≤ b + 1 ∧ b + 1 ≤ x.length ∧ HsW x (b + 1) p p.right (b + 1) := by
  have := slice_lt o_dot h0 h
  exact ⟨by omega, by omega, Int.le_refl _, by omega, by omega⟩
theorem hsW1 {x : PySem.Str} {a : Int} {p : Pic} {r b : Int} (h : HsW x a p r b) (h0 : 0 ≤ b) (ht : (Txt.slice x (some b) (some (b + 1)) == PySem.Str.ofString "#") = true) : 0 ≤ b + 1 ∧ b + 1 ≤ x.length ∧ HsW x a p (r + 1) (b + 1) := by
  obtain ⟨g1, g2, g3⟩ := h
  have h1 := slice_lt o_hash h0 ht
  obtain ⟨c, e1, _, _⟩ := suf_cons h0 h1
  rw [suf_is1 h0 o_hash, decide_eq_true_eq, e1] at ht
  have hc : c = 35 := by simpa using ht
  rw [e1] at g3
  refine ⟨by omega, by omega, by omega, by omega, ?_⟩
  rw [hsN_go hc] at g3; omega
theorem hsW_lt {x : PySem.Str} {b : Int} (h0 : 0 ≤ b) (ht : (Txt.slice x (some b) (some (b + 1)) == PySem.Str.ofString "#") = true) : ((x.length : Int) - (b + 1)).toNat < ((x.length : Int) - b).toNat := by
  have := slice_lt o_hash h0 ht; omega
theorem plN_stop {x : PySem.Str} {b : Int} (h0 : 0 ≤ b) (ht : ([PySem.Str.ofString "#", PySem.Str.ofString ","].any fun y => y == Txt.slice x (some b) (some (b + 1))) = false) : plN (suf x b) = 0 ∧ plC (suf x b) = false := by
  have hc := hc_of h0 ht
  by_cases hb : b < x.length
  · obtain ⟨c, e1, _, _⟩ := suf_cons h0 hb
    rw [e1] at hc ⊢
    have hc' : ¬ (c = 35 ∨ c = 44) := by simpa using hc
    unfold plN plC
    rw [if_neg hc', if_neg hc']; exact ⟨rfl, rfl⟩
  · rw [suf_out (by omega)]; exact ⟨rfl, rfl⟩
theorem hsN_stop {x : PySem.Str} {b : Int} (h0 : 0 ≤ b) (ht : (Txt.slice x (some b) (some (b + 1)) == PySem.Str.ofString "#") = false) : hsN (suf x b) = 0 := by
  by_cases hb : b < x.length
  · obtain ⟨c, e1, _, _⟩ := suf_cons h0 hb
    rw [suf_is1 h0 o_hash, decide_eq_false_iff_not, e1] at ht
    rw [e1]
    have hc' : ¬ c = 35 := by simpa using ht
    unfold hsN
    rw [if_neg hc']
  · rw [suf_out (by omega)]; rfl
/-- behind the first loop -/
theorem plW_end {x : PySem.Str} {a : Int} {p : Pic} {cm : Bool} {l b : Int} (h : PlW x a p cm l b) (h0 : 0 ≤ b) (ht : ([PySem.Str.ofString "#", PySem.Str.ofString ","].any fun y => y == Txt.slice x (some b) (some (b + 1))) = false) :
    b = a + plN (suf x a) ∧ l = p.left + plN (suf x a) ∧ cm = (p.comma || plC (suf x a)) := by
  obtain ⟨g1, g2, g3, g4⟩ := h
  obtain ⟨e1, e2⟩ := plN_stop h0 ht
  rw [e1] at g3; rw [e2, Bool.or_false] at g4
  exact ⟨by omega, by omega, g4⟩
theorem hsW_end {x : PySem.Str} {a : Int} {p : Pic} {r b : Int} (h : HsW x a p r b) (h0 : 0 ≤ b) (ht : (Txt.slice x (some b) (some (b + 1)) == PySem.Str.ofString "#") = false) : b = a + hsN (suf x a) ∧ r = p.right + hsN (suf x a) := by
  obtain ⟨g1, g2, g3⟩ := h
  rw [hsN_stop h0 ht] at g3
  exact ⟨by omega, by omega⟩
theorem places_np {x : PySem.Str} {a : Int} {p : Pic} {cm : Bool} {l b : Int} (ha : 0 ≤ a) (h : PlW x a p cm l b) (h0 : 0 ≤ b) (ht : ([PySem.Str.ofString "#", PySem.Str.ofString ","].any fun y => y == Txt.slice x (some b) (some (b + 1))) = false)
    (hd : (Txt.slice x (some b) (some (b + 1)) == PySem.Str.ofString ".") = false) : (placesL p (suf x a)).1 = ⟨l, p.right, p.point, p.star, p.dollar, cm, p.expo, p.sign⟩ ∧ b = a + (placesL p (suf x a)).2 := by
  obtain ⟨e1, e2, e3⟩ := plW_end h h0 ht
  rw [suf_is1 h0 o_dot, decide_eq_false_iff_not, e1, suf_add _ ha] at hd
  unfold placesL
  simp only [hd, if_false]
  rw [e2, e3]
  exact ⟨rfl, e1⟩
theorem places_pt {x : PySem.Str} {a : Int} {p : Pic} {cm : Bool} {l b r b' : Int} (ha : 0 ≤ a) (h : PlW x a p cm l b) (h0 : 0 ≤ b) (ht : ([PySem.Str.ofString "#", PySem.Str.ofString ","].any fun y => y == Txt.slice x (some b) (some (b + 1))) = false)
    (hd : (Txt.slice x (some b) (some (b + 1)) == PySem.Str.ofString ".") = true) (h' : HsW x (b + 1) p r b') (h0' : 0 ≤ b') (ht' : (Txt.slice x (some b') (some (b' + 1)) == PySem.Str.ofString "#") = false) :
    (placesL p (suf x a)).1 = ⟨l, r, true, p.star, p.dollar, cm, p.expo, p.sign⟩ ∧ b' = a + (placesL p (suf x a)).2 := by
  obtain ⟨e1, e2, e3⟩ := plW_end h h0 ht
  obtain ⟨e4, e5⟩ := hsW_end h' h0' ht'
  rw [suf_is1 h0 o_dot, decide_eq_true_eq, e1, suf_add _ ha] at hd
  rw [e1, suf_add1 (by omega), suf_add _ ha] at e4 e5
  unfold placesL
  simp only [hd, if_true]
  rw [e2, e3, e5]
  exact ⟨rfl, by omega⟩
theorem any_lt {x : PySem.Str} {b : Int} (ht : ([PySem.Str.ofString "#", PySem.Str.ofString ","].any fun y => y == Txt.slice x (some b) (some (b + 1))) = true) (hn : ¬ b < x.length) (h0 : 0 ≤ b) : False := by
  have hc := (iff_of_eq (hc_of h0 ht)).mpr rfl
  rw [suf_out (by omega)] at hc
  simp at hc
theorem take_len {D m : List Nat} {k : Nat} (h : D.take k = m) : m.length ≤ D.length := by rw [← h, List.length_take]; omega
theorem ahead_bd (D : List Nat) : 0 ≤ (aheadL pic0 D).1.left ∧ (aheadL pic0 D).1.left ≤ 10 ∧ (aheadL pic0 D).1.right = 0 ∧ (aheadL pic0 D).2 ≤ D.length := by
  unfold aheadL
  simp only
  by_cases h1 : D.take 1 = [43]
  · have g1 := take_len h1
    simp only [h1, decide_true, if_true]
    split
    · rename_i h2
      have g2 := take_len h2
      split
      · rename_i h3
        have g3 := take_len h3
        simp only [List.length_drop, List.length_cons, List.length_nil] at g1 g2 g3
        exact ⟨by decide, by decide, rfl, by omega⟩
      · simp only [List.length_drop, List.length_cons, List.length_nil] at g1 g2
        exact ⟨by decide, by decide, rfl, by omega⟩
    · split
      · rename_i h2
        have g2 := take_len h2
        simp only [List.length_drop, List.length_cons, List.length_nil] at g1 g2
        exact ⟨by decide, by decide, rfl, by omega⟩
      · simp only [List.length_cons, List.length_nil] at g1
        exact ⟨by decide, by decide, rfl, by omega⟩
  · simp only [h1, decide_false, Bool.false_eq_true, if_false]
    split
    · rename_i h2
      have g2 := take_len h2
      split
      · rename_i h3
        have g3 := take_len h3
        simp only [List.length_drop, List.length_cons, List.length_nil] at g2 g3
        exact ⟨by decide, by decide, rfl, by omega⟩
      · simp only [List.length_cons, List.length_nil] at g2
        exact ⟨by decide, by decide, rfl, by omega⟩
    · split
      · rename_i h2
        have g2 := take_len h2
        simp only [List.length_cons, List.length_nil] at g2
        exact ⟨by decide, by decide, rfl, by omega⟩
      · exact ⟨by decide, by decide, rfl, by omega⟩
theorem places_le (p : Pic) (D : List Nat) : (placesL p D).2 ≤ D.length := by
  unfold placesL
  simp only
  have h1 := plN_le D
  split
  · rename_i h
    have h2 := take_len h
    have h3 := hsN_le (List.drop 1 (List.drop (plN D) D))
    simp only [List.length_drop, List.length_cons, List.length_nil] at h2 h3
    show plN D + 1 + hsN (List.drop 1 (List.drop (plN D) D)) ≤ D.length
    omega
  · exact h1
abbrev uA (x : PySem.Str) (a : Int) : Pic × Nat := aheadL pic0 (suf x a)
abbrev vA (x : PySem.Str) (a : Int) : Pic × Nat := placesL (uA x a).1 (suf x (a + (uA x a).2))
abbrev bA (x : PySem.Str) (a : Int) : Int := a + (uA x a).2 + (vA x a).2
theorem o_behind : PySem.Str.ofString "behind" = St [98, 101, 104, 105, 110, 100] := by decide +kernel
theorem o_pbehind : PySem.Str.ofString "+behind" = St [43, 98, 101, 104, 105, 110, 100] := by decide +kernel
theorem o_mbehind : PySem.Str.ofString "-behind" = St [45, 98, 101, 104, 105, 110, 100] := by decide +kernel
section
variable {x : PySem.Str} {a : Int}
theorem vA_eq (h0 : 0 ≤ a) : vA x a = placesL (aheadL pic0 (suf x a)).1 ((suf x a).drop (aheadL pic0 (suf x a)).2) := by unfold vA uA; rw [suf_add _ h0]
theorem bA_suf (h0 : 0 ≤ a) : suf x (bA x a) = (suf x a).drop ((uA x a).2 + (vA x a).2) := by
  unfold bA; rw [suf_add _ (by omega), suf_add _ h0, List.drop_drop]
theorem pm_of {b : Int} {v : Bool} (h0 : 0 ≤ b) (h : ([PySem.Str.ofString "+", PySem.Str.ofString "-"].any fun y => y == Txt.slice x (some b) (some (b + 1))) = v) : ((suf x b).take 1 = [43] ∨ (suf x b).take 1 = [45]) = (v = true) := by
  simp only [List.any_cons, List.any_nil, Bool.or_false, beq_swap _ (Txt.slice _ _ _), suf_is1 h0 o_plus, suf_is1 h0 o_minus] at h
  subst h; simp
theorem pm_lt {b : Int} (h : ([PySem.Str.ofString "+", PySem.Str.ofString "-"].any fun y => y == Txt.slice x (some b) (some (b + 1))) = true) (hn : ¬ b < x.length) (h0 : 0 ≤ b) : False := by
  have hc := (iff_of_eq (pm_of h0 h)).mpr rfl
  rw [suf_out (by omega)] at hc
  simp at hc
theorem pm_item {b : Int} (h : ([PySem.Str.ofString "+", PySem.Str.ofString "-"].any fun y => y == Txt.slice x (some b) (some (b + 1))) = true) (h0 : 0 ≤ b) :
    Txt.item x b ++ PySem.Str.ofString "behind" = if (suf x b).take 1 = [43] then PySem.Str.ofString "+behind" else PySem.Str.ofString "-behind" := by
  have hc := (iff_of_eq (pm_of h0 h)).mpr rfl
  by_cases hb : b < x.length
  · obtain ⟨c, e1, e2, _⟩ := suf_cons h0 hb
    rw [e1] at hc ⊢
    rw [e2, o_behind, st_append, o_pbehind, o_mbehind]
    have hc' : c = 43 ∨ c = 45 := by simpa using hc
    rcases hc' with rfl | rfl
    · rw [if_pos (by rfl)]; rfl
    · rw [if_neg (by simp)]; rfl
  · exact (pm_lt h hb h0).elim
theorem rdL_eq (h0 : 0 ≤ a) : rdL (suf x a) =
    (let w : Pic × Nat := if (suf x (bA x a)).take 4 = [94, 94, 94, 94] then ({ (vA x a).1 with expo := true }, (uA x a).2 + (vA x a).2 + 4) else ((vA x a).1, (uA x a).2 + (vA x a).2)
     let F := (suf x a).drop w.2
     if (w.1.sign == PySem.Str.ofString "") = true ∧ (F.take 1 = [43] ∨ F.take 1 = [45]) then ({ w.1 with sign := if F.take 1 = [43] then PySem.Str.ofString "+behind" else PySem.Str.ofString "-behind" }, w.2 + 1) else w) := by
  rw [bA_suf h0, vA_eq h0]; rfl
theorem rd_b4 (h0 : 0 ≤ a) : (suf x a).drop ((uA x a).2 + (vA x a).2 + 4) = suf x (bA x a + 4) := by
  rw [suf_add4 (by unfold bA; omega), bA_suf h0, List.drop_drop]
theorem rd1 (h0 : 0 ≤ a) (e4 : (Txt.slice x (some (bA x a)) (some (bA x a + 4)) == PySem.Str.ofString "^^^^") = true) (sg : ((vA x a).1.sign == PySem.Str.ofString "") = true)
    (an : ([PySem.Str.ofString "+", PySem.Str.ofString "-"].any fun y => y == Txt.slice x (some (bA x a + 4)) (some (bA x a + 4 + 1))) = true) :
    (rdL (suf x a)).1 = ⟨(vA x a).1.left, (vA x a).1.right, (vA x a).1.point, (vA x a).1.star, (vA x a).1.dollar, (vA x a).1.comma, true, Txt.item x (bA x a + 4) ++ PySem.Str.ofString "behind"⟩ ∧ bA x a + 4 + 1 = a + (rdL (suf x a)).2 := by
  have hb : 0 ≤ bA x a := by unfold bA; omega
  have hp := (iff_of_eq (pm_of (by omega) an)).mpr rfl
  have hi := pm_item an (by omega)
  rw [suf_is4 hb o_cc, decide_eq_true_eq] at e4
  rw [rdL_eq h0]
  simp only [e4, if_true, rd_b4 h0, sg, hp, and_self, true_and]
  rw [hi]
  exact ⟨rfl, by unfold bA; omega⟩
theorem rd3 (h0 : 0 ≤ a) (e4 : (Txt.slice x (some (bA x a)) (some (bA x a + 4)) == PySem.Str.ofString "^^^^") = true)
    (an : ([PySem.Str.ofString "+", PySem.Str.ofString "-"].any fun y => y == Txt.slice x (some (bA x a + 4)) (some (bA x a + 4 + 1))) = false) :
    (rdL (suf x a)).1 = ⟨(vA x a).1.left, (vA x a).1.right, (vA x a).1.point, (vA x a).1.star, (vA x a).1.dollar, (vA x a).1.comma, true, (vA x a).1.sign⟩ ∧ bA x a + 4 = a + (rdL (suf x a)).2 := by
  have hb : 0 ≤ bA x a := by unfold bA; omega
  have hp : ¬ _ := fun q => Bool.false_ne_true ((iff_of_eq (pm_of (x := x) (b := bA x a + 4) (by omega) an)).mp q)
  rw [suf_is4 hb o_cc, decide_eq_true_eq] at e4
  rw [rdL_eq h0]
  simp only [e4, if_true, rd_b4 h0, hp, and_false, if_false]
  exact ⟨trivial, by unfold bA; omega⟩
theorem rd4 (h0 : 0 ≤ a) (e4 : (Txt.slice x (some (bA x a)) (some (bA x a + 4)) == PySem.Str.ofString "^^^^") = true) (sg : ((vA x a).1.sign == PySem.Str.ofString "") = false) :
    (rdL (suf x a)).1 = ⟨(vA x a).1.left, (vA x a).1.right, (vA x a).1.point, (vA x a).1.star, (vA x a).1.dollar, (vA x a).1.comma, true, (vA x a).1.sign⟩ ∧ bA x a + 4 = a + (rdL (suf x a)).2 := by
  have hb : 0 ≤ bA x a := by unfold bA; omega
  rw [suf_is4 hb o_cc, decide_eq_true_eq] at e4
  rw [rdL_eq h0]
  simp only [e4, if_true, sg, Bool.false_eq_true, false_and, if_false]
  exact ⟨trivial, by unfold bA; omega⟩
theorem rd5 (h0 : 0 ≤ a) (e4 : (Txt.slice x (some (bA x a)) (some (bA x a + 4)) == PySem.Str.ofString "^^^^") = false) (sg : ((vA x a).1.sign == PySem.Str.ofString "") = true)
    (an : ([PySem.Str.ofString "+", PySem.Str.ofString "-"].any fun y => y == Txt.slice x (some (bA x a)) (some (bA x a + 1))) = true) :
    (rdL (suf x a)).1 = ⟨(vA x a).1.left, (vA x a).1.right, (vA x a).1.point, (vA x a).1.star, (vA x a).1.dollar, (vA x a).1.comma, (vA x a).1.expo, Txt.item x (bA x a) ++ PySem.Str.ofString "behind"⟩ ∧ bA x a + 1 = a + (rdL (suf x a)).2 := by
  have hb : 0 ≤ bA x a := by unfold bA; omega
  have hp := (iff_of_eq (pm_of hb an)).mpr rfl
  have hi := pm_item an hb
  rw [suf_is4 hb o_cc, decide_eq_false_iff_not] at e4
  rw [rdL_eq h0]
  simp only [e4, if_false, ← bA_suf h0, sg, hp, and_self, true_and, if_true]
  rw [hi]
  exact ⟨rfl, by unfold bA; omega⟩
theorem rd7 (h0 : 0 ≤ a) (e4 : (Txt.slice x (some (bA x a)) (some (bA x a + 4)) == PySem.Str.ofString "^^^^") = false)
    (an : ([PySem.Str.ofString "+", PySem.Str.ofString "-"].any fun y => y == Txt.slice x (some (bA x a)) (some (bA x a + 1))) = false) :
    (rdL (suf x a)).1 = ⟨(vA x a).1.left, (vA x a).1.right, (vA x a).1.point, (vA x a).1.star, (vA x a).1.dollar, (vA x a).1.comma, (vA x a).1.expo, (vA x a).1.sign⟩ ∧ bA x a = a + (rdL (suf x a)).2 := by
  have hb : 0 ≤ bA x a := by unfold bA; omega
  have hp : ¬ _ := fun q => Bool.false_ne_true ((iff_of_eq (pm_of (x := x) (b := bA x a) hb an)).mp q)
  rw [suf_is4 hb o_cc, decide_eq_false_iff_not] at e4
  rw [rdL_eq h0]
  simp only [e4, if_false, ← bA_suf h0, hp, and_false]
  exact ⟨trivial, by unfold bA; omega⟩
theorem rd8 (h0 : 0 ≤ a) (e4 : (Txt.slice x (some (bA x a)) (some (bA x a + 4)) == PySem.Str.ofString "^^^^") = false) (sg : ((vA x a).1.sign == PySem.Str.ofString "") = false) :
    (rdL (suf x a)).1 = ⟨(vA x a).1.left, (vA x a).1.right, (vA x a).1.point, (vA x a).1.star, (vA x a).1.dollar, (vA x a).1.comma, (vA x a).1.expo, (vA x a).1.sign⟩ ∧ bA x a = a + (rdL (suf x a)).2 := by
  have hb : 0 ≤ bA x a := by unfold bA; omega
  rw [suf_is4 hb o_cc, decide_eq_false_iff_not] at e4
  rw [rdL_eq h0]
  simp only [e4, if_false, sg, Bool.false_eq_true, false_and]
  exact ⟨trivial, by unfold bA; omega⟩
end

-- piece 09
-- needs: 08
-- pure
/-- a picture with an exponent and no more -/
def ExpoPic (p : Pic) : Prop := p = ⟨p.left, p.right, p.point, false, false, false, true, Str.ofString ""⟩
/-- a picture that shows numbers in bounds -/
def GP (p : Pic) : Prop := (p.expo = false ∧ 0 ≤ p.left ∧ p.left ≤ 30 ∧ 0 ≤ p.right ∧ p.right ≤ 10) ∨ (ExpoPic p ∧ p.expo = true ∧ p.comma = false ∧ 2 ≤ p.left ∧ p.left ≤ 10 ∧ 0 ≤ p.right ∧ p.right ≤ 10)
/-- number_by -/
def shw (p : Pic) (c e : Int) : List Nat :=
  if p.expo = true then nbO p (decide (c < 0)) (wx1 (max (p.left - 1) 0) p.right c.natAbs e) (wx2 (max (p.left - 1) 0) p.right c.natAbs e) (wx3 (max (p.left - 1) 0) p.right c.natAbs e)
  else nbO p (decide (c < 0)) ((padL (scl c.natAbs e p.right) (p.right + 1) []).take ((padL (scl c.natAbs e p.right) (p.right + 1) []).length - p.right.toNat)) ((padL (scl c.natAbs e p.right) (p.right + 1) []).drop ((padL (scl c.natAbs e p.right) (p.right + 1) []).length - p.right.toNat)) []

-- piece 40
-- needs: 08
-- pure
/-- figures read on from f -/
def foldF (D : List Nat) (f : Int) : Int := D.foldl (fun (f : Int) (c : Nat) => 10 * f + c - 48) f
def Digs (D : List Nat) : Prop := ∀ d ∈ D, 48 ≤ d ∧ d ≤ 57
theorem Digs.nil : Digs [] := fun _ h => nomatch h
theorem Digs.cons {c : Nat} {D : List Nat} (h1 : 48 ≤ c) (h2 : c ≤ 57) (h : Digs D) : Digs (c :: D) := fun d hd => by
  rcases List.mem_cons.mp hd with rfl | hd
  · exact ⟨h1, h2⟩
  · exact h d hd
theorem Digs.of_sub {D E : List Nat} (h : Digs D) (hs : ∀ d ∈ E, d ∈ D) : Digs E := fun d hd => h d (hs d hd)
theorem Digs.app {D E : List Nat} (h : Digs D) (h' : Digs E) : Digs (D ++ E) := fun d hd => (List.mem_append.mp hd).elim (h d) (h' d)
theorem foldF_lin (D : List Nat) : ∀ f, foldF D f = f * 10 ^ D.length + foldF D 0 := by
  induction D with
  | nil => intro f; simp [foldF]
  | cons c r ih =>
    intro f
    show foldF r (10 * f + c - 48) = f * 10 ^ (r.length + 1) + foldF r (10 * 0 + c - 48)
    rw [ih, ih (10 * 0 + c - 48), Int.pow_succ, Int.sub_mul, Int.add_mul, Int.sub_mul, Int.add_mul]
    have : 10 * f * 10 ^ r.length = f * (10 ^ r.length * 10) := by rw [Int.mul_comm 10 f, Int.mul_assoc, Int.mul_comm 10]
    rw [this]
    omega
theorem foldF_app (D E : List Nat) (f : Int) : foldF (D ++ E) f = foldF E (foldF D f) := List.foldl_append
theorem foldF_bd {D : List Nat} (h : Digs D) : 0 ≤ foldF D 0 ∧ foldF D 0 < 10 ^ D.length := by
  induction D with
  | nil => simp [foldF]
  | cons c r ih =>
    have hc := h c List.mem_cons_self
    have hr := ih (fun d hd => h d (List.mem_cons_of_mem _ hd))
    show 0 ≤ foldF r (10 * 0 + c - 48) ∧ foldF r (10 * 0 + c - 48) < 10 ^ (r.length + 1)
    rw [foldF_lin, Int.pow_succ]
    have hp := pow10_pos r.length
    have h1 : (0 : Int) ≤ 10 * 0 + c - 48 := by omega
    have h2 : (10 * 0 + (c : Int) - 48) ≤ 9 := by omega
    have h3 : (10 * 0 + (c : Int) - 48) * 10 ^ r.length ≤ 9 * 10 ^ r.length := Int.mul_le_mul_of_nonneg_right h2 (by omega)
    have h4 : 0 ≤ (10 * 0 + (c : Int) - 48) * 10 ^ r.length := Int.mul_nonneg h1 (by omega)
    omega
theorem runF_run {P D R : List Nat} (hD : Digs D) (hR : ∀ c, R.head? = some c → ¬ (48 ≤ c ∧ c ≤ 57)) : ∀ f, runF (P ++ (D ++ R)) P.length f = (foldF D f, P.length + D.length) := by
  induction D generalizing P with
  | nil =>
    intro f
    rw [runF_end fun c hc => ?_]
    · rfl
    · rw [List.nil_append, List.getElem?_append_right (Nat.le_refl _), Nat.sub_self, ← List.head?_eq_getElem?] at hc
      exact hR c hc
  | cons d r ih =>
    intro f
    have hd := hD d List.mem_cons_self
    have hg : (P ++ (d :: r ++ R))[P.length]? = some d := by
      rw [List.getElem?_append_right (Nat.le_refl _), Nat.sub_self]; rfl
    rw [runF_go hg hd.1 hd.2]
    have h2 := ih (P := P ++ [d]) (fun e he => hD e (List.mem_cons_of_mem _ he)) (10 * f + d - 48)
    rw [List.append_assoc, List.length_append] at h2
    show runF (P ++ (d :: r ++ R)) (P.length + 1) _ = _
    rw [show P ++ (d :: r ++ R) = P ++ ([d] ++ (r ++ R)) from rfl]
    rw [show P.length + 1 = P.length + [d].length from rfl, h2]
    show (foldF r (10 * f + d - 48), P.length + [d].length + r.length) = (foldF r (10 * f + d - 48), P.length + (r.length + 1))
    rw [show P.length + [d].length + r.length = P.length + (r.length + 1) by simp only [List.length_cons, List.length_nil]; omega]
/-- where d_of_text begins -/
def sg0 (l : List Nat) : Int := if l[0]? = some 43 ∨ l[0]? = some 45 then 1 else 0
def sgn (l : List Nat) (c : Int) : Int := if l[0]? = some 45 then 0 - c else c
/-- what d_of_text reads in l: c at 10 ^ e, and it ends at n -/
def DT (l : List Nat) (c e n : Int) : Prop :=
  (∃ a1 a2 f1 f2 ex : Int, runF l (sg0 l).toNat 0 = (f1, a1.toNat) ∧ l[a1.toNat]? = some 46 ∧ runF l (a1 + 1).toNat 0 = (f2, a2.toNat) ∧ expA l a2 = (ex, n) ∧ sg0 l ≤ a1 ∧ a1 < l.length ∧ a1 + 1 ≤ a2 ∧ a2 ≤ l.length ∧
    0 < a1 - sg0 l + (a2 - (a1 + 1)) ∧ 0 ≤ f1 ∧ f1 < 10 ^ 18 ∧ 0 ≤ f1 * 10 ^ (a2 - (a1 + 1)).toNat + f2 ∧ f1 * 10 ^ (a2 - (a1 + 1)).toNat + f2 < 10 ^ 19 ∧ -60 ≤ ex - (a2 - (a1 + 1)) ∧ ex - (a2 - (a1 + 1)) ≤ 20 ∧
    c = sgn l (f1 * 10 ^ (a2 - (a1 + 1)).toNat + f2) ∧ e = ex - (a2 - (a1 + 1))) ∨
  (∃ a1 f1 ex : Int, runF l (sg0 l).toNat 0 = (f1, a1.toNat) ∧ l[a1.toNat]? ≠ some 46 ∧ expA l a1 = (ex, n) ∧ sg0 l < a1 ∧ a1 ≤ l.length ∧ 0 ≤ f1 ∧ f1 < 10 ^ 18 ∧ -60 ≤ ex ∧ ex ≤ 20 ∧ c = sgn l f1 ∧ e = ex - 0)
/-- an exponent's text, and its number -/
def ExT (X : List Nat) (ex : Int) : Prop := (X = [] ∧ ex = 0) ∨ ∃ s D, X = 69 :: s :: D ∧ (s = 43 ∨ s = 45) ∧ D ≠ [] ∧ Digs D ∧ foldF D 0 < 9999 ∧ ex = if s = 45 then 0 - foldF D 0 else foldF D 0
theorem ExT.head {X : List Nat} {ex : Int} (h : ExT X ex) : ∀ c, X.head? = some c → ¬ (48 ≤ c ∧ c ≤ 57) := by
  intro c hc
  rcases h with ⟨rfl, _⟩ | ⟨s, D, rfl, _⟩
  · simp at hc
  · simp at hc; omega
theorem ExT.at {P X : List Nat} {ex : Int} (h : ExT X ex) : expA (P ++ X) P.length = (ex, ((P ++ X).length : Int)) := by
  rcases h with ⟨rfl, rfl⟩ | ⟨s, D, rfl, hs, hne, hD, hb, rfl⟩
  · rw [List.append_nil, expA_out (Int.le_refl _)]
  · have h0 : (P ++ 69 :: s :: D)[((P.length : Int)).toNat]? = some 69 := by
      rw [Int.toNat_natCast, List.getElem?_append_right (Nat.le_refl _), Nat.sub_self]; rfl
    have h1 : (P ++ 69 :: s :: D)[((P.length : Int) + 1).toNat]? = some s := by
      rw [show ((P.length : Int) + 1).toNat = P.length + 1 by omega, List.getElem?_append_right (by omega), show P.length + 1 - P.length = 1 by omega]; rfl
    have hrun := runF_run (P := P ++ [69, s]) (D := D) (R := []) hD (by simp) 0
    rw [List.append_nil, List.append_assoc, List.length_append] at hrun
    have hrun' : runF (P ++ 69 :: s :: D) (P.length + 2) 0 = (foldF D 0, P.length + 2 + D.length) := hrun
    have hl : (P ++ 69 :: s :: D).length = P.length + 2 + D.length := by rw [List.length_append]; simp only [List.length_cons]; omega
    have hDl : 0 < D.length := by rcases D with _ | ⟨d, r⟩; exact absurd rfl hne; simp
    have hf := (foldF_bd hD).1
    unfold expA
    rw [h0]
    simp only [true_or, if_true]
    have hB : expB (P ++ 69 :: s :: D) (P.length : Int) = (P.length : Int) + 2 := by
      unfold expB; rw [h1]; rcases hs with rfl | rfl <;> simp <;> omega
    rw [hB, show ((P.length : Int) + 2).toNat = P.length + 2 by omega, hrun']
    simp only
    rw [if_neg (by omega), h1, hl]
    congr 1
    rw [show min (foldF D 0) 9999 = foldF D 0 by omega]
    rcases hs with rfl | rfl
    · rw [if_neg (by simp), if_neg (by decide)]; omega
    · rw [if_pos rfl, if_pos rfl]; omega
/-- a sign, or none -/
def Sg (S : List Nat) : Prop := S = [] ∨ S = [43] ∨ S = [45]
theorem sg_len {S K : List Nat} (hS : Sg S) (hK : ∀ c, K.head? = some c → c ≠ 43 ∧ c ≠ 45) : sg0 (S ++ K) = S.length := by
  unfold sg0
  rcases hS with rfl | rfl | rfl
  · rw [if_neg]; · rfl
    intro h
    rw [List.nil_append, ← List.head?_eq_getElem?] at h
    rcases h with h | h
    · exact (hK _ h).1 rfl
    · exact (hK _ h).2 rfl
  · rw [if_pos (by simp)]; rfl
  · rw [if_pos (by simp)]; rfl
theorem sg_neg {S K : List Nat} {c : Int} (hS : Sg S) (hK : ∀ c, K.head? = some c → c ≠ 43 ∧ c ≠ 45) : sgn (S ++ K) c = if S = [45] then 0 - c else c := by
  unfold sgn
  rcases hS with rfl | rfl | rfl
  · rw [if_neg, if_neg (by simp)]
    intro h
    rw [List.nil_append, ← List.head?_eq_getElem?] at h
    exact (hK _ h).2 rfl
  · rw [if_neg (by simp), if_neg (by simp)]
  · rw [if_pos (by simp), if_pos rfl]
theorem digs_head {D R : List Nat} (hD : Digs D) (hR : ∀ c, R.head? = some c → c ≠ 43 ∧ c ≠ 45) : ∀ c, (D ++ R).head? = some c → c ≠ 43 ∧ c ≠ 45 := by
  intro c hc
  rcases D with _ | ⟨d, r⟩
  · exact hR c hc
  · have h := hD d List.mem_cons_self
    simp at hc; omega
theorem dt_pt {S A B X : List Nat} {ex : Int} (hS : Sg S) (hA : Digs A) (hB : Digs B) (hX : ExT X ex) (hne : 0 < A.length + B.length) (hl : (A ++ B).length ≤ 18) (e0 : -60 ≤ ex - B.length) (e1 : ex - B.length ≤ 20) :
    DT (S ++ (A ++ (46 :: (B ++ X)))) (if S = [45] then 0 - foldF (A ++ B) 0 else foldF (A ++ B) 0) (ex - B.length) (S ++ (A ++ (46 :: (B ++ X)))).length := by
  have hK : ∀ c, (A ++ (46 :: (B ++ X))).head? = some c → c ≠ 43 ∧ c ≠ 45 := digs_head hA (by simp)
  have h0 := sg_len hS hK
  have hr1 := runF_run (P := S) (D := A) (R := 46 :: (B ++ X)) hA (by simp) 0
  have hr2 := runF_run (P := S ++ (A ++ [46])) (D := B) (R := X) hB hX.head 0
  have hx := hX.at (P := S ++ (A ++ (46 :: B)))
  have e1' : S ++ (A ++ [46]) ++ (B ++ X) = S ++ (A ++ (46 :: (B ++ X))) := by simp
  have e2' : S ++ (A ++ (46 :: B)) ++ X = S ++ (A ++ (46 :: (B ++ X))) := by simp
  rw [e1'] at hr2
  rw [e2'] at hx
  have hab := foldF_bd (hA.app hB)
  have ha := foldF_bd hA
  rw [List.length_append] at hl
  have hp : (10 : Int) ^ (A ++ B).length ≤ 10 ^ 18 := pow10_le (by rw [List.length_append]; omega)
  have hp2 : (10 : Int) ^ A.length ≤ 10 ^ 18 := pow10_le (by omega)
  have hv : foldF (A ++ B) 0 = foldF A 0 * 10 ^ B.length + foldF B 0 := by rw [foldF_app, foldF_lin]
  refine .inl ⟨((S.length + A.length : Nat) : Int), ((S.length + A.length + 1 + B.length : Nat) : Int), foldF A 0, foldF B 0, ex, ?_, ?_, ?_, ?_, ?_, ?_, ?_, ?_, ?_, ha.1, ?_, ?_, ?_, ?_, ?_, ?_, ?_⟩
  · rw [h0, Int.toNat_natCast, hr1, Int.toNat_natCast]
  · rw [Int.toNat_natCast, ← List.append_assoc, List.getElem?_append_right (by rw [List.length_append]; omega), List.length_append, Nat.sub_self]; rfl
  · rw [show (((S.length + A.length : Nat) : Int) + 1).toNat = (S ++ (A ++ [46])).length by simp only [List.length_append, List.length_cons, List.length_nil]; omega, hr2, Int.toNat_natCast]
    congr 1
    simp only [List.length_append, List.length_cons, List.length_nil]; omega
  · rw [show ((S.length + A.length + 1 + B.length : Nat) : Int) = ((S ++ (A ++ (46 :: B))).length : Int) by simp only [List.length_append, List.length_cons]; omega]
    exact hx
  · rw [h0]; omega
  · simp only [List.length_append, List.length_cons]; omega
  · omega
  · simp only [List.length_append, List.length_cons]; omega
  · rw [h0]; omega
  · omega
  · rw [show (((S.length + A.length + 1 + B.length : Nat) : Int) - (((S.length + A.length : Nat) : Int) + 1)).toNat = B.length by omega, ← hv]; exact hab.1
  · rw [show (((S.length + A.length + 1 + B.length : Nat) : Int) - (((S.length + A.length : Nat) : Int) + 1)).toNat = B.length by omega, ← hv]
    have : (10 : Int) ^ 18 < 10 ^ 19 := by decide
    omega
  · omega
  · omega
  · rw [sg_neg hS hK, show (((S.length + A.length + 1 + B.length : Nat) : Int) - (((S.length + A.length : Nat) : Int) + 1)).toNat = B.length by omega, ← hv]
  · omega
theorem dt_np {S A X : List Nat} {ex : Int} (hS : Sg S) (hA : Digs A) (hX : ExT X ex) (hne : 0 < A.length) (hl : A.length ≤ 17) (e0 : -60 ≤ ex) (e1 : ex ≤ 20) :
    DT (S ++ (A ++ X)) (if S = [45] then 0 - foldF A 0 else foldF A 0) ex (S ++ (A ++ X)).length := by
  have hXh : ∀ c, X.head? = some c → c ≠ 46 ∧ c ≠ 43 ∧ c ≠ 45 := by
    intro c hc
    rcases hX with ⟨rfl, _⟩ | ⟨s, D, rfl, _⟩
    · simp at hc
    · simp at hc; omega
  have hK : ∀ c, (A ++ X).head? = some c → c ≠ 43 ∧ c ≠ 45 := digs_head hA fun c hc => (hXh c hc).2
  have h0 := sg_len hS hK
  have hr1 := runF_run (P := S) (D := A) (R := X) hA hX.head 0
  have hx := hX.at (P := S ++ A)
  rw [List.append_assoc] at hx
  have ha := foldF_bd hA
  have hp2 : (10 : Int) ^ A.length ≤ 10 ^ 17 := pow10_le (by omega)
  have hq : (10 : Int) ^ 17 < 10 ^ 18 := by decide
  refine .inr ⟨((S.length + A.length : Nat) : Int), foldF A 0, ex, ?_, ?_, ?_, ?_, ?_, ha.1, by omega, e0, e1, ?_, by omega⟩
  · rw [h0, Int.toNat_natCast, hr1, Int.toNat_natCast]
  · rw [Int.toNat_natCast, ← List.append_assoc, List.getElem?_append_right (by rw [List.length_append]; omega), List.length_append, Nat.sub_self, ← List.head?_eq_getElem?]
    exact fun h => (hXh _ h).1 rfl
  · rw [show ((S.length + A.length : Nat) : Int) = ((S ++ A).length : Int) by rw [List.length_append]]
    exact hx
  · rw [h0]; omega
  · simp only [List.length_append]; omega
  · rw [sg_neg hS hK]

-- piece 50
-- needs: 08
-- pure
section
open PySem.Spec PyProof.Rows.LCg PyProof.Rows.LCt
variable {prog : Program} {w : World} {A : Around} {E : Value → Shared → Prop} {s : Shared} {h₀ : Heap} {L : Addr} {m : Str → Option Value} {env : Env}
/-- the source of a comprehension is the text tx -/
def TxtSrc (prog : Program) (w : World) (A : Around) (h₀ : Heap) (L : Addr) (m : Str → Option Value) (env : Env) (ct elt : PySem.Expr) (x : Str) (scope : Scope) (cl : List (Str × Addr)) (tx : Str) (Q : Value → Shared → Prop) (xv : Value) (s₁ : Shared) : Prop :=
  ∃ t news, xv = .str tx t ∧ A.handled = none ∧ Fr h₀ L s₁.heap m ∧ News h₀ L s₁.heap news ∧ tx.cps.size ≤ sizeLine ∧
      ∀ s₂ : Shared, (∃ h, s₂ = { s₁ with heap := h }) → CompRestT prog w A h₀ L m env ct elt x scope cl s₂ (fun _ => True) (SignAt tx) (FinE h₀ L m s₂ Q) tx.cps.size 0 [] news
/-- a comprehension with a test over a text's signs -/
theorem ListComp_text {ct elt iter : PySem.Expr} {x : Str} {px : Pos} {scope : Scope} {cl : List (Str × Addr)} {pos : Pos} {Q : Value → Shared → Prop} {tx : Str} (_F₀ : Fr h₀ L s.heap m) (ha : tx.cps.all (· < 128) = true)
    (hclos : closureFor scope env = pure cl) (hcell : ∀ y ∈ scope.names, y.2 ≠ .cell) (hkind : scope.kind = .function)
    (hnames : ∀ y ∈ scope.names, y.2 = .local → scope.names.lookup y.1 = some .local) (hx : scope.names.lookup x = some .local)
    (h : wpAny (model prog w) A (eval iter env) (TxtSrc prog w A h₀ L m env ct elt x scope cl tx Q) E s)
    (hs : ∀ x, foldedSetIterable iter env x = pure x := by intro _; rfl) :
    wpAny (model prog w) A (eval (.ListComp elt [⟨.Name x px, iter, [ct], 0⟩] scope pos) env) Q E s := by
  rw [eval_ListComp]
  refine wpAny_comprehension_free (use := none) rfl hs hclos hkind hnames (wpAny_mono h (fun xv s₁ h₁ => ?_) fun _ _ e => e)
  obtain ⟨t, news, rfl, hh, F, N, hsz, R⟩ := h₁
  refine wpAny_pyIter_ascii ha ?_
  refine block_T (Walks.strAscii hh s₁.heap.objs.size tx t) hsz (fun i h st => by obtain ⟨o, e, _⟩ := st; exact ⟨o, e⟩)
    (fun i h h' o nw st e1 e2 _ _ _ => by obtain ⟨o', e', r⟩ := st; rw [e1] at e'; obtain rfl := Option.some.inj e'; exact ⟨o, e2, r⟩) hcell hkind hx ⟨_, Heap.get?_push_size _ rfl, rfl, rfl⟩ (fun b hb => ?_)
    (F.keeps fun _ _ e => Heap.get?_push_of_some _ e) (N.grown fun _ _ e => Heap.get?_push_of_some _ e) (Nat.ne_of_lt F.ns.lt) (next_is_new F) (fun p hp => Nat.ne_of_lt (Heap.lt_size (N p hp).1)) trivial (R _ ⟨_, rfl⟩) ?_
  · rw [List.mem_singleton.mp hb]
    show s₁.heap.objs.size < (s₁.heap.push _).objs.size
    rw [Heap.size_push]; exact Nat.lt_succ_self _
  · intro D C h tk m' ys news' F' N' o1 hn hC₀ hD₀ hCL hDL hCD offC fin
    refine ⟨m', hn, fun h'' hs'' => fin D h'' tk (F'.change hs'' hCL hC₀) (fun p hp => ?_) o1⟩
    refine ⟨hs''.extBut _ _ ?_ (N' p hp).1, (N' p hp).2⟩
    rcases List.mem_cons.mp hp with rfl | hp
    · exact Ne.symm hCD
    · exact offC p hp
/-- texts of one sign each -/
def SignsAre : List Value → List Nat → Prop
  | [], [] => True
  | v :: r, c :: q => (∃ t, v = .str (St [c]) t) ∧ SignsAre r q
  | _, _ => False
theorem SignsAre.snoc : ∀ {ys : List Value} {l : List Nat} {c : Nat} {t : Tok}, SignsAre ys l → SignsAre (ys ++ [.str (St [c]) t]) (l ++ [c])
  | [], [], c, t, _ => ⟨⟨t, rfl⟩, trivial⟩
  | _ :: _, _ :: _, _, _, h => ⟨h.1, SignsAre.snoc h.2⟩
  | [], _ :: _, _, _, h => h.elim
  | _ :: _, [], _, _, h => h.elim
/-- one turn decides by keep and gives the sign itself -/
def TurnK (prog : Program) (w : World) (A : Around) (h₀ : Heap) (L : Addr) (m : Str → Option Value) (env : Env) (ct elt : PySem.Expr) (x : Str) (scope : Scope) (cl : List (Str × Addr)) (s : Shared) (tx : Str) (keep : Nat → Bool) (news : List (Addr × Obj)) : Prop :=
  ∀ (c : Nat) (t : Tok) (I : Addr) (oI : Obj) (C : Addr) (oC : Obj) (D : Addr) (ys : List Value) m₂ h tk (E' : Value → Shared → Prop), c ∈ Lz tx → NsObj oC m₂ → m₂ x = some (.str (St [c]) t) → Fr h₀ L h m → News h₀ L h ((I, oI) :: (C, oC) :: (D, lst ys) :: news) →
    wpAny (model prog w) A (isTrue ct (compEnvC scope cl C env) (eval ct (compEnvC scope cl C env))) (fun ok s' => (∃ tk', s' = { s with heap := h, toks := tk' }) ∧ ok = keep c ∧
      (ok = true → wpAny (model prog w) A (eval elt (compEnvC scope cl C env)) (fun y s' => (∃ tk', s' = { s with heap := h, toks := tk' }) ∧ ∃ t, y = .str (St [c]) t) E' s')) E' { s with heap := h, toks := tk }
theorem rest_all {ct elt : PySem.Expr} {x : Str} {scope : Scope} {cl : List (Str × Addr)} {tx : Str} {keep : Nat → Bool} {news : List (Addr × Obj)} {Fin : List Value → List (Addr × Obj) → Prop}
    (T : TurnK prog w A h₀ L m env ct elt x scope cl s tx keep news) (hF : ∀ ys, SignsAre ys ((Lz tx).filter keep) → Fin ys news) :
    ∀ (k i : Nat) (ys : List Value), i + k = (Lz tx).length → SignsAre ys (((Lz tx).take i).filter keep) → CompRestT prog w A h₀ L m env ct elt x scope cl s (fun _ => True) (SignAt tx) Fin k i ys news := by
  intro k
  induction k with
  | zero =>
    intro i ys hi hy
    refine CompRestT.zero (hF ys ?_)
    rwa [List.take_of_length_le (by omega)] at hy
  | succ k ih =>
    intro i ys hi hy
    refine CompRestT.succ ?_
    rintro v I oI C oC D oC' h tk E' ⟨c, t, hc, rfl⟩ hN hx F N off ne
    have hc' : (Lz tx)[i]? = some c := by rw [Array.getElem?_toList]; exact hc
    have hm : c ∈ Lz tx := List.mem_of_getElem? hc'
    have htake : (Lz tx).take (i + 1) = (Lz tx).take i ++ [c] := by rw [List.take_add_one, hc']; rfl
    refine wpAny_mono (T c t I oI C oC D ys _ h tk E' hm hN hx F N) (fun ok s' hq => ?_) fun _ _ e => e
    obtain ⟨⟨tk', rfl⟩, rfl, hgo⟩ := hq
    cases hk : keep c with
    | true =>
      rw [if_pos rfl]
      refine wpAny_mono (hgo hk) (fun y s'' hy' => ?_) fun _ _ e => e
      obtain ⟨⟨tk'', rfl⟩, t', rfl⟩ := hy'
      refine ⟨h, tk'', news, rfl, F, N, off, trivial, ih (i + 1) _ (by omega) ?_⟩
      rw [htake, List.filter_append, show List.filter keep [c] = [c] by simp [hk]]
      exact hy.snoc
    | false =>
      rw [if_neg (by simp)]
      refine ⟨h, tk', news, rfl, F, N, off, trivial, ih (i + 1) _ (by omega) ?_⟩
      rw [htake, List.filter_append, show List.filter keep [c] = [] by simp [hk], List.append_nil]
      exact hy
end

-- piece 51
-- needs: 50 40
-- pure
theorem SignsAre.strs : ∀ {ys : List Value} {l : List Nat}, SignsAre ys l → StrsAre ys (l.map fun c => St [c])
  | [], [], _ => .nil
  | _ :: _, c :: q, h => by
    obtain ⟨⟨t, rfl⟩, h2⟩ := h
    exact .cons _ t h2.strs
  | [], _ :: _, h => h.elim
  | _ :: _, [], h => h.elim
theorem join_signs_e (l : List Nat) : Str.join (PySem.Str.ofString "") (l.map fun c => St [c]) = St l := by
  rw [o_empty]
  induction l with
  | nil => exact lz_inj rfl
  | cons c r ih =>
    cases r with
    | nil => rfl
    | cons d q =>
      show St [c] ++ St [] ++ Str.join (St []) (St [d] :: q.map fun c => St [c]) = _
      rw [show (St [d] :: q.map fun c => St [c]) = (d :: q).map fun c => St [c] from rfl, ih, st_append, st_append]
      rfl
theorem join_signs (l : List Nat) : Txt.join (PySem.Str.ofString "") (l.map fun c => St [c]) = St l := by
  show Builtin.Str.glued _ _ = _
  rw [StrLaws.glued_eq_join, join_signs_e]
theorem signs_sum (l : List Nat) : ((l.map fun c => St [c]).map (·.length)).sum + (l.map fun c => St [c]).length = 2 * l.length := by
  induction l with
  | nil => rfl
  | cons c r ih =>
    simp only [List.map_cons, List.sum_cons, List.length_cons] at ih ⊢
    have : (St [c]).length = 1 := rfl
    omega
/-- the signs that _law_read keeps -/
def keepB (c : Nat) : Bool := (decide (48 ≤ c) && decide (c ≤ 57)) || (decide (c = 46) || (decide (c = 69) || (decide (c = 43) || decide (c = 45))))
theorem occ_keep : ∀ c : Nat, c < 128 → (Builtin.Str.occurrences (PySem.Str.ofString "0123456789.E+-") (St [c]) 0 (PySem.Str.ofString "0123456789.E+-").length 1).isEmpty = !keepB c := by decide +kernel
theorem occ_keep' {c : Nat} (h : c < 128) : (!(Builtin.Str.occurrences (PySem.Str.ofString "0123456789.E+-") (St [c]) 0 (PySem.Str.ofString "0123456789.E+-").length 1).isEmpty) = keepB c := by rw [occ_keep c h, Bool.not_not]
/-- what _law_read keeps, a last sign set first -/
def rotL (l : List Nat) : List Nat := if l.drop (l.length - 1) = [43] ∨ l.drop (l.length - 1) = [45] then l.drop (l.length - 1) ++ l.take (l.length - 1) else l
theorem rot_any {l : List Nat} {b : Bool} (hl : 0 < l.length) (h : ([PySem.Str.ofString "+", PySem.Str.ofString "-"].any fun y => y == Txt.slice (St l) (some (((St l).length : Int) - 1)) none) = b) :
    (l.drop (l.length - 1) = [43] ∨ l.drop (l.length - 1) = [45]) = (b = true) := by
  have hn : ((St l).length : Int) - 1 = ((l.length - 1 : Nat) : Int) := by show (l.length : Int) - 1 = _; omega
  simp only [List.any_cons, List.any_nil, Bool.or_false, beq_lz, o_plus, o_minus, lz_from (x := St l) (n := ((St l).length : Int) - 1) (by omega), lz_st] at h
  rw [hn, Int.toNat_natCast] at h
  subst h
  generalize l.drop (l.length - 1) = q
  refine propext ?_
  rw [Bool.or_eq_true, beq_iff_eq, beq_iff_eq]
  exact ⟨fun h => h.imp Eq.symm Eq.symm, fun h => h.imp Eq.symm Eq.symm⟩
theorem rot_t {l : List Nat} (hl : 0 < l.length) (h : ([PySem.Str.ofString "+", PySem.Str.ofString "-"].any fun y => y == Txt.slice (St l) (some (((St l).length : Int) - 1)) none) = true) :
    Txt.slice (St l) (some (((St l).length : Int) - 1)) none ++ Txt.slice (St l) none (some (((St l).length : Int) - 1)) = St (rotL l) := by
  have hn : ((St l).length : Int) - 1 = ((l.length - 1 : Nat) : Int) := by show (l.length : Int) - 1 = _; omega
  have hr := (iff_of_eq (rot_any hl h)).mpr rfl
  unfold rotL
  rw [if_pos hr, from_st (by omega), to_st (by omega), st_append, hn, Int.toNat_natCast]
theorem rot_f {l : List Nat} (hl : 0 < l.length) (h : ([PySem.Str.ofString "+", PySem.Str.ofString "-"].any fun y => y == Txt.slice (St l) (some (((St l).length : Int) - 1)) none) = false) : St l = St (rotL l) := by
  have hr : ¬ _ := fun q => Bool.false_ne_true ((iff_of_eq (rot_any hl h)).mp q)
  unfold rotL
  rw [if_neg hr]
section
variable {prog : Program} {w : World} {A : Around} {E : Value → Shared → Prop} {s : Shared} {t : Tok} {Q : Value → Shared → Prop}
theorem join_kept {D : Addr} {ys : List Value} {l : List Nat} (hl : s.heap.IsList D ys.toArray) (hi : SignsAre ys l) (hw : l.length ≤ 400) (h : ∀ t' k, Q (.str (St l) t') { s with toks := k }) :
    wpAny (model prog w) A (call (.builtin "str.join") [.str (PySem.Str.ofString "") t, .ref D]) Q E s := by
  refine join_listW (ys := l.map fun c => St [c]) hl hi.strs (by decide +kernel) ?_ fun t' k => ?_
  · rw [signs_sum]; omega
  · rw [join_signs]; exact h t' k
end

-- piece 41
-- needs: 40 51
-- pure
theorem padL_app (n k : Int) (f : List Nat) : ∃ G, padL n k f = G ++ f := by
  by_cases hc : 0 < n ∨ (f.length : Int) < k
  · rw [padL_go hc]
    obtain ⟨G, h⟩ := padL_app (n / 10) k ((48 + (n % 10).toNat) :: f)
    exact ⟨G ++ [48 + (n % 10).toNat], by rw [h]; simp⟩
  · exact ⟨[], by rw [padL_end hc]; rfl⟩
termination_by n.toNat + (k - f.length).toNat
decreasing_by
  simp only [List.length_cons]
  rcases hc with h | h <;> omega
theorem padL_digs {n k : Int} {f : List Nat} (hf : Digs f) : Digs (padL n k f) := by
  by_cases hc : 0 < n ∨ (f.length : Int) < k
  · rw [padL_go hc]
    exact padL_digs (hf.cons (by omega) (by omega))
  · rw [padL_end hc]; exact hf
termination_by n.toNat + (k - f.length).toNat
decreasing_by
  simp only [List.length_cons]
  rcases hc with h | h <;> omega
theorem padL_val {n k : Int} {f : List Nat} (h0 : 0 ≤ n) : foldF (padL n k f) 0 = n * 10 ^ f.length + foldF f 0 := by
  by_cases hc : 0 < n ∨ (f.length : Int) < k
  · rw [padL_go hc, padL_val (by omega)]
    show n / 10 * 10 ^ (f.length + 1) + foldF f (10 * 0 + ((48 + (n % 10).toNat : Nat) : Int) - 48) = _
    rw [foldF_lin, Int.pow_succ]
    have e : (10 * 0 + ((48 + (n % 10).toNat : Nat) : Int) - 48) = n % 10 := by omega
    rw [e]
    have h1 : n / 10 * (10 ^ f.length * 10) = (10 * (n / 10)) * 10 ^ f.length := by
      rw [Int.mul_comm 10 (n / 10), Int.mul_assoc, Int.mul_comm 10]
    rw [h1, ← Int.add_assoc, ← Int.add_mul, Int.mul_ediv_add_emod]
  · have : n = 0 := by omega
    rw [padL_end hc, this]; omega
termination_by n.toNat + (k - f.length).toNat
decreasing_by
  simp only [List.length_cons]
  rcases hc with h | h <;> omega
theorem padL_nil_val {n k : Int} (h0 : 0 ≤ n) : foldF (padL n k []) 0 = n := by
  rw [padL_val h0]
  show n * 10 ^ 0 + 0 = n
  omega
theorem keep_dig {D : List Nat} (h : Digs D) : D.filter keepB = D := by
  rw [List.filter_eq_self]
  intro c hc
  have := h c hc
  unfold keepB
  simp only [Bool.or_eq_true, Bool.and_eq_true, decide_eq_true_eq]
  exact .inl this
/-- grouped figures keep their figures -/
theorem keep_grpL (x f : List Nat) : (grpL x f).filter keepB = (if 3 < x.length then (x.take (x.length - 3)).filter keepB else []) ++ f.filter keepB := by
  by_cases h : 3 < x.length
  · rw [grpL_go h, keep_grpL, if_pos h]
    have hl : (x.take (x.length - 3)).length = x.length - 3 := by rw [List.length_take]; omega
    rw [List.filter_append, List.filter_cons, if_neg (show ¬ keepB 44 = true by decide), ← List.append_assoc]
    congr 1
    split
    · rw [← List.filter_append, List.take_append_drop]
    · rename_i h2
      rw [hl] at h2 ⊢
      rw [show x.length - 3 - 3 = 0 by omega, List.drop_zero, List.nil_append]
  · rw [grpL_end h, if_neg h, List.nil_append]
termination_by x.length
decreasing_by simp only [List.length_take]; omega
theorem keep_grp {x : List Nat} (h : Digs x) : (grp x).filter keepB = x := by
  unfold grp
  rw [keep_grpL]
  split
  · rw [← List.filter_append, List.take_append_drop, keep_dig h]
  · rename_i h2
    rw [show x.length - 3 = 0 by omega, List.drop_zero, List.nil_append, keep_dig h]
theorem keep_nbG {p : Pic} {A : List Nat} (h : Digs A) : (nbG p A).filter keepB = A := by
  unfold nbG; split
  · exact keep_grp h
  · exact keep_dig h

-- piece 42
-- needs: 41
-- pure
def SignOk (p : Pic) : Prop := p.sign = PySem.Str.ofString "" ∨ p.sign = PySem.Str.ofString "+ahead" ∨ p.sign = PySem.Str.ofString "+behind" ∨ p.sign = PySem.Str.ofString "-behind"
/-- the sign that is read -/
def sgnS (p : Pic) (b : Bool) : List Nat := leadS p b ++ (tailS p b).filter keepB
theorem eq_ee : (PySem.Str.ofString "" == PySem.Str.ofString "+ahead") = false := by decide +kernel
theorem eq_aa : (PySem.Str.ofString "+ahead" == PySem.Str.ofString "+ahead") = true := by decide +kernel
theorem eq_pa : (PySem.Str.ofString "+behind" == PySem.Str.ofString "+ahead") = false := by decide +kernel
theorem eq_ma : (PySem.Str.ofString "-behind" == PySem.Str.ofString "+ahead") = false := by decide +kernel
theorem eq_e0 : (PySem.Str.ofString "" == PySem.Str.ofString "") = true := by decide +kernel
theorem eq_a0 : (PySem.Str.ofString "+ahead" == PySem.Str.ofString "") = false := by decide +kernel
theorem eq_p0 : (PySem.Str.ofString "+behind" == PySem.Str.ofString "") = false := by decide +kernel
theorem eq_m0 : (PySem.Str.ofString "-behind" == PySem.Str.ofString "") = false := by decide +kernel
theorem eq_ep : (PySem.Str.ofString "+behind" == PySem.Str.ofString "") = false := by decide +kernel
theorem eq_pp : (PySem.Str.ofString "+behind" == PySem.Str.ofString "+behind") = true := by decide +kernel
theorem eq_pm : (PySem.Str.ofString "+behind" == PySem.Str.ofString "-behind") = false := by decide +kernel
theorem eq_mp : (PySem.Str.ofString "-behind" == PySem.Str.ofString "+behind") = false := by decide +kernel
theorem eq_mm : (PySem.Str.ofString "-behind" == PySem.Str.ofString "-behind") = true := by decide +kernel
theorem eq_0p : (PySem.Str.ofString "+behind" == PySem.Str.ofString "") = false := by decide +kernel
theorem eq_pe : ([PySem.Str.ofString "+behind", PySem.Str.ofString "-behind"].any fun x => x == PySem.Str.ofString "") = false := by decide +kernel
theorem eq_pA : ([PySem.Str.ofString "+behind", PySem.Str.ofString "-behind"].any fun x => x == PySem.Str.ofString "+ahead") = false := by decide +kernel
theorem eq_pP : ([PySem.Str.ofString "+behind", PySem.Str.ofString "-behind"].any fun x => x == PySem.Str.ofString "+behind") = true := by decide +kernel
theorem eq_pM : ([PySem.Str.ofString "+behind", PySem.Str.ofString "-behind"].any fun x => x == PySem.Str.ofString "-behind") = true := by decide +kernel
/-- the sign stands ahead, or behind, and it says whether the number is below nought -/
theorem sgn_cases {p : Pic} (h : SignOk p) (b : Bool) : ((tailS p b).filter keepB = [] ∨ (leadS p b = [] ∧ ∃ s, (s = 43 ∨ s = 45) ∧ (tailS p b).filter keepB = [s])) ∧ (leadS p b).filter keepB = leadS p b ∧ Sg (sgnS p b) ∧ (sgnS p b = [45] ↔ b = true) := by
  unfold sgnS leadS tailS Sg
  rcases h with h | h | h | h
  · simp only [h, eq_ee, eq_e0, eq_pe, if_true, if_false, Bool.false_eq_true]; cases b <;> exact ⟨.inl (by decide), by decide, by decide, by decide⟩
  · simp only [h, eq_aa, eq_pA, if_true, if_false, Bool.false_eq_true]; cases b <;> exact ⟨.inl (by decide), by decide, by decide, by decide⟩
  · simp only [h, eq_pa, eq_p0, eq_pP, eq_pp, if_true, if_false, Bool.false_eq_true]; cases b
    · exact ⟨.inr ⟨trivial, 43, .inl rfl, by decide⟩, by decide, by decide, by decide⟩
    · exact ⟨.inr ⟨trivial, 45, .inr rfl, by decide⟩, by decide, by decide, by decide⟩
  · simp only [h, eq_ma, eq_m0, eq_pM, eq_mp, if_true, if_false, Bool.false_eq_true]; cases b
    · exact ⟨.inl (by decide), by decide, by decide, by decide⟩
    · exact ⟨.inr ⟨trivial, 45, .inr rfl, by decide⟩, by decide, by decide, by decide⟩
theorem keep_rep {n c : Nat} (h : keepB c = false) : (List.replicate n c).filter keepB = [] := by
  rw [List.filter_eq_nil_iff]; intro d hd; rw [List.eq_of_mem_replicate hd, h]; decide
theorem keep_ext {X : List Nat} {ex : Int} (h : ExT X ex) : X.filter keepB = X := by
  rcases h with ⟨rfl, _⟩ | ⟨s, D, rfl, hs, _, hD, _⟩
  · rfl
  · rw [List.filter_cons, if_pos (by decide), List.filter_cons, if_pos (by rcases hs with rfl | rfl <;> decide), keep_dig hD]
/-- the figures ahead that stand in the text -/
def aheadF (p : Pic) (b : Bool) (A B : List Nat) : List Nat := if nbW p < ((nbLd p b ++ nbG p A).length : Int) ∧ nbG p A = [48] ∧ B ≠ [] then [] else A
theorem keep_nbA {p : Pic} {b : Bool} {A B : List Nat} (h : Digs A) : (nbA p b A B).filter keepB = aheadF p b A B := by
  unfold nbA aheadF; split
  · rfl
  · exact keep_nbG h
theorem keep_nbO {p : Pic} {b : Bool} {A B T : List Nat} {ex : Int} (hA : Digs A) (hB : Digs B) (hT : ExT T ex) (hs : SignOk p) :
    (nbO p b A B T).filter keepB = leadS p b ++ ((aheadF p b A B ++ ((if p.point = true then [46] else []) ++ (B ++ T))) ++ (tailS p b).filter keepB) := by
  have e1 : (nbO p b A B T).filter keepB = (nbT p b A B T).filter keepB := by
    unfold nbO; split
    · rw [List.filter_append]; rfl
    · rfl
  have e2 : (nbLd p b).filter keepB = leadS p b := by
    unfold nbLd
    rw [List.filter_append, (sgn_cases hs b).2.1]
    split
    · rw [show List.filter keepB [36] = [] by decide, List.append_nil]
    · rw [List.filter_nil, List.append_nil]
  have e3 : (if p.point = true then [46] else [] : List Nat).filter keepB = if p.point = true then [46] else [] := by split <;> decide
  rw [e1]
  unfold nbT
  simp only [List.filter_append]
  rw [keep_rep (by split <;> decide), e2, keep_nbA hA, e3, keep_dig hB, keep_ext hT]
  simp only [List.nil_append, List.append_assoc]
theorem rotL_id {l : List Nat} {x : Nat} (h : x ≠ 43 ∧ x ≠ 45) : rotL (l ++ [x]) = l ++ [x] := by
  unfold rotL
  have e : (l ++ [x]).drop ((l ++ [x]).length - 1) = [x] := by simp
  rw [e, if_neg]
  intro q
  rcases q with q | q <;> simp at q <;> omega
theorem rotL_go {l : List Nat} {x : Nat} (h : x = 43 ∨ x = 45) : rotL (l ++ [x]) = x :: l := by
  unfold rotL
  have e : (l ++ [x]).drop ((l ++ [x]).length - 1) = [x] := by simp
  have e2 : (l ++ [x]).take ((l ++ [x]).length - 1) = l := by simp
  rw [e, e2, if_pos (by rcases h with rfl | rfl; exact .inl rfl; exact .inr rfl)]
  rfl
theorem rot_kept {p : Pic} {b : Bool} {M l : List Nat} {x : Nat} (hs : SignOk p) (hM : M = l ++ [x]) (hx : x ≠ 43 ∧ x ≠ 45) : rotL (leadS p b ++ (M ++ (tailS p b).filter keepB)) = sgnS p b ++ M := by
  unfold sgnS
  rcases (sgn_cases hs b).1 with h | ⟨h, s, hs', h2⟩
  · rw [h, List.append_nil, List.append_nil, hM, ← List.append_assoc, rotL_id hx]
  · rw [h, h2, List.nil_append, rotL_go hs']; rfl
theorem mem_grpL : ∀ (x f : List Nat) (c : Nat), c ∈ grpL x f → c ∈ x ∨ c = 44 ∨ c ∈ f := by
  intro x f c hc
  by_cases h : 3 < x.length
  · rw [grpL_go h] at hc
    have ih := mem_grpL _ _ c hc
    rcases ih with h1 | h1 | h1
    · exact .inl (List.mem_of_mem_take h1)
    · exact .inr (.inl h1)
    · rcases List.mem_append.mp h1 with h2 | h2
      · exact .inl (List.mem_of_mem_take (List.mem_of_mem_drop h2))
      · rcases List.mem_cons.mp h2 with h3 | h3
        · exact .inr (.inl h3)
        · exact .inr (.inr h3)
  · rw [grpL_end h] at hc; exact .inr (.inr hc)
termination_by x => x.length
decreasing_by simp only [List.length_take]; omega
theorem nbG_lt {p : Pic} {A : List Nat} (hA : Digs A) : ∀ c ∈ nbG p A, c < 128 := by
  intro c hc
  unfold nbG at hc
  split at hc
  · rcases mem_grpL _ _ c hc with h | h | h
    · have := hA c h; omega
    · omega
    · have := hA c (List.mem_of_mem_drop h); omega
  · have := hA c hc; omega
theorem ext_lt {X : List Nat} {ex : Int} (h : ExT X ex) : ∀ c ∈ X, c < 128 := by
  intro c hc
  rcases h with ⟨rfl, _⟩ | ⟨s, D, rfl, hs, _, hD, _⟩
  · cases hc
  · rcases List.mem_cons.mp hc with h | h
    · omega
    · rcases List.mem_cons.mp h with h | h
      · omega
      · have := hD c h; omega
theorem nbO_lt {p : Pic} {b : Bool} {A B T : List Nat} {ex : Int} (hA : Digs A) (hB : Digs B) (hT : ExT T ex) : ∀ c ∈ nbO p b A B T, c < 128 := by
  have hlead : ∀ c ∈ leadS p b, c < 128 := by unfold leadS; intro c hc; (repeat' split at hc) <;> simp at hc <;> omega
  have htail : ∀ c ∈ tailS p b, c < 128 := by unfold tailS; intro c hc; (repeat' split at hc) <;> simp at hc <;> omega
  have hn : ∀ c ∈ nbT p b A B T, c < 128 := by
    intro c hc
    unfold nbT at hc
    simp only [List.mem_append] at hc
    rcases hc with (((((hc | hc) | hc) | hc) | hc) | hc) | hc
    · have := List.eq_of_mem_replicate hc; rw [this]; split <;> decide
    · unfold nbLd at hc
      rcases List.mem_append.mp hc with h | h
      · exact hlead c h
      · split at h <;> simp at h; omega
    · unfold nbA at hc
      split at hc
      · cases hc
      · exact nbG_lt hA c hc
    · split at hc <;> simp at hc; omega
    · have := hB c hc; omega
    · exact ext_lt hT c hc
    · exact htail c hc
  intro c hc
  unfold nbO at hc
  split at hc
  · rcases List.mem_append.mp hc with h | h
    · simp at h; omega
    · exact hn c h
  · exact hn c hc

-- piece 43
-- needs: 42
-- pure
/-- the text T is read to its end as a at 10 ^ b -/
def RdF (T : List Nat) (a b : Int) : Prop :=
  (∀ c ∈ T, c < 128) ∧ 0 < (T.filter keepB).length ∧ (rotL (T.filter keepB)).length ≤ 100 ∧ (∀ c, (rotL (T.filter keepB))[0]? = some c → c ≠ 32 ∧ c ≠ 9) ∧
    ∃ c e, DT (rotL (T.filter keepB)) c e (rotL (T.filter keepB)).length ∧ mad c e 9 = (a, b)
theorem rotL_sub {l : List Nat} : ∀ c ∈ rotL l, c ∈ l := by
  intro c hc
  unfold rotL at hc
  split at hc
  · rcases List.mem_append.mp hc with h | h
    · exact List.mem_of_mem_drop h
    · exact List.mem_of_mem_take h
  · exact hc
theorem rotL_len {l : List Nat} : (rotL l).length = l.length := by
  unfold rotL
  split
  · rw [List.length_append, List.length_drop, List.length_take]; omega
  · rfl
theorem digs_last {D : List Nat} (h : Digs D) (hne : D ≠ []) : ∃ l x, D = l ++ [x] ∧ x ≠ 43 ∧ x ≠ 45 := by
  refine ⟨D.dropLast, D.getLast hne, (List.dropLast_concat_getLast hne).symm, ?_⟩
  have := h _ (List.getLast_mem hne)
  omega
theorem last_app {D E : List Nat} (h : ∃ l x, E = l ++ [x] ∧ x ≠ 43 ∧ x ≠ 45) : ∃ l x, D ++ E = l ++ [x] ∧ x ≠ 43 ∧ x ≠ 45 := by
  obtain ⟨l, x, rfl, hx⟩ := h
  exact ⟨D ++ l, x, by rw [List.append_assoc], hx⟩
theorem ext_last {X : List Nat} {ex : Int} (h : ExT X ex) (hne : X ≠ []) : ∃ l x, X = l ++ [x] ∧ x ≠ 43 ∧ x ≠ 45 := by
  rcases h with ⟨rfl, _⟩ | ⟨s, D, rfl, _, hD0, hD, _⟩
  · exact absurd rfl hne
  · exact last_app (D := [69, s]) (digs_last hD hD0)
theorem rd_gen {p : Pic} {b : Bool} {A B T : List Nat} {ex : Int} (hA : Digs A) (hB : Digs B) (hT : ExT T ex) (hs : SignOk p) (hA0 : A ≠ []) (hpt : p.point = true ∨ B = []) (hl : A.length + B.length ≤ 17) (hTl : T.length ≤ 60)
    (e0 : -60 ≤ ex - B.length) (e1 : ex - B.length ≤ 20) :
    RdF (nbO p b A B T) (mad (if b = true then 0 - foldF (A ++ B) 0 else foldF (A ++ B) 0) (ex - B.length) 9).1 (mad (if b = true then 0 - foldF (A ++ B) 0 else foldF (A ++ B) 0) (ex - B.length) 9).2 := by
  have hk := keep_nbO (p := p) (b := b) hA hB hT hs
  have hA2 : Digs (aheadF p b A B) := by unfold aheadF; split; exact Digs.nil; exact hA
  have hA2l : (aheadF p b A B).length ≤ A.length := by unfold aheadF; split <;> simp
  have hv : foldF (aheadF p b A B ++ B) 0 = foldF (A ++ B) 0 := by
    unfold aheadF; split
    · rename_i h
      have hA1 : A = [48] := by rw [← keep_nbG (p := p) hA, h.2.1]; decide
      rw [hA1]; rfl
    · rfl
  have hne : 0 < (aheadF p b A B).length + B.length := by
    unfold aheadF; split
    · rename_i h
      have := List.length_pos_iff.mpr h.2.2
      omega
    · have := List.length_pos_iff.mpr hA0
      omega
  have hAl : 0 < A.length := List.length_pos_iff.mpr hA0
  have hsg := sgn_cases hs b
  have hM : ∃ l x, aheadF p b A B ++ ((if p.point = true then [46] else []) ++ (B ++ T)) = l ++ [x] ∧ x ≠ 43 ∧ x ≠ 45 := by
    by_cases hT0 : T = []
    · subst hT0
      rw [List.append_nil]
      by_cases hB0 : B = []
      · subst hB0
        rw [List.append_nil]
        have hA2' : aheadF p b A [] ≠ [] := List.length_pos_iff.mp (by simpa using hne)
        by_cases hp : p.point = true
        · rw [if_pos hp]; exact ⟨_, 46, rfl, by decide⟩
        · rw [if_neg hp, List.append_nil]; exact digs_last hA2 hA2'
      · exact last_app (last_app (digs_last hB hB0))
    · exact last_app (last_app (last_app (ext_last hT hT0)))
  obtain ⟨l, x, hM, hx⟩ := hM
  have hrot : rotL ((nbO p b A B T).filter keepB) = sgnS p b ++ (aheadF p b A B ++ ((if p.point = true then [46] else []) ++ (B ++ T))) := by
    rw [hk, rot_kept hs hM hx]
  have hlen : (rotL ((nbO p b A B T).filter keepB)).length ≤ 100 := by
    rw [hrot]
    have h1 : (sgnS p b).length ≤ 1 := by rcases hsg.2.2.1 with h | h | h <;> (rw [h]; decide)
    have h2 : (if p.point = true then [46] else [] : List Nat).length ≤ 1 := by split <;> decide
    simp only [List.length_append]
    omega
  have hneg : (if b = true then 0 - foldF (A ++ B) 0 else foldF (A ++ B) 0) = if sgnS p b = [45] then 0 - foldF (aheadF p b A B ++ B) 0 else foldF (aheadF p b A B ++ B) 0 := by
    rw [hv]
    by_cases h : b = true
    · rw [if_pos h, if_pos (hsg.2.2.2.mpr h)]
    · rw [if_neg h, if_neg fun q => h (hsg.2.2.2.mp q)]
  refine ⟨nbO_lt hA hB hT, ?_, hlen, fun c hc => ?_, _, _, ?_, rfl⟩
  · rw [← rotL_len, hrot]
    simp only [List.length_append]
    by_cases hp : p.point = true
    · rw [if_pos hp]; simp only [List.length_cons]; omega
    · omega
  · have := (List.mem_filter.mp (rotL_sub c (List.mem_of_getElem? hc))).2
    constructor
    · rintro rfl; exact absurd this (by decide)
    · rintro rfl; exact absurd this (by decide)
  · rw [hneg, hrot]
    rcases hpt with hp | hp
    · rw [if_pos hp]
      exact dt_pt hsg.2.2.1 hA2 hB hT hne (by rw [List.length_append]; omega) e0 e1
    · subst hp
      by_cases hp : p.point = true
      · rw [if_pos hp]
        exact dt_pt hsg.2.2.1 hA2 hB hT hne (by rw [List.length_append]; omega) e0 e1
      · rw [if_neg hp, List.nil_append, List.nil_append, List.append_nil]
        have h0 : ex - (([] : List Nat).length : Int) = ex := by simp
        rw [h0] at e0 e1 ⊢
        have hne' : 0 < (aheadF p b A []).length := by simpa using hne
        exact dt_np hsg.2.2.1 hA2 hT hne' (by simp only [List.length_nil] at hl; omega) e0 e1

-- piece 44
-- needs: 43
-- pure
theorem stripZ_mul {s e : Int} (h : 0 < s) : ∀ k : Nat, stripZ (s * 10 ^ k) e = stripZ s (e + k) := by
  intro k
  induction k generalizing e with
  | zero => simp
  | succ k ih =>
    have hp := pow10_pos k
    have h1 : 0 < s * 10 ^ k := Int.mul_pos h (by omega)
    have e1 : s * 10 ^ (k + 1) = (s * 10 ^ k) * 10 := by rw [Int.pow_succ, Int.mul_assoc]
    rw [e1, stripZ_go (by omega) (by omega), Int.mul_ediv_cancel _ (by decide), ih]
    congr 1
    omega
theorem stripZ_id {s e : Int} (h : s % 10 ≠ 0) : stripZ s e = (s, e) := stripZ_end h
/-- what stripZ gives -/
theorem stripZ_spec {s e : Int} (h : 0 < s) : ∃ k : Nat, s = (stripZ s e).1 * 10 ^ k ∧ (stripZ s e).2 = e + k ∧ (stripZ s e).1 % 10 ≠ 0 ∧ 0 < (stripZ s e).1 := by
  by_cases hm : s % 10 = 0
  · rw [stripZ_go h hm]
    obtain ⟨k, h1, h2, h3, h4⟩ := stripZ_spec (s := s / 10) (e := e + 1) (by omega)
    refine ⟨k + 1, ?_, by omega, h3, h4⟩
    rw [Int.pow_succ, ← Int.mul_assoc, ← h1]; omega
  · rw [stripZ_end hm]
    exact ⟨0, by simp, by simp, hm, h⟩
termination_by s.toNat
decreasing_by omega
theorem figs_mul {s : Int} (h : 0 < s) : ∀ k : Nat, figs (s * 10 ^ k) = figs s + k := by
  intro k
  induction k with
  | zero => simp
  | succ k ih =>
    have hp := pow10_pos k
    have h1 : 0 < s * 10 ^ k := Int.mul_pos h (by omega)
    have e1 : s * 10 ^ (k + 1) = (s * 10 ^ k) * 10 := by rw [Int.pow_succ, Int.mul_assoc]
    rw [e1, figs_ten (by omega) (by omega), Int.mul_ediv_cancel _ (by decide), ih]
    omega
/-- rounding takes off noughts -/
theorem rnd_mul {s : Int} (h : 0 < s) {j k : Nat} (hj : j ≤ k) (hj0 : 0 < j) : rnd (s * 10 ^ k) j = s * 10 ^ (k - j) := by
  have hf : ¬ figs (s * 10 ^ k) + 1 < (j : Int) := by rw [figs_mul h]; have := figs_pos s; omega
  rw [rnd_hlf (by omega) hf, Int.toNat_natCast]
  have hp := pow10_lt j
  have e1 : s * 10 ^ k = (s * 10 ^ (k - j)) * 10 ^ j := by rw [Int.mul_assoc, ← Int.pow_add, Nat.sub_add_cancel hj]
  unfold hlf
  rw [e1, Int.mul_emod_left, Int.mul_ediv_cancel _ (by omega)]
  rw [if_neg (by omega)]
/-- made, of a number with noughts at its end and at most d figures ahead of them -/
theorem mad_pos {s e d : Int} {k : Nat} (h : 0 < s) (hd : figs s ≤ d) (hd1 : 1 ≤ d) : mad (s * 10 ^ k) e d = stripZ s (e + k) ∧ mad (-(s * 10 ^ k)) e d = (-(stripZ s (e + k)).1, (stripZ s (e + k)).2) := by
  have hp := pow10_pos k
  have h1 : 0 < s * 10 ^ k := Int.mul_pos h (by omega)
  have hn1 : (((s * 10 ^ k).natAbs : Nat) : Int) = s * 10 ^ k := by omega
  have hn2 : (((-(s * 10 ^ k)).natAbs : Nat) : Int) = s * 10 ^ k := by omega
  unfold mad
  rw [hn1, hn2]
  by_cases hc : figs (s * 10 ^ k) - d > 0
  · rw [if_pos hc, if_pos hc]
    rw [figs_mul h] at hc ⊢
    obtain ⟨j, hj⟩ : ∃ j : Nat, figs s + k - d = j := ⟨(figs s + k - d).toNat, by omega⟩
    have hjk : j ≤ k := by omega
    rw [hj, rnd_mul h hjk (by omega)]
    have hp2 := pow10_pos (k - j)
    have h2 : 0 < s * 10 ^ (k - j) := Int.mul_pos h (by omega)
    have h3 : stripZ (s * 10 ^ (k - j)) (e + j) = stripZ s (e + k) := by rw [stripZ_mul h]; congr 1; omega
    rw [if_neg (by omega), if_neg (by omega), if_neg (by omega), if_pos (by omega), h3]
    exact ⟨rfl, rfl⟩
  · rw [if_neg hc, if_neg hc, if_neg (by omega), if_neg (by omega), if_neg (by omega), if_pos (by omega), stripZ_mul h]
    exact ⟨rfl, rfl⟩
/-- a number as made leaves it: nought, or no nought at its end -/
def Nrm (c e : Int) : Prop := (c = 0 ∧ e = 0) ∨ c % 10 ≠ 0

-- piece 45
-- needs: 44 09
-- pure
/-- a number as the law draws it -/
def ValOk (c e : Int) : Prop := (c.natAbs : Int) < 10 ^ 6 ∧ -5 ≤ e ∧ e ≤ 8 ∧ (c = 0 → e = 0) ∧ (c ≠ 0 → figs c.natAbs + e ≤ 8) ∧ (e = 0 ∨ c % 10 ≠ 0)
theorem sgn_abs {k m : Int} (h0 : 0 ≤ k) (h1 : k < 2) (hm : 0 ≤ m) : (((1 - 2 * k) * m).natAbs : Int) = m := by
  rcases (show k = 0 ∨ k = 1 by omega) with rfl | rfl <;> omega
theorem valOk_int {k m : Int} (h0 : 0 ≤ k) (h1 : k < 2) (hm : 0 ≤ m) (hm2 : m < 32768) : ValOk ((1 - 2 * k) * m) 0 := by
  have h := sgn_abs h0 h1 hm
  refine ⟨by rw [h]; omega, by decide, by decide, fun _ => rfl, fun _ => ?_, .inl rfl⟩
  rw [h]
  have := figs_le (n := m) (k := 8) (by decide) (by omega)
  omega
theorem strip_ok {s e : Int} (h : 0 < s) (hs : s < 10 ^ 6) (he : -5 ≤ e) (he2 : e ≤ 2) : 0 < (stripZ s e).1 ∧ (stripZ s e).1 < 10 ^ 6 ∧ -5 ≤ (stripZ s e).2 ∧ (stripZ s e).2 ≤ 8 ∧ figs (stripZ s e).1 + (stripZ s e).2 ≤ 8 ∧ (stripZ s e).1 % 10 ≠ 0 := by
  obtain ⟨k, h1, h2, h3, h4⟩ := stripZ_spec (e := e) h
  have hf := figs_le (n := s) (k := 6) (by decide) hs
  have hp := pow10_pos k
  have hle : (stripZ s e).1 ≤ s := by
    have : (stripZ s e).1 * 1 ≤ (stripZ s e).1 * 10 ^ k := Int.mul_le_mul_of_nonneg_left hp (by omega)
    omega
  have hfm := figs_mul h4 k
  rw [← h1] at hfm
  have hf1 := figs_pos (stripZ s e).1
  refine ⟨h4, by omega, by omega, by omega, by omega, h3⟩
theorem mad_num {c e d : Int} (hd : figs c.natAbs ≤ d) (h0 : c ≠ 0) : mad c e d = (if c < 0 then -(stripZ c.natAbs e).1 else (stripZ c.natAbs e).1, (stripZ c.natAbs e).2) := by
  unfold mad
  rw [if_neg (by omega), if_neg (by omega)]
theorem valOk_mad {c e : Int} (hc : (c.natAbs : Int) < 10 ^ 6) (he : -5 ≤ e) (he2 : e ≤ 2) : ValOk (mad c e 9).1 (mad c e 9).2 := by
  by_cases h0 : c = 0
  · subst h0
    rw [mad_zero (by decide)]
    exact ⟨by decide, by decide, by decide, fun _ => rfl, fun h => absurd rfl h, .inl rfl⟩
  · have hf := figs_le (n := c.natAbs) (k := 6) (by decide) hc
    rw [mad_num (by omega) h0]
    obtain ⟨h1, h2, h3, h4, h5, h6⟩ := strip_ok (s := c.natAbs) (e := e) (by omega) hc he he2
    by_cases hn : c < 0
    · simp only [if_pos hn]
      have ea : (((-(stripZ c.natAbs e).1).natAbs : Nat) : Int) = (stripZ c.natAbs e).1 := by omega
      exact ⟨by omega, h3, h4, fun h => by omega, fun _ => by rw [ea]; exact h5, .inr (by omega)⟩
    · simp only [if_neg hn]
      have ea : ((((stripZ c.natAbs e).1).natAbs : Nat) : Int) = (stripZ c.natAbs e).1 := by omega
      exact ⟨by omega, h3, h4, fun h => by omega, fun _ => by rw [ea]; exact h5, .inr h6⟩

-- piece 46
-- needs: 45
-- pure
/-- a plain picture -/
def PlP (p : Pic) : Prop := p.expo = false ∧ SignOk p ∧ 0 ≤ p.right ∧ p.right ≤ 4 ∧ (p.point = true ∨ p.right = 0)
theorem scl_fig {s e R : Int} (h : 0 < s) (hs : s < 10 ^ 6) (hse : figs s + e ≤ 8) (hR : 0 ≤ R) (hR4 : R ≤ 4) : 0 ≤ scl s e R ∧ figs (scl s e R) ≤ 12 := by
  unfold scl
  split
  · have hp := pow10_pos (e + R).toNat
    rw [figs_mul h]
    exact ⟨Int.mul_nonneg (by omega) (by omega), by omega⟩
  · have h1 := rnd_nonneg (n := s) (p := -e - R) (by omega)
    have h2 := rnd_lt (n := s) (p := -e - R) (k := 6) (by omega) hs
    exact ⟨h1, figs_le (k := 12) (by decide) (by have : (10 : Int) ^ 6 < 10 ^ 12 := by decide
                                                 omega)⟩
theorem scl_zero {e R : Int} : scl 0 e R = 0 := by
  unfold scl
  split
  · simp
  · unfold rnd
    split
    · rfl
    · split
      · rfl
      · have hp := pow10_pos (-e - R).toNat
        rw [Int.zero_emod, Int.zero_ediv, if_neg (by omega)]
theorem plain_txt {p : Pic} {c e : Int} (hp : PlP p) (hu : 0 ≤ scl c.natAbs e p.right) (hf : figs (scl c.natAbs e p.right) ≤ 12) :
    RdF (shw p c e) (mad (if decide (c < 0) = true then 0 - scl c.natAbs e p.right else scl c.natAbs e p.right) (0 - p.right) 9).1 (mad (if decide (c < 0) = true then 0 - scl c.natAbs e p.right else scl c.natAbs e p.right) (0 - p.right) 9).2 := by
  obtain ⟨h1, h2, h3, h4, h5⟩ := hp
  have hD : Digs (padL (scl c.natAbs e p.right) (p.right + 1) []) := padL_digs Digs.nil
  have hl := padL_length (n := scl c.natAbs e p.right) (k := p.right + 1) (f := []) hu
  have hv := padL_nil_val (k := p.right + 1) hu
  have hL1 : (padL (scl c.natAbs e p.right) (p.right + 1) []).length ≤ 12 ∧ p.right + 1 ≤ ((padL (scl c.natAbs e p.right) (p.right + 1) []).length : Int) := by
    rw [hl]; simp only [List.length_nil]
    have := figs_pos (scl c.natAbs e p.right)
    split <;> omega
  rw [show shw p c e = _ from if_neg (by rw [h1]; simp)]
  generalize padL (scl c.natAbs e p.right) (p.right + 1) [] = F at hD hl hv hL1 ⊢
  obtain ⟨hL1, hL2⟩ := hL1
  have hBl : (F.drop (F.length - p.right.toNat)).length = p.right.toNat := by rw [List.length_drop]; omega
  have hR : ((F.drop (F.length - p.right.toNat)).length : Int) = p.right := by rw [hBl]; omega
  have hAl : (F.take (F.length - p.right.toNat)).length = F.length - p.right.toNat := by rw [List.length_take]; omega
  have h := rd_gen (p := p) (b := decide (c < 0)) (A := F.take (F.length - p.right.toNat)) (B := F.drop (F.length - p.right.toNat)) (T := []) (ex := 0)
    (hD.of_sub fun d hd => List.mem_of_mem_take hd) (hD.of_sub fun d hd => List.mem_of_mem_drop hd) (.inl ⟨rfl, rfl⟩) h2 (List.length_pos_iff.mp (by omega))
    (h5.imp_right fun h => List.length_eq_zero_iff.mp (by omega)) (by omega) (by decide) (by omega) (by omega)
  rw [List.take_append_drop, hv, hR] at h
  exact h

-- piece 47
-- needs: 46
-- pure
/-- d_round, where it rounds nothing off -/
theorem drd_up {c e R : Int} (h : 0 ≤ e + R) : drd c e R = (c, e) := by unfold drd; rw [if_pos (by omega)]
theorem drd_down {c e R : Int} (h : e + R < 0) (h0 : c ≠ 0) (hz : rnd c.natAbs (-e - R) ≠ 0) : drd c e R = mad (if 0 < c then rnd c.natAbs (-e - R) else 0 - rnd c.natAbs (-e - R)) (0 - R) 9 := by
  unfold drd
  rw [show (0 - R - e) = -e - R by omega, if_neg (by omega), if_neg h0, if_neg hz, show e + (-e - R) = 0 - R by omega]
theorem drd_gone {c e R : Int} (h : e + R < 0) (h0 : c ≠ 0) (hz : rnd c.natAbs (-e - R) = 0) : drd c e R = (0, 0) := by
  unfold drd
  rw [show (0 - R - e) = -e - R by omega, if_neg (by omega), if_neg h0, if_pos hz]
/-- made, of t with noughts: read again at R places -/
theorem mad_again {u R : Int} (hu : 0 < u) (hf : figs u ≤ 12) (hx : ∃ (t : Int) (k : Nat), 0 < t ∧ figs t ≤ 9 ∧ u = t * 10 ^ k) :
    (mad u (0 - R) 9 = ((stripZ u (0 - R)).1, (stripZ u (0 - R)).2)) ∧ mad (0 - u) (0 - R) 9 = (-(stripZ u (0 - R)).1, (stripZ u (0 - R)).2) ∧ scl (stripZ u (0 - R)).1 (stripZ u (0 - R)).2 R = u ∧ 0 < (stripZ u (0 - R)).1 := by
  obtain ⟨t, k, ht, hft, rfl⟩ := hx
  have h := mad_pos (e := 0 - R) (d := 9) (k := k) ht hft (by decide)
  have hs := stripZ_mul (e := 0 - R) ht k
  obtain ⟨j, h1, h2, h3, h4⟩ := stripZ_spec (s := t * 10 ^ k) (e := 0 - R) hu
  refine ⟨by rw [h.1, hs], by rw [show 0 - t * 10 ^ k = -(t * 10 ^ k) by omega, h.2, hs], ?_, h4⟩
  unfold scl
  rw [h2, if_pos (by omega), show (0 - R + (j : Int) + R).toNat = j by omega]
  exact h1.symm
theorem plain_core {c0 e0 R : Int} (hv : ValOk c0 e0) (hR : 0 ≤ R) (hR4 : R ≤ 4) :
    mad (if decide (c0 < 0) = true then 0 - scl c0.natAbs e0 R else scl c0.natAbs e0 R) (0 - R) 9 = drd (mad c0 e0 9).1 (mad c0 e0 9).2 R ∧
    ((drd (mad c0 e0 9).1 (mad c0 e0 9).2 R).1 ≠ 0 → scl (drd (mad c0 e0 9).1 (mad c0 e0 9).2 R).1.natAbs (drd (mad c0 e0 9).1 (mad c0 e0 9).2 R).2 R = scl c0.natAbs e0 R ∧ ((drd (mad c0 e0 9).1 (mad c0 e0 9).2 R).1 < 0 ↔ c0 < 0)) := by
  obtain ⟨v1, v2, v3, v4, v5, v6⟩ := hv
  by_cases h0 : c0 = 0
  · subst h0
    rw [v4 rfl, mad_zero (by decide), if_neg (by decide), drd_up (by show 0 ≤ 0 + R; omega)]
    show mad (scl 0 0 R) (0 - R) 9 = (0, 0) ∧ _
    rw [scl_zero, mad_zero (by decide)]
    exact ⟨rfl, fun h => absurd rfl h⟩
  · have hs : 0 < (c0.natAbs : Int) := by omega
    have hf6 := figs_le (n := c0.natAbs) (k := 6) (by decide) v1
    have hfe := v5 h0
    rw [mad_num (by omega) h0]
    obtain ⟨k, h1, h2, h3, h4⟩ := stripZ_spec (s := c0.natAbs) (e := e0) hs
    have hfk := figs_mul h4 k
    rw [← h1] at hfk
    obtain ⟨hu0, huf⟩ := scl_fig (e := e0) (R := R) hs v1 hfe hR hR4
    generalize hs' : (stripZ c0.natAbs e0).1 = s' at h1 h3 h4 hfk
    generalize he' : (stripZ c0.natAbs e0).2 = e' at h2
    by_cases hup : 0 ≤ e' + R
    · rw [drd_up (by simpa using hup)]
      have hu : scl c0.natAbs e0 R = s' * 10 ^ (e' + R).toNat := by
        unfold scl
        by_cases he : 0 ≤ e0 + R
        · rw [if_pos he, h1, Int.mul_assoc, ← Int.pow_add]
          congr 2; omega
        · have hk : k = 0 := by
            rcases v6 with h | h
            · omega
            · rcases k with _ | k
              · rfl
              · exfalso
                rw [Int.pow_succ, ← Int.mul_assoc] at h1
                omega
          omega
      have hu1 : 0 < s' * 10 ^ (e' + R).toNat := Int.mul_pos h4 (by have := pow10_pos (e' + R).toNat; omega)
      have hm := mad_pos (e := 0 - R) (d := 9) (k := (e' + R).toNat) h4 (by omega) (by decide)
      have hst : stripZ s' (0 - R + ((e' + R).toNat : Int)) = (s', e') := by rw [stripZ_id h3]; congr 1; omega
      rw [hu]
      by_cases hn : c0 < 0
      · simp only [hn, decide_true, if_true]
        rw [show 0 - s' * 10 ^ (e' + R).toNat = -(s' * 10 ^ (e' + R).toNat) by omega, hm.2, hst]
        refine ⟨rfl, fun _ => ⟨?_, ⟨fun _ => trivial, fun _ => by show -s' < 0; omega⟩⟩⟩
        have : ((-s').natAbs : Int) = s' := by omega
        rw [this]; unfold scl; rw [if_pos hup]
      · simp only [hn, decide_false, Bool.false_eq_true, if_false]
        rw [hm.1, hst]
        refine ⟨rfl, fun _ => ⟨?_, ⟨fun h => absurd h (by show ¬ s' < 0; omega), fun h => h.elim⟩⟩⟩
        have : (s'.natAbs : Int) = s' := by omega
        rw [this]; unfold scl; rw [if_pos hup]
    · have hk : k = 0 := by
        rcases v6 with h | h
        · omega
        · rcases k with _ | k
          · rfl
          · exfalso
            rw [Int.pow_succ, ← Int.mul_assoc] at h1
            omega
      subst hk
      have h1' : (c0.natAbs : Int) = s' := by simpa using h1
      have he2 : e' = e0 := by omega
      rw [h1', ← he2]
      have hue : scl s' e' R = rnd s' (-e' - R) := by unfold scl; rw [if_neg hup]
      rw [h1', ← he2, hue] at hu0 huf
      rw [hue]
      have hna : ∀ b : Bool, (((if b = true then -s' else s').natAbs : Nat) : Int) = s' := by intro b; cases b <;> simp <;> omega
      by_cases hz : rnd s' (-e' - R) = 0
      · have hd : drd (if c0 < 0 then -s' else s') e' R = (0, 0) := drd_gone (by omega) (by split <;> omega) (by rw [show (((if c0 < 0 then -s' else s').natAbs : Nat) : Int) = s' by split <;> omega]; exact hz)
        rw [hd, hz]
        refine ⟨?_, fun h => absurd rfl h⟩
        rw [show (if decide (c0 < 0) = true then 0 - (0 : Int) else 0) = 0 by split <;> rfl, mad_zero (by decide)]
      · have hd : drd (if c0 < 0 then -s' else s') e' R = mad (if 0 < (if c0 < 0 then -s' else s') then rnd s' (-e' - R) else 0 - rnd s' (-e' - R)) (0 - R) 9 := by
          have hq : (((if c0 < 0 then -s' else s').natAbs : Nat) : Int) = s' := by split <;> omega
          have := drd_down (c := if c0 < 0 then -s' else s') (e := e') (R := R) (by omega) (by split <;> omega) (by rw [hq]; exact hz)
          rw [hq] at this
          exact this
        rw [hd]
        have hr6 := rnd_lt (n := s') (p := -e' - R) (k := 6) (by omega) (by omega)
        have h97 : (10 : Int) ^ 6 < 10 ^ 7 := by decide
        have hr7 : figs (rnd s' (-e' - R)) ≤ 7 := figs_le (k := 7) (by decide) (Int.lt_of_le_of_lt hr6 h97)
        have hag := mad_again (u := rnd s' (-e' - R)) (R := R) (by omega) (by omega) ⟨rnd s' (-e' - R), 0, by omega, by omega, by simp⟩
        by_cases hn : c0 < 0
        · simp only [hn, decide_true, if_true]
          rw [if_neg (by omega), hag.2.1]
          refine ⟨rfl, fun _ => ⟨?_, ⟨fun _ => trivial, fun _ => by have := hag.2.2.2; show -(stripZ _ _).1 < 0; omega⟩⟩⟩
          have : (((-(stripZ (rnd s' (-e' - R)) (0 - R)).1).natAbs : Nat) : Int) = (stripZ (rnd s' (-e' - R)) (0 - R)).1 := by have := hag.2.2.2; omega
          show scl (((-(stripZ (rnd s' (-e' - R)) (0 - R)).1).natAbs : Nat) : Int) _ R = _
          rw [this]; exact hag.2.2.1
        · simp only [hn, decide_false, Bool.false_eq_true, if_false]
          rw [if_pos h4, hag.1]
          refine ⟨rfl, fun _ => ⟨?_, ⟨fun h => absurd h (by have := hag.2.2.2; show ¬ (stripZ _ _).1 < 0; omega), fun h => h.elim⟩⟩⟩
          have : ((((stripZ (rnd s' (-e' - R)) (0 - R)).1).natAbs : Nat) : Int) = (stripZ (rnd s' (-e' - R)) (0 - R)).1 := by have := hag.2.2.2; omega
          show scl ((((stripZ (rnd s' (-e' - R)) (0 - R)).1).natAbs : Nat) : Int) _ R = _
          rw [this]; exact hag.2.2.1

-- piece 48
-- needs: 47
-- pure
theorem shw_same {p : Pic} {a b c e : Int} (h : p.expo = false) (hs : scl a.natAbs b p.right = scl c.natAbs e p.right) (hn : a < 0 ↔ c < 0) : shw p a b = shw p c e := by
  unfold shw
  rw [if_neg (by rw [h]; simp), if_neg (by rw [h]; simp), hs]
  congr 1
  exact decide_eq_decide.mpr hn
/-- a plain picture's text is read as the number rounded, and what was read shows the same text -/
theorem plain_law {p : Pic} {c0 e0 : Int} (hp : PlP p) (hv : ValOk c0 e0) :
    RdF (shw p c0 e0) (drd (mad c0 e0 9).1 (mad c0 e0 9).2 p.right).1 (drd (mad c0 e0 9).1 (mad c0 e0 9).2 p.right).2 ∧
    ((drd (mad c0 e0 9).1 (mad c0 e0 9).2 p.right).1 ≠ 0 → shw p (drd (mad c0 e0 9).1 (mad c0 e0 9).2 p.right).1 (drd (mad c0 e0 9).1 (mad c0 e0 9).2 p.right).2 = shw p c0 e0) := by
  have hR := hp.2.2.1
  have hR4 := hp.2.2.2.1
  have hc := plain_core hv hR hR4
  have hb : 0 ≤ scl c0.natAbs e0 p.right ∧ figs (scl c0.natAbs e0 p.right) ≤ 12 := by
    by_cases h0 : c0 = 0
    · subst h0
      rw [show (((0 : Int).natAbs : Nat) : Int) = 0 from rfl, scl_zero]
      exact ⟨by decide, by rw [figs_small (by decide)]; decide⟩
    · exact scl_fig (by omega) hv.1 (hv.2.2.2.2.1 h0) hR hR4
  have h := plain_txt (p := p) (c := c0) (e := e0) hp hb.1 hb.2
  rw [hc.1] at h
  refine ⟨h, fun ha => ?_⟩
  obtain ⟨h1, h2⟩ := hc.2 ha
  exact shw_same hp.1 h1 h2

-- piece 49
-- needs: 48
-- pure
/-- rounding that reaches ten times ten: one place more gives the same number -/
theorem rnd_carry {s : Int} {m k : Nat} (h0 : 0 ≤ s) (hm : 1 ≤ m) (hk : 1 ≤ k) (hs : s < 10 ^ (m + k)) (hf : figs s = (m + k : Nat)) (h : 10 ^ m ≤ rnd s k) : rnd s k = 10 ^ m ∧ rnd s ((k : Int) + 1) = 10 ^ (m - 1) := by
  obtain ⟨n, rfl⟩ : ∃ n, m = n + 1 := ⟨m - 1, by omega⟩
  have hP := pow10_lt k
  have hN := pow10_pos n
  have e1 : (10 : Int) ^ (n + 1 + k) = 10 ^ n * 10 ^ k * 10 := by rw [Int.pow_add, Int.pow_succ, Int.mul_assoc, Int.mul_comm 10, ← Int.mul_assoc]
  have e2 : (10 : Int) ^ (n + 1) = 10 ^ n * 10 := Int.pow_succ _ _
  have e3 : (10 : Int) ^ (k + 1) = 10 ^ k * 10 := Int.pow_succ _ _
  have hb1 := div_mul_bounds (n := s) k
  have hb2 := div_mul_bounds (n := s) (k + 1)
  have g1 : s / 10 ^ k < 10 ^ n * 10 := Int.ediv_lt_of_lt_mul hP (by rw [Int.mul_assoc, Int.mul_comm 10, ← Int.mul_assoc, ← e1]; exact hs)
  have hr1 : rnd s k = hlf s k := by
    rw [rnd_hlf (by omega) (by omega), Int.toNat_natCast]
  have hr2 : rnd s ((k : Int) + 1) = hlf s (k + 1) := by
    rw [rnd_hlf (by omega) (by omega), show ((k : Int) + 1).toNat = k + 1 by omega]
  rw [hr1, e2] at h
  have hq : s / 10 ^ k = 10 ^ n * 10 - 1 ∧ (10 ^ k < 2 * (s % 10 ^ k) ∨ (2 * (s % 10 ^ k) = 10 ^ k ∧ s / 10 ^ k % 2 = 1)) := by
    unfold hlf at h
    split at h
    · rename_i hc; exact ⟨by omega, hc⟩
    · omega
  have hdm := Int.mul_ediv_add_emod s (10 ^ k)
  have hmod1 := Int.emod_lt_of_pos s hP
  have hq2 : s / 10 ^ (k + 1) = 10 ^ n - 1 := by
    rw [e3, ← Int.ediv_ediv_of_nonneg (by omega), hq.1]
    omega
  have hdm2 := Int.mul_ediv_add_emod s (10 ^ (k + 1))
  rw [hq2] at hdm2
  rw [hq.1] at hdm
  have hx1 : (10 : Int) ^ k * (10 ^ n * 10 - 1) = 10 ^ n * 10 ^ k * 10 - 10 ^ k := by
    rw [Int.mul_sub, Int.mul_one, ← Int.mul_assoc, Int.mul_comm (10 ^ k) (10 ^ n)]
  have hx2 : (10 : Int) ^ (k + 1) * (10 ^ n - 1) = 10 ^ n * 10 ^ k * 10 - 10 ^ k * 10 := by
    rw [e3, Int.mul_sub, Int.mul_one, Int.mul_comm (10 ^ k * 10) (10 ^ n), ← Int.mul_assoc]
  rw [hx1] at hdm
  rw [hx2] at hdm2
  constructor
  · rw [hr1, e2]; unfold hlf; rw [if_pos hq.2]; omega
  · rw [hr2, show n + 1 - 1 = n by omega]; unfold hlf; rw [e3] at hdm2 ⊢; rw [if_pos (.inl (by omega)), ← e3, hq2]; omega
theorem scl_down {s e R : Int} (h : e + R < 0) : scl s e R = rnd s (-e - R) := by unfold scl; rw [if_neg (by omega)]
theorem scl_up {s e R : Int} (h : 0 ≤ e + R) : scl s e R = s * 10 ^ (e + R).toNat := by unfold scl; rw [if_pos h]
theorem pow_figs_le {n : Int} (h : 0 < n) : 10 ^ (figs n - 1).toNat ≤ n := by
  have hf := figs_pos n
  by_cases hq : n < 10 ^ (figs n - 1).toNat
  · by_cases h1 : figs n = 1
    · rw [h1] at hq; simp at hq; omega
    · have := figs_le (n := n) (k := (figs n - 1).toNat) (by omega) hq
      omega
  · omega
/-- the units and the lift of a picture with an exponent -/
theorem expo_core {s e pl r : Int} {many : Nat} (hs0 : 0 < s) (hs : s < 10 ^ 6) (hpl : 1 ≤ pl) (hpl4 : pl ≤ 4) (hr : 0 ≤ r) (hr3 : r ≤ 3) (hm : pl + r = many) :
    10 ^ (many - 1) ≤ wxU pl r s e ∧ wxU pl r s e < 10 ^ many ∧
    stripZ (wxU pl r s e) (wxL pl r s e - r) = (if figs s - many > 0 then stripZ (rnd s (figs s - many)) (e + (figs s - many)) else stripZ s e) ∧
    (wxL pl r s e = e + figs s - pl ∨ wxL pl r s e = e + figs s - pl + 1) := by
  have hf1 := figs_pos s
  have hf6 := figs_le (n := s) (k := 6) (by decide) hs
  have hlt := lt_pow_figs (n := s)
  have hmt : (pl + r).toNat = many := by omega
  unfold wxU wxL
  rw [hmt, show e - (e + figs s - pl) = pl - figs s by omega, show e - (e + figs s - pl + 1) = pl - figs s - 1 by omega]
  by_cases hc : figs s - many > 0
  · rw [if_pos hc]
    obtain ⟨k, hk⟩ : ∃ k : Nat, figs s - many = k := ⟨(figs s - many).toNat, by omega⟩
    have hk1 : 1 ≤ k := by omega
    have hm1 : 1 ≤ many := by omega
    rw [scl_down (e := pl - figs s) (R := r) (by omega), scl_down (e := pl - figs s - 1) (R := r) (by omega), show -(pl - figs s) - r = (k : Int) by omega, show -(pl - figs s - 1) - r = (k : Int) + 1 by omega, hk]
    by_cases hb : 10 ^ many ≤ rnd s k
    · have hcar := rnd_carry (s := s) (m := many) (k := k) (by omega) hm1 hk1 (by rw [show many + k = (figs s).toNat by omega]; exact hlt) (by omega) hb
      rw [if_pos hb, if_pos hb, hcar.1, hcar.2]
      have hp := pow10_pos (many - 1)
      have e1 : (10 : Int) ^ many = 10 ^ (many - 1) * 10 := by rw [← Int.pow_succ]; congr 1; omega
      have h1 := stripZ_mul (s := 1) (e := e + figs s - pl + 1 - r) (by decide) (many - 1)
      have h2 := stripZ_mul (s := 1) (e := e + (k : Int)) (by decide) many
      rw [Int.one_mul] at h1 h2
      refine ⟨by omega, by omega, ?_, .inr rfl⟩
      rw [h1, h2]
      congr 1
      omega
    · rw [if_neg hb, if_neg hb]
      have hpos : 10 ^ (many - 1) ≤ rnd s k := by
        have hlow := pow_figs_le (n := s) hs0
        have hge : 10 ^ (many - 1) ≤ s / 10 ^ k := (Int.le_ediv_iff_mul_le (pow10_lt k)).mpr (by rw [← Int.pow_add, show many - 1 + k = (figs s - 1).toNat by omega]; exact hlow)
        rw [rnd_hlf (by omega) (by omega), Int.toNat_natCast]
        unfold hlf; split <;> omega
      refine ⟨hpos, by omega, ?_, .inl rfl⟩
      congr 1
      omega
  · rw [if_neg hc]
    obtain ⟨k, hk⟩ : ∃ k : Nat, (many : Int) - figs s = k := ⟨(many - figs s).toNat, by omega⟩
    rw [scl_up (e := pl - figs s) (R := r) (by omega), show (pl - figs s + r).toNat = k by omega]
    have hp := pow10_pos k
    have hlt2 : s * 10 ^ k < 10 ^ many := by
      have e1 : (10 : Int) ^ many = 10 ^ (figs s).toNat * 10 ^ k := by rw [← Int.pow_add]; congr 1; omega
      rw [e1]
      exact Int.mul_lt_mul_of_pos_right hlt (by omega)
    rw [if_neg (by omega), if_neg (by omega)]
    have hlow2 : 10 ^ (many - 1) ≤ s * 10 ^ k := by
      have hlow := pow_figs_le (n := s) hs0
      have e1 : (10 : Int) ^ (many - 1) = 10 ^ (figs s - 1).toNat * 10 ^ k := by rw [← Int.pow_add]; congr 1; omega
      rw [e1]
      exact Int.mul_le_mul_of_nonneg_right hlow (by omega)
    refine ⟨hlow2, hlt2, ?_, .inl rfl⟩
    rw [stripZ_mul hs0]
    congr 1
    omega

-- piece 491
-- needs: 49
-- pure
theorem rnd_scale {s : Int} {j k : Nat} (h : 0 < s) (hj : 0 < j) : rnd (s * 10 ^ k) ((j + k : Nat) : Int) = rnd s j := by
  have hP := pow10_lt k
  have hJ := pow10_lt j
  have a1 : ¬ ((j + k : Nat) : Int) ≤ 0 := by omega
  have a2 : ¬ (j : Int) ≤ 0 := by omega
  unfold rnd
  rw [figs_mul h, if_neg a1, if_neg a2]
  by_cases hf : figs s + 1 < (j : Int)
  · rw [if_pos (show figs s + (k : Int) + 1 < ((j + k : Nat) : Int) by omega), if_pos hf]
  · rw [if_neg (show ¬ figs s + (k : Int) + 1 < ((j + k : Nat) : Int) by omega), if_neg hf, Int.toNat_natCast, Int.toNat_natCast]
    have e1 : (10 : Int) ^ (j + k) = 10 ^ k * 10 ^ j := by rw [Int.pow_add, Int.mul_comm]
    have e2 : s * 10 ^ k = 10 ^ k * s := Int.mul_comm _ _
    rw [e1, e2, Int.mul_ediv_mul_of_pos _ _ hP, Int.mul_emod_mul_of_pos _ _ hP]
    generalize (10 : Int) ^ k = P at hP
    generalize (10 : Int) ^ j = J at hJ
    have x1 : P * J < 2 * (P * (s % J)) ↔ J < 2 * (s % J) := by
      rw [show 2 * (P * (s % J)) = P * (2 * (s % J)) by rw [← Int.mul_assoc, Int.mul_comm 2 P, Int.mul_assoc]]
      exact Int.mul_lt_mul_left hP
    have x2 : 2 * (P * (s % J)) = P * J ↔ 2 * (s % J) = J := by
      rw [show 2 * (P * (s % J)) = P * (2 * (s % J)) by rw [← Int.mul_assoc, Int.mul_comm 2 P, Int.mul_assoc]]
      exact Int.mul_eq_mul_left_iff (by omega)
    simp only [x1, x2]

-- piece 492
-- needs: 491
-- pure
theorem stripZ_zero (e : Int) : stripZ 0 e = (0, e) := by rw [stripZ, dif_neg (by omega)]
theorem stripZ_sc {s e : Int} (h : 0 < s) (k : Nat) : stripZ (s * 10 ^ k) (e - k) = stripZ s e := by rw [stripZ_mul h]; congr 1; omega
/-- made again at fewer figures: as made at once -/
theorem mad_mad {c e d : Int} (hc : figs c.natAbs ≤ 9) (hd : 1 ≤ d) (hd9 : d ≤ 9) : mad (mad c e 9).1 (mad c e 9).2 d = mad c e d := by
  by_cases h0 : c = 0
  · subst h0
    rw [mad_zero (e := e) (d := 9) (by decide)]
    show mad 0 0 d = _
    rw [mad_zero hd, mad_zero hd]
  · rw [mad_num hc h0]
    obtain ⟨k, h1, h2, h3, h4⟩ := stripZ_spec (s := c.natAbs) (e := e) (by omega)
    generalize hs' : (stripZ c.natAbs e).1 = s' at h1 h3 h4
    generalize he' : (stripZ c.natAbs e).2 = e' at h2
    have hst : stripZ c.natAbs e = (s', e') := by rw [← hs', ← he']
    have hq : (((if c < 0 then -s' else s').natAbs : Nat) : Int) = s' := by split <;> omega
    have hneg : (if c < 0 then -s' else s') < 0 ↔ c < 0 := by
      split
      · rename_i h; exact ⟨fun _ => h, fun _ => by omega⟩
      · rename_i h; exact ⟨fun h' => by omega, fun h' => absurd h' h⟩
    have hfm := figs_mul h4 k
    unfold mad
    simp only [hq, hneg, h1, hfm]
    by_cases hA : figs s' - d > 0
    · rw [if_pos hA, if_pos (show figs s' + (k : Int) - d > 0 by omega)]
      obtain ⟨j, hj⟩ : ∃ j : Nat, figs s' - d = j := ⟨(figs s' - d).toNat, by omega⟩
      have hj2 : figs s' + (k : Int) - d = ((j + k : Nat) : Int) := by omega
      rw [hj, hj2, rnd_scale h4 (by omega), h2]
      rw [show e + (k : Int) + (j : Int) = e + ((j + k : Nat) : Int) by omega]
    · rw [if_neg hA, if_neg (show ¬ s' = 0 by omega), stripZ_id h3]
      by_cases hB : figs s' + (k : Int) - d > 0
      · rw [if_pos hB]
        obtain ⟨j, hj⟩ : ∃ j : Nat, figs s' + (k : Int) - d = j := ⟨(figs s' + (k : Int) - d).toNat, by omega⟩
        have hp := pow10_pos (k - j)
        have hpos : 0 < s' * 10 ^ (k - j) := Int.mul_pos h4 (by omega)
        rw [hj, rnd_mul h4 (by omega) (by omega), if_neg (show ¬ s' * 10 ^ (k - j) = 0 by omega), stripZ_mul h4, stripZ_id h3]
        rw [h2, show e + (j : Int) + ((k - j : Nat) : Int) = e + (k : Int) by omega]
      · have hp := pow10_pos k
        have hpos : 0 < s' * 10 ^ k := Int.mul_pos h4 (by omega)
        rw [if_neg hB, if_neg (show ¬ s' * 10 ^ k = 0 by omega), stripZ_mul h4, stripZ_id h3, h2]
/-- a picture with an exponent, as the law draws it -/
def ExP (p : Pic) : Prop := ExpoPic p ∧ p.expo = true ∧ 2 ≤ p.left ∧ p.left ≤ 5 ∧ 0 ≤ p.right ∧ p.right ≤ 3 ∧ (p.point = true ∨ p.right = 0)
theorem digs_rep (n : Nat) : Digs (List.replicate n 48) := fun d hd => by rw [List.eq_of_mem_replicate hd]; decide
theorem foldF_rep (n : Nat) : foldF (List.replicate n 48) 0 = 0 := by
  induction n with
  | zero => rfl
  | succ n ih => exact ih
theorem ext_lift {L : Int} (h : -50 ≤ L) (h2 : L ≤ 50) : ExT ([69] ++ (if L < 0 then [45] else [43]) ++ padL L.natAbs 2 []) L := by
  refine .inr ⟨if L < 0 then 45 else 43, padL L.natAbs 2 [], ?_, ?_, ?_, padL_digs Digs.nil, ?_, ?_⟩
  · split <;> rfl
  · split
    · exact .inr rfl
    · exact .inl rfl
  · intro h0
    have := padL_length (n := L.natAbs) (k := 2) (f := []) (by omega)
    rw [h0] at this
    simp only [List.length_nil] at this
    omega
  · rw [padL_nil_val (by omega)]; omega
  · rw [padL_nil_val (by omega)]
    by_cases hn : L < 0
    · rw [if_pos hn, if_pos rfl]; omega
    · rw [if_neg hn, if_neg (by decide)]; omega
theorem padL2_len {L : Int} (h : -50 ≤ L) (h2 : L ≤ 50) : (padL L.natAbs 2 []).length ≤ 2 := by
  rw [padL_length (by omega)]
  have := figs_le (n := L.natAbs) (k := 2) (by decide) (by omega)
  simp only [List.length_nil]
  split <;> omega
theorem expP_shw {p : Pic} (hp : ExP p) (c e : Int) : shw p c e = nbO p (decide (c < 0)) (wx1 (p.left - 1) p.right c.natAbs e) (wx2 (p.left - 1) p.right c.natAbs e) (wx3 (p.left - 1) p.right c.natAbs e) := by
  obtain ⟨h1, h2, h3, h4, h5, h6, h7⟩ := hp
  rw [show shw p c e = _ from if_pos h2, show max (p.left - 1) 0 = p.left - 1 by omega]
/-- the numbers of a picture with an exponent that was read again -/
theorem expo_again {t b pl r : Int} {U L : Int} {many : Nat} (hpl : 1 ≤ pl) (hr : 0 ≤ r) (hm : pl + r = many) (hU1 : 10 ^ (many - 1) ≤ U) (hU2 : U < 10 ^ many) (ht : stripZ U (L - r) = (t, b)) :
    wxU pl r t b = U ∧ wxL pl r t b = L := by
  have hp1 := pow10_pos (many - 1)
  obtain ⟨j, h1, h2, h3, h4⟩ := stripZ_spec (s := U) (e := L - r) (by omega)
  rw [ht] at h1 h2 h3 h4
  simp only at h1 h2 h3 h4
  have hfU : figs U = many := by
    have := figs_of (n := U) (k := many - 1) hU1 (by rw [show many - 1 + 1 = many by omega]; exact hU2)
    omega
  have hfm := figs_mul h4 j
  rw [← h1, hfU] at hfm
  have hmt : (pl + r).toNat = many := by omega
  have hsc : scl t (pl - figs t) r = U := by
    rw [scl_up (by omega), show (pl - figs t + r).toNat = j by omega, ← h1]
  unfold wxU wxL
  rw [hmt, show b - (b + figs t - pl) = pl - figs t by omega, hsc, if_neg (by omega), if_neg (by omega)]
  exact ⟨rfl, by omega⟩
theorem expo_law {p : Pic} {c0 e0 : Int} (hp : ExP p) (hv : ValOk c0 e0) :
    RdF (shw p c0 e0) (mad (mad c0 e0 9).1 (mad c0 e0 9).2 (p.left - 1 + p.right)).1 (mad (mad c0 e0 9).1 (mad c0 e0 9).2 (p.left - 1 + p.right)).2 ∧
    ((mad (mad c0 e0 9).1 (mad c0 e0 9).2 (p.left - 1 + p.right)).1 ≠ 0 →
      shw p (mad (mad c0 e0 9).1 (mad c0 e0 9).2 (p.left - 1 + p.right)).1 (mad (mad c0 e0 9).1 (mad c0 e0 9).2 (p.left - 1 + p.right)).2 = shw p c0 e0) := by
  obtain ⟨v1, v2, v3, v4, v5, v6⟩ := hv
  have hP := hp
  obtain ⟨h1, h2, h3, h4, h5, h6, h7⟩ := hp
  have hf6 := figs_le (n := c0.natAbs) (k := 6) (by decide) v1
  obtain ⟨many, hm⟩ : ∃ n : Nat, p.left - 1 + p.right = n := ⟨(p.left - 1 + p.right).toNat, by omega⟩
  rw [mad_mad (by omega) (by omega) (by omega), hm]
  have hsg : SignOk p := by left; rw [h1]
  by_cases h0 : c0 = 0
  · subst h0
    rw [v4 rfl, mad_zero (by omega)]
    refine ⟨?_, fun h => absurd rfl h⟩
    rw [expP_shw hP]
    have hA : wx1 (p.left - 1) p.right ((0 : Int).natAbs : Nat) 0 = List.replicate (p.left - 1).toNat 48 := if_pos rfl
    have hB : wx2 (p.left - 1) p.right ((0 : Int).natAbs : Nat) 0 = List.replicate p.right.toNat 48 := if_pos rfl
    have hT : wx3 (p.left - 1) p.right ((0 : Int).natAbs : Nat) 0 = [69, 43, 48, 48] := if_pos rfl
    rw [hA, hB, hT]
    have hl : ((List.replicate p.right.toNat 48).length : Int) = p.right := by rw [List.length_replicate]; omega
    have h := rd_gen (p := p) (b := decide ((0 : Int) < 0)) (A := List.replicate (p.left - 1).toNat 48) (B := List.replicate p.right.toNat 48) (T := [69, 43, 48, 48]) (ex := 0) (digs_rep _) (digs_rep _)
      (.inr ⟨43, [48, 48], rfl, .inl rfl, by simp, by intro d hd; simp at hd; omega, by decide, by decide⟩) hsg (by intro h; have := congrArg List.length h; rw [List.length_replicate] at this; simp only [List.length_nil] at this; omega)
      (h7.imp_right fun h => by rw [h]; rfl) (by simp only [List.length_replicate]; omega) (by decide) (by omega) (by omega)
    rw [← List.replicate_append_replicate.symm, foldF_rep] at h
    rw [show (if decide ((0 : Int) < 0) = true then 0 - (0 : Int) else 0) = 0 by split <;> rfl, mad_zero (by decide)] at h
    exact h
  · have hs : 0 < (c0.natAbs : Int) := by omega
    have hcore := expo_core (s := c0.natAbs) (e := e0) (pl := p.left - 1) (r := p.right) (many := many) hs v1 (by omega) (by omega) h5 h6 hm
    obtain ⟨g1, g2, g3, g4⟩ := hcore
    have hf1 := figs_pos c0.natAbs
    have hfe := v5 h0
    have hp1 := pow10_pos (many - 1)
    generalize hU : wxU (p.left - 1) p.right c0.natAbs e0 = U at g1 g2 g3
    generalize hL : wxL (p.left - 1) p.right c0.natAbs e0 = L at g3 g4
    have hL1 : -50 ≤ L ∧ L ≤ 50 := by rcases g4 with g4 | g4 <;> omega
    have hne : ¬ (c0.natAbs : Int) = 0 := by omega
    have hA : wx1 (p.left - 1) p.right c0.natAbs e0 = (padL U many []).take (p.left - 1).toNat := by unfold wx1; rw [if_neg hne, hU, hm]
    have hB : wx2 (p.left - 1) p.right c0.natAbs e0 = (padL U many []).drop (p.left - 1).toNat := by unfold wx2; rw [if_neg hne, hU, hm]
    have hT : wx3 (p.left - 1) p.right c0.natAbs e0 = [69] ++ (if L < 0 then [45] else [43]) ++ padL L.natAbs 2 [] := by unfold wx3; rw [if_neg hne, hL]
    have hfU : figs U = many := by
      have := figs_of (n := U) (k := many - 1) g1 (by rw [show many - 1 + 1 = many by omega]; exact g2)
      omega
    have hFl : (padL U many []).length = many := by
      rw [padL_length (by omega), hfU, if_neg (by omega)]; simp only [List.length_nil]; omega
    have hD : Digs (padL U many []) := padL_digs Digs.nil
    have hval := padL_nil_val (n := U) (k := many) (by omega)
    generalize padL U many [] = F at hA hB hFl hD hval
    have hBl : (F.drop (p.left - 1).toNat).length = p.right.toNat := by rw [List.length_drop]; omega
    have hR : ((F.drop (p.left - 1).toNat).length : Int) = p.right := by rw [hBl]; omega
    have hAl : (F.take (p.left - 1).toNat).length = (p.left - 1).toNat := by rw [List.length_take]; omega
    have h := rd_gen (p := p) (b := decide (c0 < 0)) (A := F.take (p.left - 1).toNat) (B := F.drop (p.left - 1).toNat) (T := [69] ++ (if L < 0 then [45] else [43]) ++ padL L.natAbs 2 []) (ex := L)
      (hD.of_sub fun d hd => List.mem_of_mem_take hd) (hD.of_sub fun d hd => List.mem_of_mem_drop hd) (ext_lift hL1.1 hL1.2) hsg (List.length_pos_iff.mp (by omega))
      (h7.imp_right fun h => List.length_eq_zero_iff.mp (by omega)) (by omega)
      (by simp only [List.length_append]; have := padL2_len hL1.1 hL1.2; have h9 : (if L < 0 then [45] else [43] : List Nat).length = 1 := by split <;> rfl
          rw [h9]; simp only [List.length_cons, List.length_nil]; omega) (by omega) (by omega)
    rw [List.take_append_drop, hval, hR] at h
    -- what is read
    obtain ⟨j, k1, k2, k3, k4⟩ := stripZ_spec (s := U) (e := L - p.right) (by omega)
    have hUb : U < 10 ^ 7 := Int.lt_of_lt_of_le g2 (pow10_le (by omega))
    have hf7 := figs_le (n := U) (k := 7) (by decide) hUb
    have hmadU : mad (if decide (c0 < 0) = true then 0 - U else U) (L - p.right) 9 = (if c0 < 0 then -(stripZ U (L - p.right)).1 else (stripZ U (L - p.right)).1, (stripZ U (L - p.right)).2) := by
      by_cases hn : c0 < 0
      · rw [if_pos (by simpa using hn), if_pos hn]
        have e1 : (((0 - U).natAbs : Nat) : Int) = U := by omega
        rw [mad_num (by rw [e1]; omega) (by omega), if_pos (by omega), e1]
      · rw [if_neg (by simpa using hn), if_neg hn]
        have e1 : ((U.natAbs : Nat) : Int) = U := by omega
        rw [mad_num (by rw [e1]; omega) (by omega), if_neg (by omega), e1]
    have hmad0 : mad c0 e0 many = (if c0 < 0 then -(stripZ U (L - p.right)).1 else (stripZ U (L - p.right)).1, (stripZ U (L - p.right)).2) := by
      unfold mad
      by_cases hc : figs c0.natAbs - many > 0
      · rw [if_pos hc] at g3 ⊢
        by_cases hz : rnd c0.natAbs (figs c0.natAbs - many) = 0
        · exfalso
          rw [hz, stripZ_zero] at g3
          rw [g3] at k4
          exact absurd k4 (Int.lt_irrefl 0)
        · rw [if_neg hz, g3]
      · rw [if_neg hc] at g3 ⊢
        rw [if_neg hne, g3]
    rw [hmadU] at h
    rw [hmad0]
    refine ⟨by rw [expP_shw hP, hA, hB, hT]; exact h, fun _ => ?_⟩
    have hag := expo_again (t := (stripZ U (L - p.right)).1) (b := (stripZ U (L - p.right)).2) (pl := p.left - 1) (r := p.right) (U := U) (L := L) (many := many) (by omega) h5 hm g1 g2 rfl
    simp only
    generalize (stripZ U (L - p.right)).1 = t at k4 hag
    generalize (stripZ U (L - p.right)).2 = b at hag
    rw [expP_shw hP, expP_shw hP]
    have hq : (((if c0 < 0 then -t else t).natAbs : Nat) : Int) = t := by split <;> omega
    have hneg : (if c0 < 0 then -t else t) < 0 ↔ c0 < 0 := by
      split
      · rename_i h; exact ⟨fun _ => h, fun _ => by omega⟩
      · rename_i h; exact ⟨fun h' => by omega, fun h' => absurd h' h⟩
    rw [hq, decide_eq_decide.mpr hneg]
    have ht0 : ¬ t = 0 := by omega
    congr 1
    · unfold wx1; rw [if_neg hne, if_neg ht0, hag.1, hU]
    · unfold wx2; rw [if_neg hne, if_neg ht0, hag.1, hU]
    · unfold wx3; rw [if_neg hne, if_neg ht0, hag.2, hL]

-- piece 493
-- needs: 492
-- pure
theorem lex_app : ∀ {a b x y : List Nat}, a.length = b.length → a < b → a ++ x < b ++ y
  | [], [], _, _, _, h => absurd h (List.not_lt_nil _)
  | [], _ :: _, _, _, hl, _ => by simp at hl
  | _ :: _, [], _, _, hl, _ => by simp at hl
  | c :: r, d :: q, x, y, hl, h => by
    rw [List.cons_append, List.cons_append, List.cons_lt_cons_iff]
    rcases List.cons_lt_cons_iff.mp h with h | ⟨h, h'⟩
    · exact .inl h
    · exact .inr ⟨h, lex_app (by simpa using hl) h'⟩
theorem lex_split : ∀ {a b x y : List Nat}, a.length = b.length → a ++ x < b ++ y → a < b ∨ (a = b ∧ x < y)
  | [], [], _, _, _, h => .inr ⟨rfl, h⟩
  | [], _ :: _, _, _, hl, _ => by simp at hl
  | _ :: _, [], _, _, hl, _ => by simp at hl
  | c :: r, d :: q, x, y, hl, h => by
    rw [List.cons_append, List.cons_append, List.cons_lt_cons_iff] at h
    rcases h with h | ⟨h, h'⟩
    · exact .inl (List.cons_lt_cons_iff.mpr (.inl h))
    · rcases lex_split (by simpa using hl) h' with h2 | ⟨h2, h3⟩
      · exact .inl (List.cons_lt_cons_iff.mpr (.inr ⟨h, h2⟩))
      · exact .inr ⟨by rw [h, h2], h3⟩
theorem lex_cut {a b : List Nat} {n : Nat} (hl : a.length = b.length) (h : a < b) : a.take n < b.take n ∨ (a.take n = b.take n ∧ a.drop n < b.drop n) := by
  refine lex_split (by simp only [List.length_take, hl]) ?_
  rw [List.take_append_drop, List.take_append_drop]; exact h
theorem digs_lex : ∀ {a b : List Nat}, Digs a → Digs b → a.length = b.length → foldF a 0 < foldF b 0 → a < b
  | [], [], _, _, _, h => by exact absurd h (Int.lt_irrefl _)
  | [], _ :: _, _, _, hl, _ => by simp at hl
  | _ :: _, [], _, _, hl, _ => by simp at hl
  | c :: r, d :: q, hA, hB, hl, h => by
    have hc := hA c List.mem_cons_self
    have hd := hB d List.mem_cons_self
    have hr : Digs r := hA.of_sub fun e he => List.mem_cons_of_mem _ he
    have hq : Digs q := hB.of_sub fun e he => List.mem_cons_of_mem _ he
    have hl' : r.length = q.length := by simpa using hl
    have h' : foldF r (10 * 0 + c - 48) < foldF q (10 * 0 + d - 48) := h
    rw [foldF_lin, foldF_lin q, hl'] at h'
    have b1 := foldF_bd hr
    have b2 := foldF_bd hq
    rw [hl'] at b1
    have hp := pow10_pos q.length
    rw [List.cons_lt_cons_iff]
    by_cases h1 : c < d
    · exact .inl h1
    · by_cases h2 : c = d
      · subst h2
        exact .inr ⟨rfl, digs_lex hr hq hl' (by omega)⟩
      · exfalso
        have h3 : (10 * 0 + (d : Int) - 48 + 1) * 10 ^ q.length ≤ (10 * 0 + (c : Int) - 48) * 10 ^ q.length := Int.mul_le_mul_of_nonneg_right (by omega) (by omega)
        rw [Int.add_mul, Int.one_mul] at h3
        omega
theorem grpL_lt {x y f g : List Nat} (hl : x.length = y.length) (hf : f.length = g.length) (h : x.take (x.length - 3) < y.take (y.length - 3) ∨ (x.take (x.length - 3) = y.take (y.length - 3) ∧ f < g)) : grpL x f < grpL y g := by
  by_cases hn : 3 < x.length
  · rw [grpL_go hn, grpL_go (show 3 < y.length by omega)]
    have e1 : (x.take (x.length - 3)).length = x.length - 3 := by rw [List.length_take]; omega
    have e2 : (y.take (y.length - 3)).length = x.length - 3 := by rw [List.length_take]; omega
    refine grpL_lt (by rw [e1, e2]) (by simp only [List.length_append, List.length_drop, List.length_cons, e1, e2, hf]) ?_
    rw [e1, e2]
    rcases h with h | ⟨h, h'⟩
    · rcases lex_cut (n := x.length - 3 - 3) (by rw [e1, e2]) h with h2 | ⟨h2, h3⟩
      · exact .inl h2
      · exact .inr ⟨h2, lex_app (by rw [List.length_drop, List.length_drop, e1, e2]) h3⟩
    · rw [h]
      exact .inr ⟨rfl, List.append_left_lt (List.cons_lt_cons_iff.mpr (.inr ⟨rfl, h'⟩))⟩
  · rw [grpL_end hn, grpL_end (show ¬ 3 < y.length by omega)]
    rcases h with h | h
    · rw [show x.length - 3 = 0 by omega, show y.length - 3 = 0 by omega] at h
      exact absurd h (List.not_lt_nil _)
    · exact h.2
termination_by x.length
decreasing_by simp only [List.length_take]; omega
theorem grp_lt {x y : List Nat} (hl : x.length = y.length) (h : x < y) : grp x < grp y := by
  unfold grp
  refine grpL_lt hl (by rw [List.length_drop, List.length_drop, hl]) ?_
  rw [← hl]
  exact lex_cut hl h
theorem grpL_len2 {x f : List Nat} (h0 : 0 < x.length) : (grpL x f).length = f.length + (x.length - 3) + (x.length - 1) / 3 := by
  by_cases hn : 3 < x.length
  · have e1 : (x.take (x.length - 3)).length = x.length - 3 := by rw [List.length_take]; omega
    rw [grpL_go hn, grpL_len2 (by omega)]
    simp only [List.length_append, List.length_drop, List.length_cons, e1]
    omega
  · rw [grpL_end hn]; omega
termination_by x.length
decreasing_by simp only [List.length_take]; omega
theorem grp_len2 {x : List Nat} (h0 : 0 < x.length) : (grp x).length = x.length + (x.length - 1) / 3 := by
  unfold grp
  rw [grpL_len2 h0, List.length_drop]; omega
theorem grpL_head {x f : List Nat} : (grpL x f).head? = if 3 < x.length then x.head? else f.head? := by
  by_cases hn : 3 < x.length
  · have e1 : (x.take (x.length - 3)).length = x.length - 3 := by rw [List.length_take]; omega
    have e2 : (x.take (x.length - 3)).head? = x.head? := by
      rcases x with _ | ⟨c, r⟩
      · simp at hn
      · rw [show (c :: r).length - 3 = ((c :: r).length - 4) + 1 by omega]; rfl
    rw [grpL_go hn, grpL_head, if_pos hn]
    split
    · exact e2
    · rename_i h2
      rw [e1] at h2 ⊢
      rw [show x.length - 3 - 3 = 0 by omega, List.drop_zero, List.head?_append, e2]
      rcases x with _ | ⟨c, r⟩
      · simp at hn
      · rfl
  · rw [grpL_end hn, if_neg hn]
termination_by x.length
decreasing_by simp only [List.length_take]; omega
theorem grp_head (x : List Nat) : (grp x).head? = x.head? := by
  unfold grp
  rw [grpL_head]
  split
  · rfl
  · rename_i h
    rw [show x.length - 3 = 0 by omega, List.drop_zero]
theorem nbG_lt2 {p : Pic} {x y : List Nat} (hl : x.length = y.length) (h : x < y) : nbG p x < nbG p y := by
  unfold nbG; split
  · exact grp_lt hl h
  · exact h
def gl (p : Pic) (n : Nat) : Nat := if p.comma = true ∧ p.expo = false then n + (n - 1) / 3 else n
theorem nbG_len2 {p : Pic} {x : List Nat} (h0 : 0 < x.length) : (nbG p x).length = gl p x.length := by
  unfold nbG gl; split
  · exact grp_len2 h0
  · rfl
theorem nbG_head {p : Pic} {x : List Nat} : (nbG p x).head? = x.head? := by
  unfold nbG; split
  · exact grp_head x
  · rfl
theorem gl_lt {p : Pic} {m n : Nat} (h : m < n) : gl p m < gl p n := by unfold gl; split <;> omega
theorem gl_le {p : Pic} {n : Nat} (h : n ≤ 8) : gl p n ≤ 10 := by unfold gl; split <;> omega
/-- a wide picture -/
def WdP (p : Pic) : Prop := p.expo = false ∧ p.sign = PySem.Str.ofString "" ∧ p.dollar = false ∧ p.point = true ∧ 12 ≤ p.left ∧ p.left ≤ 20 ∧ 0 ≤ p.right ∧ p.right ≤ 2
def fillC (p : Pic) : Nat := if p.star = true then 42 else 32
def fgs (p : Pic) (u : Int) : List Nat := padL u (p.right + 1) []
def fgA (p : Pic) (u : Int) : List Nat := (fgs p u).take ((fgs p u).length - p.right.toNat)
def fgB (p : Pic) (u : Int) : List Nat := (fgs p u).drop ((fgs p u).length - p.right.toNat)
def wdT (p : Pic) (u : Int) : List Nat := List.replicate (p.left.toNat - gl p (fgA p u).length) (fillC p) ++ (nbG p (fgA p u) ++ 46 :: fgB p u)
theorem fgs_len {p : Pic} {u : Int} (hR : 0 ≤ p.right) (hu : 0 ≤ u) (hf : figs u ≤ 8 + p.right) : 1 ≤ (fgA p u).length ∧ (fgA p u).length ≤ 8 ∧ (fgs p u).length = (fgA p u).length + p.right.toNat := by
  have hl := padL_length (n := u) (k := p.right + 1) (f := []) hu
  simp only [List.length_nil] at hl
  have h1 := figs_pos u
  have h2 : (fgs p u).length = max (if u = 0 then 0 else (figs u).toNat) (p.right + 1).toNat := by unfold fgs; rw [hl]; omega
  have h3 : (fgA p u).length = (fgs p u).length - p.right.toNat := by unfold fgA; rw [List.length_take]; omega
  rw [h3, h2]
  split <;> omega
theorem fgs_mono {p : Pic} {u v : Int} (hu : 0 ≤ u) (h : u ≤ v) : (fgs p u).length ≤ (fgs p v).length := by
  unfold fgs
  rw [padL_length hu, padL_length (by omega)]
  have := figs_mono h
  have h1 := figs_pos u
  simp only [List.length_nil]
  (repeat' split) <;> omega
theorem wide_form {p : Pic} {s e : Int} (hp : WdP p) (hs : 0 ≤ s) (hu : 0 ≤ scl s e p.right) (hf : figs (scl s e p.right) ≤ 8 + p.right) : shw p s e = wdT p (scl s e p.right) := by
  obtain ⟨h1, h2, h3, h4, h5, h6, h7, h8⟩ := hp
  have hq : ((s.natAbs : Nat) : Int) = s := by omega
  rw [show shw p s e = _ from if_neg (by rw [h1]; simp), hq]
  have hb : decide (s < 0) = false := decide_eq_false (by omega)
  rw [hb]
  generalize scl s e p.right = u at hu hf
  have hl := fgs_len h7 hu hf
  show nbO p false (fgA p u) (fgB p u) [] = _
  have hG := nbG_len2 (p := p) (x := fgA p u) (by omega)
  have hg := gl_le (p := p) hl.2.1
  have e1 : nbLd p false = [] := by
    unfold nbLd leadS
    rw [h2, h3, eq_ee, eq_e0, if_neg (by decide), if_pos rfl, if_neg (by decide), if_neg (by decide)]; rfl
  have e2 : nbW p = p.left := by unfold nbW; rw [h2, eq_ee, if_neg (by decide)]; omega
  have e3 : nbA p false (fgA p u) (fgB p u) = nbG p (fgA p u) := by
    unfold nbA
    rw [e1, e2, List.nil_append, hG, if_neg fun h => by omega]
  have e4 : nbR p false (fgA p u) (fgB p u) = p.left - (gl p (fgA p u).length : Int) := by
    unfold nbR; rw [e1, e2, e3, List.nil_append, hG]
  have e5 : tailS p false = [] := by
    unfold tailS; rw [h2, eq_pe, if_neg (by decide)]
  unfold nbO nbT
  rw [e4, if_neg (by omega), e1, e3, e5, h4]
  unfold wdT fillC
  rw [show (p.left - (gl p (fgA p u).length : Int)).toNat = p.left.toNat - gl p (fgA p u).length by omega]
  simp
theorem wdT_lt {p : Pic} {u v : Int} (hp : WdP p) (hu : 0 ≤ u) (huv : u < v) (hfv : figs v ≤ 8 + p.right) : wdT p u < wdT p v := by
  obtain ⟨h1, h2, h3, h4, h5, h6, h7, h8⟩ := hp
  have hfu : figs u ≤ 8 + p.right := by have := figs_mono (a := u) (b := v) (by omega); omega
  have lu := fgs_len h7 hu hfu
  have lv := fgs_len h7 (by omega : 0 ≤ v) hfv
  have hm := fgs_mono (p := p) hu (by omega : u ≤ v)
  have du : Digs (fgs p u) := padL_digs Digs.nil
  have dv : Digs (fgs p v) := padL_digs Digs.nil
  have gv := gl_le (p := p) lv.2.1
  unfold wdT
  by_cases hl : (fgA p u).length = (fgA p v).length
  · rw [hl]
    refine List.append_left_lt ?_
    have hlt : fgs p u < fgs p v := digs_lex du dv (by omega) (by unfold fgs; rw [padL_nil_val hu, padL_nil_val (by omega)]; exact huv)
    have hc := lex_cut (n := (fgs p u).length - p.right.toNat) (by omega) hlt
    have hc' : fgA p u < fgA p v ∨ (fgA p u = fgA p v ∧ fgB p u < fgB p v) := by
      have hll : (fgs p u).length = (fgs p v).length := by omega
      unfold fgA fgB
      rw [← hll]; exact hc
    rcases hc' with hc' | ⟨hc1, hc2⟩
    · exact lex_app (by rw [nbG_len2 (by omega), nbG_len2 (by omega), hl]) (nbG_lt2 hl hc')
    · rw [hc1]
      exact List.append_left_lt (List.cons_lt_cons_iff.mpr (.inr ⟨rfl, hc2⟩))
  · have hg : gl p (fgA p u).length < gl p (fgA p v).length := gl_lt (by omega)
    obtain ⟨k, hk⟩ : ∃ k, p.left.toNat - gl p (fgA p u).length = (p.left.toNat - gl p (fgA p v).length) + (k + 1) := ⟨gl p (fgA p v).length - gl p (fgA p u).length - 1, by omega⟩
    rw [hk, ← List.replicate_append_replicate, List.append_assoc]
    refine List.append_left_lt ?_
    have hh := nbG_head (p := p) (x := fgA p v)
    rcases hA : fgA p v with _ | ⟨d, r⟩
    · rw [hA] at lv; simp at lv
    · rw [hA] at hh
      rcases hG : nbG p (d :: r) with _ | ⟨d', r'⟩
      · rw [hG] at hh; simp at hh
      · rw [hG] at hh
        have hdd : d' = d := by simpa using hh
        have hd : 48 ≤ d := by
          have : d ∈ fgs p v := List.mem_of_mem_take (by show d ∈ fgA p v; rw [hA]; exact List.mem_cons_self)
          exact (dv d this).1
        rw [List.replicate_succ, List.cons_append, List.cons_append, List.cons_lt_cons_iff]
        left
        unfold fillC
        split <;> omega
theorem wdT_iff {p : Pic} {u v : Int} (hp : WdP p) (hu : 0 ≤ u) (hv : 0 ≤ v) (hfu : figs u ≤ 8 + p.right) (hfv : figs v ≤ 8 + p.right) : wdT p u < wdT p v ↔ u < v := by
  refine ⟨fun h => ?_, fun h => wdT_lt hp hu h hfv⟩
  by_cases h1 : u < v
  · exact h1
  · exfalso
    by_cases h2 : u = v
    · subst h2; exact List.lt_irrefl _ h
    · exact List.lt_asymm h (wdT_lt hp hv (by omega) hfu)
/-- what is read of a wide picture's text -/
theorem rd_units {s e R : Int} (hs0 : 0 ≤ s) (hs : s < 10 ^ 6) (he : s ≠ 0 → figs s + e ≤ 8) (hR : 0 ≤ R) (hR4 : R ≤ 4) :
    0 ≤ scl s e R ∧ figs (scl s e R) ≤ 8 + R ∧ ∃ (a b : Int) (j : Nat), mad (scl s e R) (0 - R) 9 = (a, b) ∧ b = 0 - R + j ∧ a * 10 ^ j = scl s e R ∧ 0 ≤ a ∧ a < 10 ^ 12 ∧ b ≤ 20 := by
  by_cases h0 : s = 0
  · subst h0
    rw [scl_zero, mad_zero (by decide), figs_small (by decide)]
    exact ⟨by decide, by omega, 0, 0, R.toNat, rfl, by omega, by rw [Int.zero_mul], by decide, by decide, by decide⟩
  · have hpos : 0 < s := by omega
    have hfe := he h0
    have hf6 := figs_le (n := s) (k := 6) (by decide) hs
    by_cases hup : 0 ≤ e + R
    · rw [scl_up hup]
      have hp := pow10_pos (e + R).toNat
      have hu : 0 < s * 10 ^ (e + R).toNat := Int.mul_pos hpos (by omega)
      have hfu := figs_mul hpos (e + R).toNat
      have hag := mad_again (u := s * 10 ^ (e + R).toNat) (R := R) hu (by omega) ⟨s, (e + R).toNat, hpos, by omega, rfl⟩
      obtain ⟨j, k1, k2, k3, k4⟩ := stripZ_spec (s := s * 10 ^ (e + R).toNat) (e := 0 - R) hu
      have hlt := lt_pow_figs (n := s * 10 ^ (e + R).toNat)
      have hle : (10 : Int) ^ (figs (s * 10 ^ (e + R).toNat)).toNat ≤ 10 ^ 12 := pow10_le (by omega)
      have hfj := figs_mul k4 j
      rw [← k1] at hfj
      have hf1 := figs_pos (stripZ (s * 10 ^ (e + R).toNat) (0 - R)).1
      have hj := pow10_pos j
      have hla : (stripZ (s * 10 ^ (e + R).toNat) (0 - R)).1 * 1 ≤ (stripZ (s * 10 ^ (e + R).toNat) (0 - R)).1 * 10 ^ j := Int.mul_le_mul_of_nonneg_left hj (by omega)
      rw [← k1] at hla
      refine ⟨by omega, by omega, _, _, j, hag.1, k2, k1.symm, by omega, by omega, by omega⟩
    · rw [scl_down (by omega)]
      have hr0 := rnd_nonneg (n := s) (p := -e - R) (by omega)
      have hr6 := rnd_lt (n := s) (p := -e - R) (k := 6) (by omega) hs
      have h97 : (10 : Int) ^ 6 < 10 ^ 7 := by decide
      have hf7 := figs_le (n := rnd s (-e - R)) (k := 7) (by decide) (by omega)
      by_cases hz : rnd s (-e - R) = 0
      · rw [hz, mad_zero (by decide), figs_small (by decide)]
        exact ⟨by decide, by omega, 0, 0, R.toNat, rfl, by omega, by rw [Int.zero_mul], by decide, by decide, by decide⟩
      · have hu : 0 < rnd s (-e - R) := by omega
        have hag := mad_again (u := rnd s (-e - R)) (R := R) hu (by omega) ⟨rnd s (-e - R), 0, by omega, by omega, by simp⟩
        obtain ⟨j, k1, k2, k3, k4⟩ := stripZ_spec (s := rnd s (-e - R)) (e := 0 - R) hu
        have hfj := figs_mul k4 j
        rw [← k1] at hfj
        have hf1 := figs_pos (stripZ (rnd s (-e - R)) (0 - R)).1
        have hj := pow10_pos j
        have hla : (stripZ (rnd s (-e - R)) (0 - R)).1 * 1 ≤ (stripZ (rnd s (-e - R)) (0 - R)).1 * 10 ^ j := Int.mul_le_mul_of_nonneg_left hj (by omega)
        rw [← k1] at hla
        have h18 : (10 : Int) ^ 7 < 10 ^ 12 := by decide
        refine ⟨by omega, by omega, _, _, j, hag.1, k2, k1.symm, by omega, by omega, by omega⟩

-- piece 494
-- needs: 493 
-- pure
theorem alk_lt {a1 b1 a2 b2 R u1 u2 : Int} {j1 j2 : Nat} (h1 : b1 = 0 - R + j1) (h2 : b2 = 0 - R + j2) (e1 : a1 * 10 ^ j1 = u1) (e2 : a2 * 10 ^ j2 = u2) : (a1 * 10 ^ (b1 - min b1 b2).toNat < a2 * 10 ^ (b2 - min b2 b1).toNat) ↔ u1 < u2 := by
  have hm := pow10_lt (min j1 j2)
  have x1 : u1 = a1 * 10 ^ (b1 - min b1 b2).toNat * 10 ^ (min j1 j2) := by rw [Int.mul_assoc, ← Int.pow_add, ← e1]; congr 2; omega
  have x2 : u2 = a2 * 10 ^ (b2 - min b2 b1).toNat * 10 ^ (min j1 j2) := by rw [Int.mul_assoc, ← Int.pow_add, ← e2]; congr 2; omega
  rw [x1, x2]
  exact (Int.mul_lt_mul_right hm).symm
theorem valOk_abs {c e : Int} (h : ValOk c e) : ValOk c.natAbs e := by
  obtain ⟨v1, v2, v3, v4, v5, v6⟩ := h
  exact ⟨by omega, v2, v3, fun h => v4 (by omega), fun h => v5 (by omega), by omega⟩
theorem valOk_made {c e : Int} (h : ValOk c e) : ValOk (mad c e 9).1 (mad c e 9).2 := by
  obtain ⟨v1, v2, v3, v4, v5, v6⟩ := h
  by_cases h0 : c = 0
  · subst h0
    rw [mad_zero (by decide)]
    exact ⟨by decide, by decide, by decide, fun _ => rfl, fun h => absurd rfl h, .inl rfl⟩
  · have hf := figs_le (n := c.natAbs) (k := 6) (by decide) v1
    have hfe := v5 h0
    rw [mad_num (by omega) h0]
    obtain ⟨k, h1, h2, h3, h4⟩ := stripZ_spec (s := c.natAbs) (e := e) (by omega)
    have hfk := figs_mul h4 k
    rw [← h1] at hfk
    have hf1 := figs_pos (stripZ c.natAbs e).1
    have hj := pow10_pos k
    have hla : (stripZ c.natAbs e).1 * 1 ≤ (stripZ c.natAbs e).1 * 10 ^ k := Int.mul_le_mul_of_nonneg_left hj (by omega)
    rw [← h1] at hla
    generalize (stripZ c.natAbs e).1 = s' at *
    generalize (stripZ c.natAbs e).2 = e' at *
    have hq : (((if c < 0 then -s' else s').natAbs : Nat) : Int) = s' := by split <;> omega
    refine ⟨by rw [hq]; omega, by show -5 ≤ e'; omega, by show e' ≤ 8; omega, fun h => ?_, fun h => ?_, .inr ?_⟩
    · exfalso
      have h' : (if c < 0 then -s' else s') = 0 := h
      split at h' <;> omega
    · show figs (((if c < 0 then -s' else s').natAbs : Nat) : Int) + e' ≤ 8
      rw [hq]; omega
    · show (if c < 0 then -s' else s') % 10 ≠ 0
      split <;> omega
/-- the order of two sizes' texts -/
theorem order_law {p : Pic} {c1 e1 c2 e2 : Int} (hp : WdP p) (hv1 : ValOk c1 e1) (hv2 : ValOk c2 e2) (h1 : 0 ≤ c1) (h2 : 0 ≤ c2) :
    ∃ a1 b1 a2 b2 : Int, RdF (shw p c1 e1) a1 b1 ∧ RdF (shw p c2 e2) a2 b2 ∧ (a1.natAbs : Int) < 10 ^ 18 ∧ -60 ≤ b1 ∧ b1 ≤ 20 ∧ (a2.natAbs : Int) < 10 ^ 18 ∧ -60 ≤ b2 ∧ b2 ≤ 20 ∧
      (shw p c2 e2 < shw p c1 e1 ↔ a2 * 10 ^ (b2 - min b2 b1).toNat < a1 * 10 ^ (b1 - min b1 b2).toNat) ∧ (shw p c1 e1 < shw p c2 e2 ↔ a1 * 10 ^ (b1 - min b1 b2).toNat < a2 * 10 ^ (b2 - min b2 b1).toNat) := by
  have hP := hp
  obtain ⟨q1, q2, q3, q4, q5, q6, q7, q8⟩ := hp
  obtain ⟨u1, f1, a1, b1, j1, m1, m2, m3, m4, m5, m6⟩ := rd_units (s := c1) (e := e1) (R := p.right) h1 (by have := hv1.1; omega) (fun h => by have := hv1.2.2.2.2.1 h; rwa [show ((c1.natAbs : Nat) : Int) = c1 by omega] at this) q7 (by omega)
  obtain ⟨u2, f2, a2, b2, j2, n1, n2, n3, n4, n5, n6⟩ := rd_units (s := c2) (e := e2) (R := p.right) h2 (by have := hv2.1; omega) (fun h => by have := hv2.2.2.2.2.1 h; rwa [show ((c2.natAbs : Nat) : Int) = c2 by omega] at this) q7 (by omega)
  have h18 : (10 : Int) ^ 12 < 10 ^ 18 := by decide
  have hPl : PlP p := ⟨q1, .inl q2, q7, by omega, .inl q4⟩
  have t1 := plain_txt (p := p) (c := c1) (e := e1) hPl (by rw [show ((c1.natAbs : Nat) : Int) = c1 by omega]; exact u1) (by rw [show ((c1.natAbs : Nat) : Int) = c1 by omega]; omega)
  have t2 := plain_txt (p := p) (c := c2) (e := e2) hPl (by rw [show ((c2.natAbs : Nat) : Int) = c2 by omega]; exact u2) (by rw [show ((c2.natAbs : Nat) : Int) = c2 by omega]; omega)
  rw [show ((c1.natAbs : Nat) : Int) = c1 by omega, if_neg (by simp only [decide_eq_true_eq]; omega), m1] at t1
  rw [show ((c2.natAbs : Nat) : Int) = c2 by omega, if_neg (by simp only [decide_eq_true_eq]; omega), n1] at t2
  refine ⟨a1, b1, a2, b2, t1, t2, by omega, by omega, m6, by omega, by omega, n6, ?_, ?_⟩
  · rw [wide_form hP h1 u1 f1, wide_form hP h2 u2 f2, wdT_iff hP u2 u1 f2 f1]
    exact (alk_lt n2 m2 n3 m3).symm
  · rw [wide_form hP h1 u1 f1, wide_form hP h2 u2 f2, wdT_iff hP u1 u2 f1 f2]
    exact (alk_lt m2 n2 m3 n3).symm

-- piece 495
-- needs: 494
-- pure
def m5 : Nat → List Nat
  | 0 => []
  | 1 => [43]
  | 2 => [42, 42]
  | 3 => [36, 36]
  | _ => [42, 42, 36]
def m3 : Nat → List Nat
  | 0 => []
  | 1 => [43]
  | _ => [45]
def plT (a n c : Nat) (pt : Bool) (h t : Nat) : List Nat :=
  m5 a ++ (List.replicate (1 + n) 35 ++ (List.replicate c 44 ++ ((if pt = true then 46 :: List.replicate h 35 else []) ++ (if a = 1 then [] else m3 t))))
def picB (p q : Pic) : Bool := decide (p.left = q.left) && (decide (p.right = q.right) && (p.point == q.point && (p.star == q.star && (p.dollar == q.dollar && (p.comma == q.comma && (p.expo == q.expo && p.sign == q.sign))))))
theorem picB_eq {p q : Pic} (h : picB p q = true) : p = q := by
  unfold picB at h
  simp only [Bool.and_eq_true, decide_eq_true_eq, beq_iff_eq] at h
  obtain ⟨a, b, c, d, e, f, g⟩ := p
  obtain ⟨a', b', c', d', e', f', g'⟩ := q
  obtain ⟨h1, h2, h3, h4, h5, h6, h7, h8⟩ := h
  simp only at h1 h2 h3 h4 h5 h6 h7 h8
  subst h1 h2 h3 h4 h5 h6 h7 h8
  rfl
def sgB (s : PySem.Str) : Bool := s == PySem.Str.ofString "" || (s == PySem.Str.ofString "+ahead" || (s == PySem.Str.ofString "+behind" || s == PySem.Str.ofString "-behind"))
def chkP (D : List Nat) (R : Nat) (r r2 : Pic × Nat) : Bool :=
  bgnL D && (bgnL (D ++ [62]) && (decide (r.2 = D.length) && (decide (r2.2 = D.length) && (picB r.1 r2.1 && (!r.1.expo && (sgB r.1.sign && (decide (r.1.right = (R : Int)) && ((r.1.point || decide (r.1.right = 0)) && (decide (0 ≤ r.1.left) && (decide (r.1.left ≤ 30) && (decide (D.length ≤ 90) && decide (0 < D.length))))))))))))
theorem chk_t : ∀ a, a < 5 → ∀ n, n < 6 → ∀ c, c < 2 → ∀ h, h < 5 → ∀ t, t < 3 → chkP (plT a n c true h t) h (rdL (plT a n c true h t)) (rdL (plT a n c true h t ++ [62])) = true := by decide +kernel
theorem chk_f : ∀ a, a < 5 → ∀ n, n < 6 → ∀ c, c < 2 → ∀ t, t < 3 → chkP (plT a n c false 0 t) 0 (rdL (plT a n c false 0 t)) (rdL (plT a n c false 0 t ++ [62])) = true := by decide +kernel

-- piece 496
-- needs: 495
-- pure
theorem strip_bd {s e : Int} (h : 0 < s) (hs : s < 10 ^ 9) : 0 < (stripZ s e).1 ∧ (stripZ s e).1 < 10 ^ 9 ∧ e ≤ (stripZ s e).2 ∧ (stripZ s e).2 ≤ e + 8 := by
  obtain ⟨k, h1, h2, h3, h4⟩ := stripZ_spec (e := e) h
  have hf := figs_le (n := s) (k := 9) (by decide) hs
  have hfk := figs_mul h4 k
  rw [← h1] at hfk
  have hf1 := figs_pos (stripZ s e).1
  have hj := pow10_pos k
  have hla : (stripZ s e).1 * 1 ≤ (stripZ s e).1 * 10 ^ k := Int.mul_le_mul_of_nonneg_left hj (by omega)
  rw [← h1] at hla
  exact ⟨h4, by omega, by omega, by omega⟩
theorem mad_bd {c e d : Int} (hc : (c.natAbs : Int) < 10 ^ 7) (he : -5 ≤ e) (hf : c ≠ 0 → figs c.natAbs + e ≤ 8) (hd : 1 ≤ d) : ((mad c e d).1.natAbs : Int) < 10 ^ 12 ∧ -20 ≤ (mad c e d).2 ∧ (mad c e d).2 ≤ 20 := by
  have h97 : (10 : Int) ^ 7 < 10 ^ 9 := by decide
  have h9 : (10 : Int) ^ 9 < 10 ^ 12 := by decide
  by_cases h0 : c = 0
  · subst h0
    rw [mad_zero hd]; exact ⟨by decide, by decide, by decide⟩
  · have hfe := hf h0
    have hf1 := figs_pos c.natAbs
    unfold mad
    by_cases hA : figs c.natAbs - d > 0
    · rw [if_pos hA]
      by_cases hz : rnd c.natAbs (figs c.natAbs - d) = 0
      · rw [if_pos hz]; exact ⟨by decide, by decide, by decide⟩
      · rw [if_neg hz]
        have hr0 := rnd_nonneg (n := c.natAbs) (p := figs c.natAbs - d) (by omega)
        have hr7 := rnd_lt (n := c.natAbs) (p := figs c.natAbs - d) (k := 7) (by omega) hc
        have hb := strip_bd (s := rnd c.natAbs (figs c.natAbs - d)) (e := e + (figs c.natAbs - d)) (by omega) (by omega)
        obtain ⟨b1, b2, b3, b4⟩ := hb
        refine ⟨?_, by show -20 ≤ (stripZ _ _).2; omega, by show (stripZ _ _).2 ≤ 20; omega⟩
        simp only
        split <;> omega
    · rw [if_neg hA, if_neg (by omega)]
      have hb := strip_bd (s := c.natAbs) (e := e) (by omega) (by omega)
      obtain ⟨b1, b2, b3, b4⟩ := hb
      refine ⟨?_, by show -20 ≤ (stripZ _ _).2; omega, by show (stripZ _ _).2 ≤ 20; omega⟩
      simp only
      split <;> omega
theorem drd_bd {c e R : Int} (hv : ValOk c e) (hR : 0 ≤ R) (hR4 : R ≤ 4) : ((drd c e R).1.natAbs : Int) < 10 ^ 12 ∧ -20 ≤ (drd c e R).2 ∧ (drd c e R).2 ≤ 20 := by
  obtain ⟨v1, v2, v3, v4, v5, v6⟩ := hv
  have h9 : (10 : Int) ^ 6 < 10 ^ 12 := by decide
  unfold drd
  split
  · exact ⟨by show (c.natAbs : Int) < 10 ^ 12; omega, by show -20 ≤ e; omega, by show e ≤ 20; omega⟩
  · split
    · exact ⟨by show (c.natAbs : Int) < 10 ^ 12; omega, by show -20 ≤ e; omega, by show e ≤ 20; omega⟩
    · split
      · exact ⟨by decide, by decide, by decide⟩
      · have hr0 := rnd_nonneg (n := c.natAbs) (p := 0 - R - e) (by omega)
        have hr7 := rnd_lt (n := c.natAbs) (p := 0 - R - e) (k := 6) (by omega) v1
        have h97 : (10 : Int) ^ 6 < 10 ^ 7 := by decide
        have hf7 := figs_le (n := rnd c.natAbs (0 - R - e)) (k := 7) (by decide) (by omega)
        generalize rnd c.natAbs (0 - R - e) = u at *
        have hq : (((if 0 < c then u else 0 - u).natAbs : Nat) : Int) = u := by split <;> omega
        exact mad_bd (by rw [hq]; omega) (by omega) (fun _ => by rw [hq]; omega) (by decide)
def wdD (a c h : Nat) : List Nat := (if a = 0 then [] else [42, 42]) ++ (List.replicate 12 35 ++ (List.replicate c 44 ++ 46 :: List.replicate h 35))
def chkW (D : List Nat) (r : Pic × Nat) : Bool :=
  bgnL D && (decide (r.2 = D.length) && (!r.1.expo && (r.1.sign == PySem.Str.ofString "" && (!r.1.dollar && (r.1.point && (decide (12 ≤ r.1.left) && (decide (r.1.left ≤ 20) && (decide (0 ≤ r.1.right) && (decide (r.1.right ≤ 2) && decide (D.length ≤ 90 ∧ 0 < D.length))))))))))
theorem chk_w : ∀ a, a < 2 → ∀ c, c < 2 → ∀ h, h < 3 → chkW (wdD a c h) (rdL (wdD a c h)) = true := by decide +kernel
def poD (k r : Nat) : List Nat := List.replicate k 35 ++ ((if 0 < r then 46 :: List.replicate r 35 else []) ++ [94, 94, 94, 94])
def chkE (D : List Nat) (k r : Nat) (q : Pic × Nat) : Bool :=
  bgnL D && (decide (q.2 = D.length) && (picB q.1 ⟨k, r, decide (0 < r), false, false, false, true, PySem.Str.ofString ""⟩ && decide (D.length ≤ 90 ∧ 0 < D.length)))
theorem chk_e : ∀ k, k < 6 → 2 ≤ k → ∀ r, r < 4 → chkE (poD k r) k r (rdL (poD k r)) = true := by decide +kernel

-- piece 497
-- needs: 496
-- pure
def menu5 (i : Nat) : PySem.Str := [PySem.Str.ofString "", PySem.Str.ofString "+", PySem.Str.ofString "**", PySem.Str.ofString "$$", PySem.Str.ofString "**$"].getD i (PySem.Str.ofString "")
def menu3 (i : Nat) : PySem.Str := [PySem.Str.ofString "", PySem.Str.ofString "+", PySem.Str.ofString "-"].getD i (PySem.Str.ofString "")
theorem menu5_len : ∀ i, (menu5 i).length ≤ 3
  | 0 => by decide +kernel
  | 1 => by decide +kernel
  | 2 => by decide +kernel
  | 3 => by decide +kernel
  | 4 => by decide +kernel
  | _ + 5 => by show (PySem.Str.ofString "").length ≤ 3; decide +kernel
theorem menu3_len : ∀ i, (menu3 i).length ≤ 1
  | 0 => by decide +kernel
  | 1 => by decide +kernel
  | 2 => by decide +kernel
  | _ + 3 => by show (PySem.Str.ofString "").length ≤ 1; decide +kernel
theorem hash_len {n : Int} : (Txt.mul (PySem.Str.ofString "#") n).length = n.toNat := by rw [o_hash, mul_st, st_len, List.length_replicate]
theorem comma_len {n : Int} : (Txt.mul (PySem.Str.ofString ",") n).length = n.toNat := by rw [o_comma, mul_st, st_len, List.length_replicate]
theorem dot_len : (PySem.Str.ofString ".").length = 1 := by decide +kernel
/-- the law's plain picture -/
def plainT (a n c : Nat) (pt : Bool) (h t : Nat) : List Nat :=
  Lz (menu5 a) ++ (List.replicate (1 + n) 35 ++ (List.replicate c 44 ++ ((if pt = true then 46 :: List.replicate h 35 else []) ++ (if a = 1 then [] else Lz (menu3 t)))))
def PlainL (x : PySem.Str) (b : Int) : Prop := ∃ (a n c h t : Nat) (pt : Bool), a < 5 ∧ n < 6 ∧ c < 2 ∧ h < 5 ∧ t < 3 ∧ (pt = true ∨ h = 0) ∧ b = h ∧ x = St (plainT a n c pt h t)
theorem menu5_plus : ∀ i, i < 5 → (menu5 i == PySem.Str.ofString "+") = decide (i = 1) := by decide +kernel
theorem lz_hash (n : Int) : Lz (Txt.mul (PySem.Str.ofString "#") n) = List.replicate n.toNat 35 := by rw [o_hash, mul_st]
theorem lz_comma (n : Int) : Lz (Txt.mul (PySem.Str.ofString ",") n) = List.replicate n.toNat 44 := by rw [o_comma, mul_st]
theorem lz_dot : Lz (PySem.Str.ofString ".") = [46] := by rw [o_dot]
section
variable {ka kn kc kh kt : Int} (a0 : 0 ≤ ka) (a1 : ka < 5) (n0 : 0 ≤ kn) (n1 : kn < 6) (c0 : 0 ≤ kc) (c1 : kc < 2) (h0 : 0 ≤ kh) (h1 : kh < 5)
include a0 a1 n0 n1 c0 c1 h0 h1
theorem plain1 (hp : (menu5 ka.toNat == PySem.Str.ofString "+") = true) : PlainL (menu5 ka.toNat ++ Txt.mul (PySem.Str.ofString "#") (1 + kn) ++ Txt.mul (PySem.Str.ofString ",") kc ++ PySem.Str.ofString "." ++ Txt.mul (PySem.Str.ofString "#") kh) kh := by
  rw [menu5_plus _ (by omega), decide_eq_true_eq] at hp
  refine ⟨ka.toNat, kn.toNat, kc.toNat, kh.toNat, 0, true, by omega, by omega, by omega, by omega, by omega, .inl rfl, by omega, lz_inj ?_⟩
  unfold plainT
  simp only [lz_append, lz_hash, lz_comma, lz_dot, lz_st, if_pos hp, if_true, List.append_nil, List.append_assoc, show (1 + kn).toNat = 1 + kn.toNat by omega, List.cons_append, List.nil_append]
theorem plain2 (t0 : 0 ≤ kt) (t1 : kt < 3) (hp : (menu5 ka.toNat == PySem.Str.ofString "+") = false) : PlainL (menu5 ka.toNat ++ Txt.mul (PySem.Str.ofString "#") (1 + kn) ++ Txt.mul (PySem.Str.ofString ",") kc ++ PySem.Str.ofString "." ++ Txt.mul (PySem.Str.ofString "#") kh ++ menu3 kt.toNat) kh := by
  rw [menu5_plus _ (by omega), decide_eq_false_iff_not] at hp
  refine ⟨ka.toNat, kn.toNat, kc.toNat, kh.toNat, kt.toNat, true, by omega, by omega, by omega, by omega, by omega, .inl rfl, by omega, lz_inj ?_⟩
  unfold plainT
  simp only [lz_append, lz_hash, lz_comma, lz_dot, lz_st, if_neg hp, if_true, List.append_assoc, show (1 + kn).toNat = 1 + kn.toNat by omega, List.cons_append, List.nil_append]
theorem plain3 (hh : ¬ 0 < kh) (hp : (menu5 ka.toNat == PySem.Str.ofString "+") = true) : PlainL (menu5 ka.toNat ++ Txt.mul (PySem.Str.ofString "#") (1 + kn) ++ Txt.mul (PySem.Str.ofString ",") kc) kh := by
  rw [menu5_plus _ (by omega), decide_eq_true_eq] at hp
  refine ⟨ka.toNat, kn.toNat, kc.toNat, 0, 0, false, by omega, by omega, by omega, by omega, by omega, .inr rfl, by omega, lz_inj ?_⟩
  unfold plainT
  simp only [lz_append, lz_hash, lz_comma, lz_st, if_pos hp, Bool.false_eq_true, if_false, List.append_nil, List.append_assoc, show (1 + kn).toNat = 1 + kn.toNat by omega]
theorem plain4 (t0 : 0 ≤ kt) (t1 : kt < 3) (hh : ¬ 0 < kh) (hp : (menu5 ka.toNat == PySem.Str.ofString "+") = false) : PlainL (menu5 ka.toNat ++ Txt.mul (PySem.Str.ofString "#") (1 + kn) ++ Txt.mul (PySem.Str.ofString ",") kc ++ menu3 kt.toNat) kh := by
  rw [menu5_plus _ (by omega), decide_eq_false_iff_not] at hp
  refine ⟨ka.toNat, kn.toNat, kc.toNat, 0, kt.toNat, false, by omega, by omega, by omega, by omega, by omega, .inr rfl, by omega, lz_inj ?_⟩
  unfold plainT
  simp only [lz_append, lz_hash, lz_comma, lz_st, if_neg hp, Bool.false_eq_true, if_false, List.nil_append, List.append_assoc, show (1 + kn).toNat = 1 + kn.toNat by omega]
end
/-- the text x is a picture, read as p -/
def Tx (x : PySem.Str) (p : Pic) : Prop := ∃ n : Nat, rdL (suf x 0) = (p, n) ∧ bgnL (suf x 0) = true ∧ x.length ≤ 100 ∧ (n : Int) = x.length ∧ 0 < (x.length : Int)
theorem lz_menu5 : ∀ a, a < 5 → Lz (menu5 a) = m5 a := by decide +kernel
theorem lz_menu3 : ∀ a, a < 3 → Lz (menu3 a) = m3 a := by decide +kernel
theorem plainT_eq {a n c h t : Nat} {pt : Bool} (ha : a < 5) (ht : t < 3) : plainT a n c pt h t = plT a n c pt h t := by
  unfold plainT plT
  rw [lz_menu5 a ha, lz_menu3 t ht]
theorem o_lt : PySem.Str.ofString "<" = St [60] := by decide +kernel
theorem o_gt : PySem.Str.ofString ">" = St [62] := by decide +kernel
theorem signOk_of {p : Pic} (h : sgB p.sign = true) : SignOk p := by
  unfold sgB at h
  simp only [Bool.or_eq_true, beq_iff_eq] at h
  exact h
/-- the picture's text between brackets -/
def brT (x : PySem.Str) : PySem.Str := PySem.Str.ofString "<" ++ x ++ PySem.Str.ofString ">"
/-- what the plain picture's text is read as -/
structure PlF (x : PySem.Str) (b : Int) (p : Pic) : Prop where
  tx : Tx x p
  gp : GP p
  pl : PlP p
  rt : p.right = b
  br : rdL (suf (brT x) (0 + 1)) = (p, x.length) ∧ bgnL (suf (brT x) 0) = false ∧ bgnL (suf (brT x) (0 + 1)) = true ∧ bgnL (suf (brT x) (0 + 1 + x.length)) = false ∧ Txt.item (brT x) 0 = St [60] ∧ Txt.item (brT x) (0 + 1 + x.length) = St [62] ∧ (brT x).length = x.length + 2
  len : x.length ≤ 90
theorem lz_brT (x : PySem.Str) : Lz (brT x) = 60 :: (Lz x ++ [62]) := by
  unfold brT; rw [lz_append, lz_append, o_lt, o_gt]; rfl
theorem suf0 (x : PySem.Str) : suf x 0 = Lz x := by unfold suf; rfl
theorem chkP_get {D : List Nat} {R : Nat} {r r2 : Pic × Nat} (h : chkP D R r r2 = true) :
    bgnL D = true ∧ bgnL (D ++ [62]) = true ∧ r.2 = D.length ∧ r2.2 = D.length ∧ r.1 = r2.1 ∧ r.1.expo = false ∧ SignOk r.1 ∧ r.1.right = (R : Int) ∧ (r.1.point = true ∨ r.1.right = 0) ∧ 0 ≤ r.1.left ∧ r.1.left ≤ 30 ∧ D.length ≤ 90 ∧ 0 < D.length := by
  unfold chkP at h
  simp only [Bool.and_eq_true, decide_eq_true_eq, Bool.not_eq_true', Bool.or_eq_true] at h
  obtain ⟨h1, h2, h3, h4, h5, h6, h7, h8, h9, h10, h11, h12, h13⟩ := h
  exact ⟨h1, h2, h3, h4, picB_eq h5, h6, signOk_of h7, h8, h9, h10, h11, h12, h13⟩
theorem plF_of {x : PySem.Str} {b : Int} (h : PlainL x b) : ∃ p, PlF x b p := by
  obtain ⟨a, n, c, h, t, pt, ha, hn, hc, hh, ht, hpt, rfl, rfl⟩ := h
  rw [plainT_eq ha ht]
  have hk : chkP (plT a n c pt h t) h (rdL (plT a n c pt h t)) (rdL (plT a n c pt h t ++ [62])) = true := by
    cases pt with
    | true => exact chk_t a ha n hn c hc h hh t ht
    | false =>
      have h0 : h = 0 := hpt.resolve_left (by decide)
      subst h0
      exact chk_f a ha n hn c hc t ht
  generalize plT a n c pt h t = D at hk ⊢
  have e : Lz (St D) = D := rfl
  generalize hr : rdL D = r at hk
  generalize hr2 : rdL (D ++ [62]) = r2 at hk
  obtain ⟨h1, h2, h3, h4, h5, h6, h7, h8, h9, h10, h11, h12, h13⟩ := chkP_get hk
  obtain ⟨p, n1⟩ := r
  obtain ⟨p2, n2⟩ := r2
  simp only at h3 h4 h5 h6 h7 h8 h9 h10 h11
  subst h3; subst h4; subst h5
  have hl : (St D).length = D.length := rfl
  have hb := lz_brT (St D)
  rw [e] at hb
  have s1 : suf (brT (St D)) (0 + 1) = D ++ [62] := by unfold suf; rw [hb]; rfl
  have s2 : suf (brT (St D)) (0 + 1 + (St D).length) = [62] := by
    unfold suf
    rw [hb, show (0 + 1 + ((St D).length : Int)).toNat = D.length + 1 by rw [hl]; omega, List.drop_succ_cons, List.drop_left]
  have hlen : (brT (St D)).length = D.length + 2 := by rw [← lz_length, hb]; simp only [List.length_cons, List.length_append, List.length_nil]
  refine ⟨p, ⟨D.length, ?_, ?_, by rw [hl]; omega, by rw [hl], by rw [hl]; omega⟩, .inl ⟨h6, h10, h11, by omega, by omega⟩, ⟨h6, h7, by omega, by omega, h9⟩, h8, ⟨?_, ?_, ?_, ?_, ?_, ?_, by rw [hlen, hl]⟩, by rw [hl]; exact h12⟩
  · rw [suf0, e]; exact hr
  · rw [suf0, e]; exact h1
  · rw [s1, hr2, hl]
  · rw [suf0, hb]; rfl
  · rw [s1]; exact h2
  · rw [s2]; decide
  · obtain ⟨c', q1, q2⟩ := item_lz (x := brT (St D)) (i := 0) (by decide) (by rw [hlen]; omega)
    rw [hb] at q1
    have : c' = 60 := (Option.some.inj q1).symm
    rw [q2, this]
  · obtain ⟨c', q1, q2⟩ := item_lz (x := brT (St D)) (i := 0 + 1 + (St D).length) (by omega) (by rw [hlen, hl]; omega)
    rw [hb, show (0 + 1 + ((St D).length : Int)).toNat = D.length + 1 by rw [hl]; omega, List.getElem?_cons_succ, List.getElem?_append_right (Nat.le_refl _), Nat.sub_self] at q1
    have : c' = 62 := (Option.some.inj q1).symm
    rw [q2, this]
/-- what is shown is read as due, and shown again -/
def ShowOk (x : PySem.Str) (c e a b : Int) : Prop := ∃ p, Tx x p ∧ GP p ∧ (c.natAbs : Int) < 10 ^ 12 ∧ -20 ≤ e ∧ e ≤ 20 ∧ (a.natAbs : Int) < 10 ^ 12 ∧ -20 ≤ b ∧ b ≤ 20 ∧ RdF (Lz (St (shw p c e))) a b ∧ (a ≠ 0 → shw p a b = shw p c e)
theorem valOk_bd {c e : Int} (h : ValOk c e) : (c.natAbs : Int) < 10 ^ 12 ∧ -20 ≤ e ∧ e ≤ 20 := by
  obtain ⟨v1, v2, v3, v4, v5, v6⟩ := h
  have h9 : (10 : Int) ^ 6 < 10 ^ 12 := by decide
  exact ⟨by omega, by omega, by omega⟩
theorem showOk_plain {x : PySem.Str} {p : Pic} {c e a b R : Int} (h : PlF x R p) (hv : ValOk c e) (ha : a = (mad c e 9).1) (hb : b = (mad c e 9).2) : ShowOk x c e (drd a b R).1 (drd a b R).2 := by
  obtain ⟨h1, h2, h3, h4, h5, h6⟩ := h
  subst ha; subst hb; subst h4
  have hl := plain_law h3 hv
  have hd := drd_bd (R := p.right) (valOk_made hv) h3.2.2.1 h3.2.2.2.1
  have hq := valOk_bd hv
  exact ⟨p, h1, h2, hq.1, hq.2.1, hq.2.2, hd.1, hd.2.1, hd.2.2, hl.1, hl.2⟩
/-- the text of a picture with an exponent -/
def powS (k r : Int) : PySem.Str := Txt.mul (PySem.Str.ofString "#") k ++ (if 0 < r then PySem.Str.ofString "." ++ Txt.mul (PySem.Str.ofString "#") r else PySem.Str.ofString "") ++ PySem.Str.ofString "^^^^"
theorem lz_powS {k r : Int} : Lz (powS k r) = poD k.toNat r.toNat := by
  unfold powS poD
  by_cases h : 0 < r
  · rw [if_pos h, if_pos (by omega)]
    simp only [lz_append, lz_hash, lz_dot, o_cc, lz_st, List.append_assoc, List.cons_append, List.nil_append]
  · rw [if_neg h, if_neg (by omega)]
    simp only [lz_append, lz_hash, o_empty, o_cc, lz_st, List.append_assoc, List.nil_append]
theorem showOk_pow {c e a b k r : Int} (k0 : 2 ≤ k) (k1 : k ≤ 5) (r0 : 0 ≤ r) (r1 : r < 4) (hv : ValOk c e) (ha : a = (mad c e 9).1) (hb : b = (mad c e 9).2) : ShowOk (powS k r) c e (mad a b (k - 1 + r)).1 (mad a b (k - 1 + r)).2 := by
  have hk := chk_e k.toNat (by omega) (by omega) r.toNat (by omega)
  rw [← lz_powS] at hk
  generalize hD : powS k r = x at hk ⊢
  generalize hr : rdL (Lz x) = q at hk
  obtain ⟨q, n⟩ := q
  unfold chkE at hk
  simp only [Bool.and_eq_true, decide_eq_true_eq] at hk
  obtain ⟨h1, h2, h3, h4, h5⟩ := hk
  have h3' := picB_eq h3
  rw [show ((k.toNat : Nat) : Int) = k by omega, show ((r.toNat : Nat) : Int) = r by omega] at h3'
  rw [lz_length] at h2 h4 h5
  have hT : Tx x q := ⟨n, by rw [suf0, hr], by rw [suf0]; exact h1, by omega, by omega, by omega⟩
  have hE : ExpoPic q := by subst h3'; rfl
  have hX : ExP q := ⟨hE, by rw [h3'], by rw [h3']; exact k0, by rw [h3']; exact k1, by rw [h3']; exact r0, by rw [h3']; show r ≤ 3; omega, by rw [h3']; show decide (0 < r.toNat) = true ∨ r = 0; rw [decide_eq_true_eq]; omega⟩
  have hl := expo_law hX hv
  have hq := valOk_bd hv
  have hm := valOk_made hv
  rw [h3'] at hl
  simp only at hl
  rw [← ha, ← hb] at hl hm
  have h67 : (10 : Int) ^ 6 < 10 ^ 7 := by decide
  have hd := mad_bd (c := a) (e := b) (d := k - 1 + r) (by have := hm.1; omega) hm.2.1 hm.2.2.2.2.1 (by omega)
  refine ⟨q, hT, .inr ⟨hE, by rw [h3'], by rw [h3'], by rw [h3']; exact k0, by rw [h3']; show k ≤ 10; omega, by rw [h3']; exact r0, by rw [h3']; show r ≤ 10; omega⟩, hq.1, hq.2.1, hq.2.2, hd.1, hd.2.1, hd.2.2, ?_, ?_⟩
  · rw [h3']; exact hl.1
  · rw [h3']; exact hl.2
def menu2 (i : Nat) : PySem.Str := [PySem.Str.ofString "", PySem.Str.ofString "**"].getD i (PySem.Str.ofString "")
theorem menu2_len : ∀ i, (menu2 i).length ≤ 2
  | 0 => by decide +kernel
  | 1 => by decide +kernel
  | _ + 2 => by show (PySem.Str.ofString "").length ≤ 2; decide +kernel
theorem lz_menu2 : ∀ a, a < 2 → Lz (menu2 a) = if a = 0 then [] else [42, 42] := by decide +kernel
def widS (a c h : Int) : PySem.Str := menu2 a.toNat ++ Txt.mul (PySem.Str.ofString "#") 12 ++ Txt.mul (PySem.Str.ofString ",") c ++ PySem.Str.ofString "." ++ Txt.mul (PySem.Str.ofString "#") h
theorem lz_widS {a c h : Int} (a0 : 0 ≤ a) (a1 : a < 2) : Lz (widS a c h) = wdD a.toNat c.toNat h.toNat := by
  unfold widS wdD
  simp only [lz_append, lz_hash, lz_comma, lz_dot, lz_menu2 a.toNat (by omega), List.append_assoc, List.cons_append, List.nil_append]
  rfl
def OrderOk (x : PySem.Str) (c1 e1 c2 e2 : Int) : Prop := ∃ p a1 b1 a2 b2, Tx x p ∧ GP p ∧ (c1.natAbs : Int) < 10 ^ 12 ∧ -20 ≤ e1 ∧ e1 ≤ 20 ∧ (c2.natAbs : Int) < 10 ^ 12 ∧ -20 ≤ e2 ∧ e2 ≤ 20 ∧
  (a1.natAbs : Int) < 10 ^ 18 ∧ -60 ≤ b1 ∧ b1 ≤ 20 ∧ (a2.natAbs : Int) < 10 ^ 18 ∧ -60 ≤ b2 ∧ b2 ≤ 20 ∧ RdF (Lz (St (shw p c1 e1))) a1 b1 ∧ RdF (Lz (St (shw p c2 e2))) a2 b2 ∧
  (shw p c2 e2 < shw p c1 e1 ↔ a2 * 10 ^ (b2 - min b2 b1).toNat < a1 * 10 ^ (b1 - min b1 b2).toNat) ∧ (shw p c1 e1 < shw p c2 e2 ↔ a1 * 10 ^ (b1 - min b1 b2).toNat < a2 * 10 ^ (b2 - min b2 b1).toNat)
theorem orderOk_of {ka kc kh c1 e1 c2 e2 : Int} (a0 : 0 ≤ ka) (a1 : ka < 2) (d0 : 0 ≤ kc) (d1 : kc < 2) (h0 : 0 ≤ kh) (h1 : kh < 3) (hv1 : ValOk c1 e1) (hv2 : ValOk c2 e2) : OrderOk (widS ka kc kh) c1.natAbs e1 c2.natAbs e2 := by
  have hk := chk_w ka.toNat (by omega) kc.toNat (by omega) kh.toNat (by omega)
  rw [← lz_widS a0 a1] at hk
  generalize hD : widS ka kc kh = x at hk ⊢
  generalize hr : rdL (Lz x) = q at hk
  obtain ⟨p, n⟩ := q
  unfold chkW at hk
  simp only [Bool.and_eq_true, decide_eq_true_eq, Bool.not_eq_true', beq_iff_eq] at hk
  obtain ⟨g1, g2, g3, g4, g5, g6, g7, g8, g9, g10, g11, g12⟩ := hk
  rw [lz_length] at g2 g11 g12
  have hT : Tx x p := ⟨n, by rw [suf0, hr], by rw [suf0]; exact g1, by omega, by omega, by omega⟩
  have hW : WdP p := ⟨g3, g4, g5, g6, g7, g8, g9, g10⟩
  have u1 := valOk_abs hv1
  have u2 := valOk_abs hv2
  obtain ⟨x1, y1, x2, y2, l1, l2, l3, l4, l5, l6, l7, l8, l9, l10⟩ := order_law hW u1 u2 (by omega) (by omega)
  have b1 := valOk_bd u1
  have b2 := valOk_bd u2
  exact ⟨p, x1, y1, x2, y2, hT, .inl ⟨g3, by omega, by omega, g9, by omega⟩, b1.1, b1.2.1, b1.2.2, b2.1, b2.2.1, b2.2.2, l3, l4, l5, l6, l7, l8, l1, l2, l9, l10⟩

def vw : Program := view PySem.Challenge.rw_sa0063_01.row.prog [1, 2, 3, 4, 5, 6, 8, 9, 10, 11, 12, 13, 14, 15, 16, 17, 18, 19, 20, 21, 22, 23, 24, 25, 27, 28, 29, 30, 31, 32, 33, 34, 35, 36, 37, 38, 40, 41, 42, 43, 44, 45, 46]
theorem well_said : OpenLaw.wellSaid PySem.Challenge.rw_sa0063_01 = true := by
  delta OpenLaw.wellSaid OpenRow.wellSaid OpenRow.partSaid looksOpen
  repeat' (with_reducible refine look_both ?_ ?_)
  all_goals decide +kernel
local macro_rules | `(tactic| o_law) => `(tactic| (refine holds_law well_said fun said => ?_))
local macro_rules | `(tactic| o_head $H) => `(tactic| (
  refine holds_open (q := vw) (loose := [Str.ofString "BasicError"]) (Xt := fun s => xlAt vw [] s && recOk (RowW.records (OpenRow.toRowW PySem.Challenge.rw_sa0063_01.row)) s) (XP := XL vw []) (Yf := Hook.obs $H) (Ya := Hook.val $H) (YP := Hook.says $H) (N := 3532) ?$(Lean.mkIdent `hl) (Hook.of $H) (Hook.keeps $H) (fun s e => xl_of s (Bool.and_eq_true_iff.mp e).1) XL.keeps (by rfl) (by rfl) (by rfl) (fun s e => recFacts_of (Bool.and_eq_true_iff.mp e).2) (by rfl) (by first | assumption | decide +kernel) (by decide +kernel) ⟨rfl, rfl, rfl, rfl, rfl, by decide +kernel⟩ ?$(Lean.mkIdent `hw) ?$(Lean.mkIdent `hc)
  (case $(Lean.mkIdent `hl):ident => (intro w; kernel_rfl))))
open_top hd for PySem.Challenge.rw_sa0063_01
-- piece 099
-- needs: 02
abbrev tupO (vs : List Value) : Obj := { cls := .type "tuple", data := .seq vs.toArray }
/-- the contract of a def: at any state that the frames allow, with arguments that meet H over the ledger, it ends with R. -/
def Con (f : Addr) (d : Nat) (vs : List Value) (H : Params → List (Addr × Obj) → Prop) (R : Params → List (Addr × Obj) → Value → List (Addr × Obj) → Prop) : Prop :=
  ∀ (w : World) (mean : ExcName → Option Value) (mg mb : Str → Option Value) (dp un : Nat) (gd : Option (List Code)) (cn : Str) (cs : Scope) (a : Addr) (ccd : Value) (cl : List (Str × Addr)) (outer : List Env) (A₀ : Around) (base h₀ : Heap) (L : Addr) (m : Str → Option Value) (news : List (Addr × Obj)) (s : Shared) (Q E : Value → Shared → Prop),
    Below A₀ base outer h₀ → Fr h₀ L s.heap m → (hd.heap_1 w.params).In h₀ → News h₀ L s.heap news → Top vw (looseW vw [Str.ofString "BasicError"]) mean mg mb h₀ → cs.kind = .function → dp + d < recursionLimit → un + 8 * d < cLine → H w.params news →
    (∀ (v : Value) (nx : List (Addr × Obj)) (h' : Heap) (tk' : Nat), R w.params news v nx → Fr h₀ L h' m → News h₀ L h' nx → Q v { s with heap := h', toks := tk' }) →
    wpAny (model PySem.Challenge.rw_sa0063_01.row.prog w) (ktrTop dp un gd cn cs L a ccd cl outer) (call (.ref f) vs) Q E s

theorem con_use {f : Addr} {d : Nat} {vs : List Value} {H : Params → List (Addr × Obj) → Prop} {R : Params → List (Addr × Obj) → Value → List (Addr × Obj) → Prop} (C : Con f d vs H R)
    {w : World} {mean : ExcName → Option Value} {mg mb : Str → Option Value} {dp un : Nat} {gd : Option (List Code)} {cn : Str} {cs : Scope} {a : Addr} {ccd : Value} {cl : List (Str × Addr)} {outer : List Env} {A₀ : Around} {base h₀ : Heap} {L : Addr} {m : Str → Option Value} {news : List (Addr × Obj)} {s : Shared} {Q E : Value → Shared → Prop}
    (B : Below A₀ base outer h₀) (F : Fr h₀ L s.heap m) (X : (hd.heap_1 w.params).In h₀) (N : News h₀ L s.heap news) (T : Top vw (looseW vw [Str.ofString "BasicError"]) mean mg mb h₀) (hk : cs.kind = .function) (hH : H w.params news) (hd : dp + d < recursionLimit) (hu : un + 8 * d < cLine)
    (k : ∀ (v : Value) (nx : List (Addr × Obj)) (h' : Heap) (tk' : Nat), R w.params news v nx → Fr h₀ L h' m → News h₀ L h' nx → Q v { s with heap := h', toks := tk' }) :
    wpAny (model PySem.Challenge.rw_sa0063_01.row.prog w) (ktrTop dp un gd cn cs L a ccd cl outer) (call (.ref f) vs) Q E s :=
  C w mean mg mb dp un gd cn cs a ccd cl outer A₀ base h₀ L m news s Q E B F X N T hk hd hu hH k

section
variable {prog : Program} {w : World} {A : Around} {E : Value → Shared → Prop} {s : Shared} {a b : Int} {t u : Tok} {Q : Value → Shared → Prop}
theorem fdivP (hb : 0 < b) (hl : b.natAbs.log2 < 9000) (h : Q (.int (a / b) s.toks) { s with toks := s.toks + 1 }) : wpAny (model prog w) A (binaryOp .FloorDiv (.int a t) (.int b u)) Q E s :=
  floordiv_int (Int.ne_of_gt hb) (by rw [fdiv_pos hb]; exact h) (Or.inl (PyProof.noPylong_of_log2 hl))
theorem fmodP (hb : 0 < b) (h : Q (.int (a % b) s.toks) { s with toks := s.toks + 1 }) : wpAny (model prog w) A (binaryOp .Mod (.int a t) (.int b u)) Q E s :=
  mod_int' (Int.ne_of_gt hb) (by rw [fmod_pos hb]; exact h)
theorem minP {h₀ : Heap} {L : Addr} {m : Str → Option Value} {news : List (Addr × Obj)} (hh : A.handled = none) (F : Fr h₀ L s.heap m) (N : News h₀ L s.heap news)
    (h : ∀ u h' tk, Fr h₀ L h' m → News h₀ L h' news → Q (.int (min a b) u) { s with heap := h', toks := tk }) : wpAny (model prog w) A (call (.builtin "min") [.int a t, .int b u]) Q E s :=
  min_two_N hh F N fun h' tk F N => by rw [show (if b < a then b else a) = min a b from by split <;> omega]; exact h _ _ _ F N
theorem maxP {h₀ : Heap} {L : Addr} {m : Str → Option Value} {news : List (Addr × Obj)} (hh : A.handled = none) (F : Fr h₀ L s.heap m) (N : News h₀ L s.heap news)
    (h : ∀ u h' tk, Fr h₀ L h' m → News h₀ L h' news → Q (.int (max a b) u) { s with heap := h', toks := tk }) : wpAny (model prog w) A (call (.builtin "max") [.int a t, .int b u]) Q E s :=
  max_two_N hh F N fun h' tk F N => by rw [show (if b > a then b else a) = max a b from by split <;> omega]; exact h _ _ _ F N
theorem absP (h : ∀ u tk, Q (.int (a.natAbs : Int) u) { s with toks := tk }) : wpAny (model prog w) A (call (.builtin "abs") [.int a t]) Q E s :=
  call_abs_int fun u tk => by rw [show (if a < 0 then -a else a) = (a.natAbs : Int) from by split <;> omega]; exact h u tk
end
theorem lenLit {prog : Program} {w : World} {A : Around} {E : Value → Shared → Prop} {s : Shared} {l : Addr} {items : Array Value} {k : Int} {Q : Value → Shared → Prop} (hl : s.heap.IsList l items) (hk : (items.size : Int) = k) (hfit : k < 2 ^ 63)
    (h : Q (.int k (s.toks + 1)) { s with toks := s.toks + 1 + 1 }) : wpAny (model prog w) A (call (.builtin "len") [.ref l]) Q E s := by
  subst hk; exact len_list hl hfit h

-- piece 100
-- needs: 099 07
/-- the tokens of its keys and of three of its values -/
structure PTk where
  k1 : Tok
  k2 : Tok
  k3 : Tok
  k4 : Tok
  k5 : Tok
  k6 : Tok
  k7 : Tok
  k8 : Tok
  vl : Tok
  vr : Tok
  vs : Tok
abbrev picEs (P : Params) (p : Pic) (k : PTk) : List DictEntry := [
  ⟨PyData.keyHash P (Str.ofString "left"), .str (Str.ofString "left") k.k1, .int p.left k.vl⟩,
  ⟨PyData.keyHash P (Str.ofString "right"), .str (Str.ofString "right") k.k2, .int p.right k.vr⟩,
  ⟨PyData.keyHash P (Str.ofString "has_point"), .str (Str.ofString "has_point") k.k3, .bool p.point⟩,
  ⟨PyData.keyHash P (Str.ofString "has_star"), .str (Str.ofString "has_star") k.k4, .bool p.star⟩,
  ⟨PyData.keyHash P (Str.ofString "has_dollar"), .str (Str.ofString "has_dollar") k.k5, .bool p.dollar⟩,
  ⟨PyData.keyHash P (Str.ofString "has_comma"), .str (Str.ofString "has_comma") k.k6, .bool p.comma⟩,
  ⟨PyData.keyHash P (Str.ofString "has_exponent"), .str (Str.ofString "has_exponent") k.k7, .bool p.expo⟩,
  ⟨PyData.keyHash P (Str.ofString "sign"), .str (Str.ofString "sign") k.k8, .str p.sign k.vs⟩]
/-- the ledger bears the picture p at X -/
def PicAt (P : Params) (news : List (Addr × Obj)) (X : Addr) (p : Pic) : Prop :=
  ∃ dx k n, (X, instObj 82 dx) ∈ news ∧ (dx, dictOf (picEs P p k) n) ∈ news

-- piece 102
-- needs: 100 08
/-- values without their tokens and addresses -/
inductive PV where
  | i (n : Int) | s (x : PySem.Str) | b (x : Bool) | nn | f (a : Addr) | ty (n : String) | pc (p : Pic) | t2 (x y : PV) | t3 (x y z : PV) | l0 | l1 (x : PV) | l2 (x y : PV) | l3 (x y z : PV)
  | li (xs : List Int) | ls (xs : List PySem.Str)
  | sk (xs : List Int) (t : Int) -- what a sack holds
  | pp (j : Nat) -- a picture under way: the first j names of pic0
  | mu (D : Addr) (c : PV) -- a thing that may change yet, and what it holds
  | w (z : Str) (v : PV) (D : Addr) (c : PV) -- v comes back; what the name z holds, D, then holds c
/-- the value v is x, by the ledger or the text's top -/
def RV1 (P : Params) (nl : List (Addr × Obj)) : PV → Value → Prop
  | .i n, v => ∃ t, v = .int n t
  | .s x, v => ∃ t, v = .str x t
  | .b x, v => v = .bool x
  | .nn, v => v = .none
  | .f a, v => v = .ref a
  | .ty n, v => v = .type n
  | .pc p, v => ∃ X, v = .ref X ∧ PicAt P nl X p
  | .t2 x y, v => ∃ D v1 v2, v = .ref D ∧ ((D, tupO [v1, v2]) ∈ nl ∨ (hd.heap_1 P).lookup D = some (tupO [v1, v2])) ∧ RV1 P nl x v1 ∧ RV1 P nl y v2
  | .t3 x y z, v => ∃ D v1 v2 v3, v = .ref D ∧ ((D, tupO [v1, v2, v3]) ∈ nl ∨ (hd.heap_1 P).lookup D = some (tupO [v1, v2, v3])) ∧ RV1 P nl x v1 ∧ RV1 P nl y v2 ∧ RV1 P nl z v3
  | .l0, v => ∃ D n, v = .ref D ∧ (D, listOf #[] n) ∈ nl
  | .l1 x, v => ∃ D v1 n, v = .ref D ∧ (D, listOf #[v1] n) ∈ nl ∧ RV1 P nl x v1
  | .l2 x y, v => ∃ D v1 v2 n, v = .ref D ∧ (D, listOf #[v1, v2] n) ∈ nl ∧ RV1 P nl x v1 ∧ RV1 P nl y v2
  | .l3 x y z, v => ∃ D v1 v2 v3 n, v = .ref D ∧ (D, listOf #[v1, v2, v3] n) ∈ nl ∧ RV1 P nl x v1 ∧ RV1 P nl y v2 ∧ RV1 P nl z v3
  | .li xs, v => ∃ D ws n, v = .ref D ∧ (D, listOf (List.toArray ws) n) ∈ nl ∧ IntsAre ws xs
  | .ls xs, v => ∃ D ws n, v = .ref D ∧ (D, listOf (List.toArray ws) n) ∈ nl ∧ StrsAre ws xs
  | .sk _ _, _ => False
  | .pp _, _ => False
  | .mu _ _, _ => False
  | .w _ _ _ _, _ => False
theorem RV1.mono {P : Params} {nl nl' : List (Addr × Obj)} (h : ∀ p ∈ nl, p ∈ nl') : ∀ {x : PV} {v : Value}, RV1 P nl x v → RV1 P nl' x v
  | .i _, _, r => r
  | .s _, _, r => r
  | .b _, _, r => r
  | .nn, _, r => r
  | .f _, _, r => r
  | .ty _, _, r => r
  | .pc _, _, ⟨X, e, dx, k, n, m1, m2⟩ => ⟨X, e, dx, k, n, h _ m1, h _ m2⟩
  | .t2 _ _, _, ⟨D, v1, v2, e, m, r1, r2⟩ => ⟨D, v1, v2, e, m.imp (h _) id, RV1.mono h r1, RV1.mono h r2⟩
  | .t3 _ _ _, _, ⟨D, v1, v2, v3, e, m, r1, r2, r3⟩ => ⟨D, v1, v2, v3, e, m.imp (h _) id, RV1.mono h r1, RV1.mono h r2, RV1.mono h r3⟩
  | .l0, _, ⟨D, n, e, m⟩ => ⟨D, n, e, h _ m⟩
  | .l1 _, _, ⟨D, v1, n, e, m, r1⟩ => ⟨D, v1, n, e, h _ m, RV1.mono h r1⟩
  | .l2 _ _, _, ⟨D, v1, v2, n, e, m, r1, r2⟩ => ⟨D, v1, v2, n, e, h _ m, RV1.mono h r1, RV1.mono h r2⟩
  | .l3 _ _ _, _, ⟨D, v1, v2, v3, n, e, m, r1, r2, r3⟩ => ⟨D, v1, v2, v3, n, e, h _ m, RV1.mono h r1, RV1.mono h r2, RV1.mono h r3⟩
  | .li _, _, ⟨D, ws, n, e, m, r⟩ => ⟨D, ws, n, e, h _ m, r⟩
  | .ls _, _, ⟨D, ws, n, e, m, r⟩ => ⟨D, ws, n, e, h _ m, r⟩
/-- the ledger: what stays as it is, what may change yet -/
structure LG where
  z : List (Addr × Obj)
  l : List (Addr × Obj)
/-- what may change is the thing D, and holds c -/
def MAt (P : Params) (z l : List (Addr × Obj)) (D : Addr) : PV → Prop
  | .pc p => ∃ dx k n, l = [(D, instObj 82 dx), (dx, dictOf (picEs P p k) n)]
  | .pp j => ∃ dx k n, l = [(D, instObj 82 dx), (dx, dictOf ((picEs P pic0 k).take j) n)]
  | .l0 => ∃ n, l = [(D, listOf #[] n)]
  | .l1 x => ∃ n v1, l = [(D, listOf #[v1] n)] ∧ RV1 P z x v1
  | .l2 x y => ∃ n v1 v2, l = [(D, listOf #[v1, v2] n)] ∧ RV1 P z x v1 ∧ RV1 P z y v2
  | .l3 x y t => ∃ n v1 v2 v3, l = [(D, listOf #[v1, v2, v3] n)] ∧ RV1 P z x v1 ∧ RV1 P z y v2 ∧ RV1 P z t v3
  | .sk xs t => ∃ n y tk, l = [(D, listOf #[y, .int t tk] n)] ∧ RV1 P z (.li xs) y
  | _ => False
theorem MAt.mono {P : Params} {z z' l : List (Addr × Obj)} {D : Addr} (h : ∀ p ∈ z, p ∈ z') : ∀ {c : PV}, MAt P z l D c → MAt P z' l D c
  | .pc _, r => r
  | .pp _, r => r
  | .l0, r => r
  | .l1 _, ⟨n, v1, e, r⟩ => ⟨n, v1, e, r.mono h⟩
  | .l2 _ _, ⟨n, v1, v2, e, r, r'⟩ => ⟨n, v1, v2, e, r.mono h, r'.mono h⟩
  | .l3 _ _ _, ⟨n, v1, v2, v3, e, r, r', r''⟩ => ⟨n, v1, v2, v3, e, r.mono h, r'.mono h, r''.mono h⟩
  | .sk _ _, ⟨n, y, tk, e, r⟩ => ⟨n, y, tk, e, r.mono h⟩
/-- what a def's frame is made of -/
structure Fx where
  w : World
  mean : ExcName → Option Value
  mg : Str → Option Value
  mb : Str → Option Value
  dp : Nat
  un : Nat
  gd : Option (List Code)
  cn : Str
  cs : Scope
  L : Addr
  a : Addr
  ccd : Value
  cl : List (Str × Addr)
  outer : List Env
  A₀ : Around
  base : Heap
  g : Heap
  nw : List (Addr × Obj)
  ml : List (Addr × Obj)
def Fx.env (C : Fx) : Env := envX C.cn C.cs C.L C.a C.ccd C.cl
def Fx.A (C : Fx) : Around := ktrTop C.dp C.un C.gd C.cn C.cs C.L C.a C.ccd C.cl C.outer
/-- the def's scope and the room below -/
structure FI where
  sc : Scope
  k : Nat
structure Fx.Ok (F : FI) (C : Fx) : Prop where
  B : Below C.A₀ C.base C.outer C.g
  X : (hd.heap_1 C.w.params).In C.g
  T : Top vw (looseW vw [Str.ofString "BasicError"]) C.mean C.mg C.mb C.g
  sc : C.cs = F.sc
  fn : F.sc.kind = .function
  hd : C.dp + F.k < recursionLimit
  hu : C.un + 8 * F.k < cLine
  lo : ∀ z, F.sc.names.lookup z = some .local → C.cl.lookup z = none
/-- the names that are known, with their values -/
abbrev Nms := List (Str × PV)
/-- what a name holds -/
def RVm (P : Params) (nl : LG) (y : PV) (v : Value) : Prop := match y with
  | .mu D c => v = .ref D ∧ MAt P nl.z nl.l D c
  | y => RV1 P nl.z y v
def isMu : PV → Bool
  | .mu _ _ => true
  | _ => false
theorem RVm.of {P : Params} {nl : LG} {y : PV} {v : Value} (r : RV1 P nl.z y v) : RVm P nl y v := by
  cases y <;> first | exact r | exact r.elim
theorem RVm.out {P : Params} {nl : LG} {y : PV} {v : Value} (r : RVm P nl y v) (h : isMu y = false) : RV1 P nl.z y v := by
  cases y <;> first | exact r | cases h
theorem RVm.mono {P : Params} {nl nl' : LG} {y : PV} {v : Value} (r : RVm P nl y v) (h : ∀ p ∈ nl.z, p ∈ nl'.z) (e : nl'.l = nl.l) : RVm P nl' y v := by
  cases hm : isMu y with
  | false => exact .of ((r.out hm).mono h)
  | true => cases y <;> first | cases hm; done | exact ⟨r.1, by rw [e]; exact r.2.mono h⟩
/-- the names that are handed in -/
def REnv0 (P : Params) (nl : LG) (ρ : Nms) (m : Str → Option Value) : Prop := ∀ x y, ρ.lookup x = some y → ∃ v, m x = some v ∧ RVm P nl y v
/-- the name x holds v: in the frame, or in its cell -/
def NmAt (C : Fx) (nl : LG) (m : Str → Option Value) (x : Str) (v : Value) : Prop := (C.cl.lookup x = none ∧ m x = some v) ∨ ∃ a o, C.cl.lookup x = some a ∧ (a, o) ∈ nl.z ∧ o.data = .cell (some v)
theorem NmAt.mono {C : Fx} {nl nl' : LG} {m : Str → Option Value} {x : Str} {v : Value} (h : NmAt C nl m x v) (hs : ∀ p ∈ nl.z, p ∈ nl'.z) : NmAt C nl' m x v := h.imp id fun ⟨a, o, e, hm, hd⟩ => ⟨a, o, e, hs _ hm, hd⟩
theorem NmAt.loc {C : Fx} {nl : LG} {m : Str → Option Value} {x : Str} {v : Value} (h : NmAt C nl m x v) (e : C.cl.lookup x = none) : m x = some v := by
  rcases h with h | ⟨a, o, e', _⟩
  · exact h.2
  · rw [e] at e'; cases e'
theorem NmAt.push {C : Fx} {nl : LG} {m : Str → Option Value} {x z : Str} {v w : Value} (h : NmAt C nl m x v) (e : (x == z) = false) : NmAt C nl (fun y => if y = z then some w else m y) x v := h.imp (fun h => ⟨h.1, (if_neg (fun q => by rw [q] at e; simp at e)).trans h.2⟩) id
def REnv (C : Fx) (nl : LG) (ρ : Nms) (m : Str → Option Value) : Prop := ∀ x y, ρ.lookup x = some y → ∃ v, NmAt C nl m x v ∧ RVm C.w.params nl y v
theorem REnv.mono {C : Fx} {nl nl' : LG} {ρ : Nms} {m : Str → Option Value} (r : REnv C nl ρ m) (h : ∀ p ∈ nl.z, p ∈ nl'.z) (e : nl'.l = nl.l) : REnv C nl' ρ m := fun x y hx => (r x y hx).imp fun _ hv => ⟨hv.1.mono h, hv.2.mono h e⟩
/-- no place in common -/
def Off (a b : List (Addr × Obj)) : Prop := ∀ p ∈ a, ∀ q ∈ b, @Ne Nat p.1 q.1
theorem Off.grow {a b : List (Addr × Obj)} {D : Addr} {o : Obj} (h : Off a b) (hl : ∀ p ∈ a ++ b, @LT.lt Nat _ p.1 D) : Off ((D, o) :: a) b := fun p hp q hq => by
  rcases List.mem_cons.mp hp with rfl | hp
  · exact Nat.ne_of_gt (hl q (List.mem_append_right _ hq))
  · exact h p hp q hq
structure PSt (F : FI) (C : Fx) (ρ : Nms) (nl : LG) (s : Shared) : Prop where
  ok : C.Ok F
  F : ∃ m, Fr C.g C.L s.heap m ∧ REnv C nl ρ m
  N : News C.g C.L s.heap (nl.z ++ (nl.l ++ C.ml))
  off : Off nl.z (nl.l ++ C.ml)
  offl : Off nl.l C.ml
  sub : ∀ p ∈ C.nw, p ∈ nl.z
abbrev PM (C : Fx) : Model := model PySem.Challenge.rw_sa0063_01.row.prog C.w
theorem PSt.upd {F : FI} {C : Fx} {ρ ρ' : Nms} {nl : LG} {s s' : Shared} (P : PSt F C ρ nl s) (hF : ∃ m, Fr C.g C.L s'.heap m ∧ REnv C nl ρ' m) (N : News C.g C.L s'.heap (nl.z ++ (nl.l ++ C.ml))) : PSt F C ρ' nl s' := ⟨P.ok, hF, N, P.off, P.offl, P.sub⟩
/-- one thing more that stays -/
theorem PSt.more {F : FI} {C : Fx} {ρ : Nms} {nl : LG} {s s' : Shared} {m : Str → Option Value} {D : Addr} {o : Obj} (P : PSt F C ρ nl s) (hR : REnv C nl ρ m) (hF : Fr C.g C.L s'.heap m) (N : News C.g C.L s'.heap ((D, o) :: (nl.z ++ (nl.l ++ C.ml)))) (hl : ∀ p ∈ nl.z ++ (nl.l ++ C.ml), @LT.lt Nat _ p.1 D) : PSt F C ρ ⟨(D, o) :: nl.z, nl.l⟩ s' :=
  ⟨P.ok, ⟨m, hF, hR.mono (fun _ h => .tail _ h) rfl⟩, N, P.off.grow hl, P.offl, fun p hp => .tail _ (P.sub p hp)⟩
theorem PSt.mem {F : FI} {C : Fx} {ρ : Nms} {nl : LG} {s : Shared} (_ : PSt F C ρ nl s) {p : Addr × Obj} (h : p ∈ nl.z) : p ∈ nl.z ++ (nl.l ++ C.ml) := List.mem_append_left _ h
theorem PSt.mel {F : FI} {C : Fx} {ρ : Nms} {nl : LG} {s : Shared} (_ : PSt F C ρ nl s) {p : Addr × Obj} (h : p ∈ nl.l) : p ∈ nl.z ++ (nl.l ++ C.ml) := List.mem_append_right _ (List.mem_append_left _ h)
/-- e is the value v; the names are then ρ' -/
structure EM (F : FI) (C : Fx) (ρ : Nms) (e : PySem.Expr) (v : PV) (ρ' : Nms) : Prop where
  go : ∀ (s : Shared) (nl : LG) (Q E : Value → Shared → Prop), PSt F C ρ nl s →
    (∀ y h tk nl', PSt F C ρ' nl' { s with heap := h, toks := tk } → (∀ p ∈ nl.z, p ∈ nl'.z) → RV1 C.w.params nl'.z v y → Q y { s with heap := h, toks := tk }) → wpAny (PM C) C.A (eval e C.env) Q E s
/-- e is the value v -/
abbrev EV (F : FI) (C : Fx) (ρ : Nms) (e : PySem.Expr) (v : PV) : Prop := EM F C ρ e v ρ
/-- the test e is b -/
structure EC (F : FI) (C : Fx) (ρ : Nms) (e : PySem.Expr) (b : Bool) (ρ' : Nms) : Prop where
  go : ∀ (s : Shared) (nl : LG) (Q : Bool → Shared → Prop) (E : Value → Shared → Prop) (whole : Sem Value), PSt F C ρ nl s → whole = eval e C.env →
    (∀ h tk nl', PSt F C ρ' nl' { s with heap := h, toks := tk } → (∀ p ∈ nl.z, p ∈ nl'.z) → Q b { s with heap := h, toks := tk }) → wpAny (PM C) C.A (PySem.isTrue e C.env whole) Q E s
abbrev EB (F : FI) (C : Fx) (ρ : Nms) (e : PySem.Expr) (b : Bool) : Prop := EC F C ρ e b ρ
/-- how a block ends -/
inductive Out where
  | nx (ρ : Nms)
  | rt (v : PV)
/-- the value that comes back, and what is then known -/
def retV : PV → PV
  | .w _ v _ _ => v
  | v => v
def retE : PV → Nms
  | .w z _ D c => [(z, .mu D c)]
  | _ => []
theorem retV_eq {P : Params} {nl : List (Addr × Obj)} {v : PV} {y : Value} (r : RV1 P nl v y) : retV v = v ∧ retE v = [] := by
  cases v <;> first | exact ⟨rfl, rfl⟩ | exact r.elim
structure SS (F : FI) (C : Fx) (ρ : Nms) (b : List Stmt) (K : Out → Prop) : Prop where
  go : ∀ (s : Shared) (nl : LG) (Q : Flow → Shared → Prop) (E : Value → Shared → Prop), PSt F C ρ nl s → PassesOwn (PM C) C.A C.env E →
    (∀ ρ' h tk nl', K (.nx ρ') → PSt F C ρ' nl' { s with heap := h, toks := tk } → (∀ p ∈ nl.z, p ∈ nl'.z) → Q .next { s with heap := h, toks := tk }) →
    (∀ v y h tk nl', K (.rt v) → PSt F C (retE v) nl' { s with heap := h, toks := tk } → (∀ p ∈ nl.z, p ∈ nl'.z) → RV1 C.w.params nl'.z (retV v) y → Q (.ret y) { s with heap := h, toks := tk }) →
    wpAny (PM C) C.A (execs b C.env) Q E s
section
variable {F : FI} {C : Fx} {ρ ρ1 ρ2 : Nms} {s : Shared} {nl nl' : LG} {e e1 e2 e3 : PySem.Expr} {a b n : Int} {x y : PySem.Str} {p p1 p2 p3 : Pos} {u v v1 v2 v3 : PV} {rest body orelse : List Stmt} {K : Out → Prop} {b' : Bool}
theorem PSt.tk (P : PSt F C ρ nl s) {k : Nat} : PSt F C ρ nl { s with toks := k } := P.upd P.F P.N
theorem EV.int {k : Nat} : EV F C ρ (.Constant (.int n) k p) (.i n) := ⟨fun s nl _ _ P q => wpAny_Constant_int (q _ _ _ nl P.tk (fun _ h => h) ⟨_, rfl⟩)⟩
theorem EV.str {k : Nat} : EV F C ρ (.Constant (.str x) k p) (.s x) := ⟨fun s nl _ _ P q => Calls.Constant_str (q _ _ _ nl P.tk (fun _ h => h) ⟨_, rfl⟩)⟩
theorem EV.nm {z : Str} (h : ρ.lookup z = some v) (hx : F.sc.names.lookup z = some .local) (hd : (z == Str.ofString "__debug__") = false) (hm : isMu v = false := by rfl) : EV F C ρ (.Name z p) v := ⟨fun s nl _ _ P q => by
  obtain ⟨m, hF, hR⟩ := P.F
  obtain ⟨y, hy, r⟩ := hR z v h
  have hy := hy.loc (P.ok.lo z hx)
  have r := r.out hm
  refine wpAny_Name (wpAny_loadName_local (by show C.cs.kind = _; rw [P.ok.sc]; exact P.ok.fn) ?_ hF.ns hy (q y _ _ nl P.tk (fun _ h => h) r)) hd
  show C.cs.names.lookup z = _
  rw [P.ok.sc]; exact hx⟩
/-- the name of a thing that may change -/
theorem EV.nmM {z : Str} {D : Addr} {c : PV} (h : ρ.lookup z = some (.mu D c)) (hx : F.sc.names.lookup z = some .local) (hd : (z == Str.ofString "__debug__") = false) : EV F C ρ (.Name z p) (.f D) := ⟨fun s nl _ _ P q => by
  obtain ⟨m, hF, hR⟩ := P.F
  obtain ⟨y, hy, r⟩ := hR z _ h
  have hy := hy.loc (P.ok.lo z hx)
  refine wpAny_Name (wpAny_loadName_local (by show C.cs.kind = _; rw [P.ok.sc]; exact P.ok.fn) ?_ hF.ns hy (q y _ _ nl P.tk (fun _ h => h) r.1)) hd
  show C.cs.names.lookup z = _
  rw [P.ok.sc]; exact hx⟩
theorem EV.bin {op : Operator} (h1 : EM F C ρ e1 v1 ρ1) (h2 : EM F C ρ1 e2 v2 ρ2) (h : ∀ (s : Shared) nl y1 y2 Q E, PSt F C ρ2 nl s → RV1 C.w.params nl.z v1 y1 → RV1 C.w.params nl.z v2 y2 → (∀ y tk, RV1 C.w.params nl.z v y → Q y { s with toks := tk }) → wpAny (PM C) C.A (binaryOp op y1 y2) Q E s) :
    EM F C ρ (.BinOp e1 op e2 p) v ρ2 := ⟨fun s nl _ _ P q => wpAny_BinOp (h1.go s nl _ _ P fun y1 _ _ nl1 P1 s1 r1 => h2.go _ nl1 _ _ P1 fun y2 _ _ nl2 P2 s2 r2 => h _ nl2 y1 y2 _ _ P2 (r1.mono s2) r2 fun y tk r => q y _ tk nl2 P2.tk (fun p hp => s2 p (s1 p hp)) r)⟩
theorem EV.add (h1 : EM F C ρ e1 (.i a) ρ1) (h2 : EM F C ρ1 e2 (.i b) ρ2) : EM F C ρ (.BinOp e1 .Add e2 p) (.i (a + b)) ρ2 := EV.bin h1 h2 fun _ _ _ _ _ _ _ ⟨_, r1⟩ ⟨_, r2⟩ q => by subst r1; subst r2; exact add_int (q _ _ ⟨_, rfl⟩)
theorem EV.sub (h1 : EM F C ρ e1 (.i a) ρ1) (h2 : EM F C ρ1 e2 (.i b) ρ2) : EM F C ρ (.BinOp e1 .Sub e2 p) (.i (a - b)) ρ2 := EV.bin h1 h2 fun _ _ _ _ _ _ _ ⟨_, r1⟩ ⟨_, r2⟩ q => by subst r1; subst r2; exact sub_int (q _ _ ⟨_, rfl⟩)
theorem EV.mul (h1 : EM F C ρ e1 (.i a) ρ1) (h2 : EM F C ρ1 e2 (.i b) ρ2) (h : PySem.IntMulOk a b) : EM F C ρ (.BinOp e1 .Mult e2 p) (.i (a * b)) ρ2 := EV.bin h1 h2 fun _ _ _ _ _ _ _ ⟨_, r1⟩ ⟨_, r2⟩ q => by subst r1; subst r2; exact mul_int (q _ _ ⟨_, rfl⟩) h
theorem EV.fdv (h1 : EM F C ρ e1 (.i a) ρ1) (h2 : EM F C ρ1 e2 (.i b) ρ2) (hb : 0 < b) (hl : b.natAbs.log2 < 9000) : EM F C ρ (.BinOp e1 .FloorDiv e2 p) (.i (a / b)) ρ2 := EV.bin h1 h2 fun _ _ _ _ _ _ _ ⟨_, r1⟩ ⟨_, r2⟩ q => by subst r1; subst r2; exact fdivP hb hl (q _ _ ⟨_, rfl⟩)
theorem EV.fmd (h1 : EM F C ρ e1 (.i a) ρ1) (h2 : EM F C ρ1 e2 (.i b) ρ2) (hb : 0 < b) : EM F C ρ (.BinOp e1 .Mod e2 p) (.i (a % b)) ρ2 := EV.bin h1 h2 fun _ _ _ _ _ _ _ ⟨_, r1⟩ ⟨_, r2⟩ q => by subst r1; subst r2; exact fmodP hb (q _ _ ⟨_, rfl⟩)
theorem EV.cast (h : EM F C ρ e v1 ρ1) (he : v1 = v2) : EM F C ρ e v2 ρ1 := he ▸ h
theorem EB.cmp {op : CmpOp} {c : Bool} (h1 : EM F C ρ e1 v1 ρ1) (h2 : EM F C ρ1 e2 v2 ρ2) (hm : behindInMarks op e2 = false) (h : ∀ (s : Shared) nl y1 y2 Q E, PSt F C ρ2 nl s → RV1 C.w.params nl.z v1 y1 → RV1 C.w.params nl.z v2 y2 → Q (.bool c) s → wpAny (PM C) C.A (compareOp op y1 y2) Q E s) :
    EC F C ρ (.Compare e1 [op] [e2] p) c ρ2 := ⟨fun s nl _ _ _ P _ q => wpAny_isTrue_Compare1 (h1.go s nl _ _ P fun y1 _ _ nl1 P1 s1 r1 => h2.go _ nl1 _ _ P1 fun y2 _ _ nl2 P2 s2 r2 => h _ nl2 y1 y2 _ _ P2 (r1.mono s2) r2 (wpAny_truthy_bool (q _ _ nl2 P2 fun p hp => s2 p (s1 p hp)))) hm⟩
theorem EB.lt (h1 : EM F C ρ e1 (.i a) ρ1) (h2 : EM F C ρ1 e2 (.i b) ρ2) (hm : behindInMarks .Lt e2 = false) : EC F C ρ (.Compare e1 [.Lt] [e2] p) (decide (a < b)) ρ2 := EB.cmp h1 h2 hm fun _ _ _ _ _ _ _ ⟨_, r1⟩ ⟨_, r2⟩ q => by subst r1; subst r2; exact lt_int q
theorem EB.le (h1 : EM F C ρ e1 (.i a) ρ1) (h2 : EM F C ρ1 e2 (.i b) ρ2) (hm : behindInMarks .LtE e2 = false) : EC F C ρ (.Compare e1 [.LtE] [e2] p) (decide (a ≤ b)) ρ2 := EB.cmp h1 h2 hm fun _ _ _ _ _ _ _ ⟨_, r1⟩ ⟨_, r2⟩ q => by subst r1; subst r2; exact le_int q
theorem EB.gt (h1 : EM F C ρ e1 (.i a) ρ1) (h2 : EM F C ρ1 e2 (.i b) ρ2) (hm : behindInMarks .Gt e2 = false) : EC F C ρ (.Compare e1 [.Gt] [e2] p) (decide (b < a)) ρ2 := EB.cmp h1 h2 hm fun _ _ _ _ _ _ _ ⟨_, r1⟩ ⟨_, r2⟩ q => by subst r1; subst r2; exact gt_int q
theorem EB.ge (h1 : EM F C ρ e1 (.i a) ρ1) (h2 : EM F C ρ1 e2 (.i b) ρ2) (hm : behindInMarks .GtE e2 = false) : EC F C ρ (.Compare e1 [.GtE] [e2] p) (decide (b ≤ a)) ρ2 := EB.cmp h1 h2 hm fun _ _ _ _ _ _ _ ⟨_, r1⟩ ⟨_, r2⟩ q => by subst r1; subst r2; exact ge_int q
theorem EB.eq (h1 : EM F C ρ e1 (.i a) ρ1) (h2 : EM F C ρ1 e2 (.i b) ρ2) (hm : behindInMarks .Eq e2 = false) : EC F C ρ (.Compare e1 [.Eq] [e2] p) (a == b) ρ2 := EB.cmp h1 h2 hm fun _ _ _ _ _ _ _ ⟨_, r1⟩ ⟨_, r2⟩ q => by subst r1; subst r2; exact eq_int q
/-- behind a statement that ends without leaving: the rest -/
def KS (F : FI) (C : Fx) (rest : List Stmt) (K : Out → Prop) : Out → Prop
  | .nx ρ' => SS F C ρ' rest K
  | .rt v => K (.rt v)
def Sub (ρ' ρ : Nms) : Prop := ∀ x y, ρ'.lookup x = some y → ρ.lookup x = some y
theorem Sub.nil {ρ : Nms} : Sub [] ρ := fun _ _ h => nomatch h
theorem Sub.cons {ρ ρ' : Nms} {z : Str} (h : ρ.lookup z = some v) (hs : Sub ρ' ρ) : Sub ((z, v) :: ρ') ρ := fun x y hx => by
  rw [List.lookup_cons] at hx
  cases hz : (x == z) with
  | true => rw [hz] at hx; obtain rfl := eq_of_beq hz; rw [h]; exact hx
  | false => rw [hz] at hx; exact hs x y hx
theorem PSt.env {ρ' : Nms} (P : PSt F C ρ nl s) (h : Sub ρ' ρ) : PSt F C ρ' nl s := P.upd (P.F.imp fun _ hm => ⟨hm.1, fun x y hx => hm.2 x y (h x y hx)⟩) P.N
theorem SS.nil (h : K (.nx ρ)) : SS F C ρ [] K := ⟨fun s nl _ _ P _ kn _ => wpAny_execs_nil (kn ρ _ _ nl h P fun _ h => h)⟩
theorem SS.env {ρ' : Nms} {b : List Stmt} (h : Sub ρ' ρ) (hb : SS F C ρ' b K) : SS F C ρ b K := ⟨fun s nl Q E P O kn kr => hb.go s nl Q E (P.env h) O kn kr⟩
theorem PSt.storeM {z : Str} {y : Value} {Q : Unit → Shared → Prop} {E : Value → Shared → Prop} (P : PSt F C ρ nl s) (r : RVm C.w.params nl v y) (hx : F.sc.names.lookup z = some .local) (k : ∀ h tk, PSt F C ((z, v) :: ρ) nl { s with heap := h, toks := tk } → Q () { s with heap := h, toks := tk }) :
    wpAny (PM C) C.A (storeName C.env z y) Q E s := by
  obtain ⟨m, hF, hR⟩ := P.F
  refine storeX_L hF P.N (fun h' F' N' => k h' _ (P.upd ⟨_, F', fun x w hq => ?_⟩ N')) (by rw [P.ok.sc]; exact P.ok.fn) (by show C.cs.names.lookup z = _; rw [P.ok.sc]; exact hx)
  rw [List.lookup_cons] at hq
  cases hz : (x == z) with
  | true => rw [hz] at hq; obtain rfl := Option.some.inj hq; exact ⟨y, .inl ⟨by rw [eq_of_beq hz]; exact P.ok.lo z hx, if_pos (eq_of_beq hz)⟩, r⟩
  | false =>
    rw [hz] at hq
    obtain ⟨u, hu, ru⟩ := hR x w hq
    exact ⟨u, hu.push hz, ru⟩
theorem PSt.store {z : Str} {y : Value} {Q : Unit → Shared → Prop} {E : Value → Shared → Prop} (P : PSt F C ρ nl s) (r : RV1 C.w.params nl.z v y) (hx : F.sc.names.lookup z = some .local) (k : ∀ h tk, PSt F C ((z, v) :: ρ) nl { s with heap := h, toks := tk } → Q () { s with heap := h, toks := tk }) :
    wpAny (PM C) C.A (storeName C.env z y) Q E s := P.storeM (.of r) hx k
theorem SS.asg {z : Str} (he : EM F C ρ e v ρ1) (hx : F.sc.names.lookup z = some .local) (hsw : ∀ cn L a ccd cl, swapsWith e (some (.Name z p1)) p.line (envX cn F.sc L a ccd cl) = pure false) (hr : SS F C ((z, v) :: ρ1) rest K) : SS F C ρ (.Assign [.Name z p1] e p :: rest) K :=
  ⟨fun s nl Q E P O kn kr => wpAny_execs_cons (wpAny_Assign_Name (he.go s nl _ _ P fun y _ _ nl1 P1 s1 r => P1.store r hx fun h tk P2 => hr.go _ nl1 Q E P2 O (fun ρ' h tk nl' k P' s' => kn ρ' h tk nl' k P' fun p hp => s' p (s1 p hp)) fun v y h tk nl' k P' s' r => kr v y h tk nl' k P' (fun p hp => s' p (s1 p hp)) r) (by have := hsw C.cn C.L C.a C.ccd C.cl; rw [← P.ok.sc] at this; exact this))⟩
theorem SS.ret (he : EV F C ρ e v) (hk : K (.rt v)) : SS F C ρ (.Return (some e) p :: rest) K :=
  ⟨fun s nl Q E P O kn kr => wpAny_execs_cons (wpAny_Return_some (he.go s nl _ _ P fun y h tk nl1 P1 s1 r => kr v y h tk nl1 hk (by rw [(retV_eq r).2]; exact P1.env .nil) s1 (by rw [(retV_eq r).1]; exact r)))⟩
theorem SS.ite (hb : EC F C ρ e b' ρ1) (h1 : b' = true → SS F C ρ1 body (KS F C rest K)) (h2 : b' = false → SS F C ρ1 orelse (KS F C rest K)) : SS F C ρ (.If e body orelse p :: rest) K :=
  ⟨fun s nl Q E P O kn kr => wpAny_execs_cons (wpAny_If (hb.go s nl _ _ _ P rfl fun h tk nl' P' s' => by
    have go : ∀ {bd : List Stmt}, SS F C ρ1 bd (KS F C rest K) → wpAny (PM C) C.A (execs bd C.env) (fun f s' => match f with | .next => wpAny (PM C) C.A (execs rest C.env) Q E s' | f => Q f s') E { s with heap := h, toks := tk } := fun hs =>
      hs.go _ nl' _ E P' O (fun ρ' h tk nl'' k P'' s'' => SS.go k _ nl'' Q E P'' O (fun ρ' h tk nl' k P' s3 => kn ρ' h tk nl' k P' fun p hp => s3 p (s'' p (s' p hp))) fun v y h tk nl' k P' s3 r => kr v y h tk nl' k P' (fun p hp => s3 p (s'' p (s' p hp))) r)
        fun v y h tk nl'' k P'' s'' r => kr v y h tk nl'' k P'' (fun p hp => s'' p (s' p hp)) r
    cases hq : b' with
    | true => exact go (h1 hq)
    | false => exact go (h2 hq)))⟩
/-- a turn's end: the word holds again, the measure has fallen -/
def KW {α : Type} (I : α → Prop) (ρf : α → Nms) (μ : α → Nat) (x : α) (K : Out → Prop) : Out → Prop
  | .nx ρ' => ∃ x', I x' ∧ μ x' < μ x ∧ Sub (ρf x') ρ'
  | .rt v => K (.rt v)
theorem SS.whl {α : Type} (I : α → Prop) (ρf : α → Nms) (bf : α → Bool) (μ : α → Nat) (x0 : α) (h0 : I x0) (hs : Sub (ρf x0) ρ) (ht : ∀ x, I x → EB F C (ρf x) e (bf x)) (hb : ∀ x, I x → bf x = true → SS F C (ρf x) body (KW I ρf μ x K))
    (hr : ∀ x, I x → bf x = false → SS F C (ρf x) rest K) : SS F C ρ (.While e body [] p :: rest) K := ⟨fun s nl Q E P O kn kr => wpAny_execs_cons (by
  obtain ⟨m, hF, hR⟩ := (P.env hs).F
  refine While_inv2 (fun n m ng => ∃ x nx, μ x = n ∧ I x ∧ ng = nx.z ++ (nx.l ++ C.ml) ∧ Off nx.z (nx.l ++ C.ml) ∧ Off nx.l C.ml ∧ REnv C nx (ρf x) m ∧ ∀ p ∈ nl.z, p ∈ nx.z) hF P.N ⟨x0, nl, rfl, h0, rfl, P.off, P.offl, hR, fun _ h => h⟩ ?_ O
  rintro n m₁ ng h tk F₁ N₁ ⟨x, nx, rfl, hI, rfl, ho, hol, hR1, hsub⟩
  have P1 : PSt F C (ρf x) nx { s with heap := h, toks := tk } := ⟨P.ok, ⟨m₁, F₁, hR1⟩, N₁, ho, hol, fun p hp => hsub p (P.sub p hp)⟩
  refine (ht x hI).go _ nx _ _ _ P1 rfl fun h2 tk2 nl2 P2 s2 => ?_
  cases hq : bf x with
  | true =>
    refine (hb x hI hq).go _ nl2 _ E P2 O (fun ρ' h tk nl' k P' s' => ?_) fun v y h tk nl' k P' s' r => ?_
    · obtain ⟨x', hI', hlt, hsb⟩ := k
      obtain ⟨m', F', R'⟩ := (P'.env hsb).F
      exact ⟨h, tk, m', _, μ x', rfl, F', P'.N, hlt, x', nl', rfl, hI', rfl, P'.off, P'.offl, R', fun p hp => s' p (s2 p (hsub p hp))⟩
    · exact kr v y h tk nl' k P' (fun p hp => s' p (s2 p (hsub p hp))) r
  | false => exact (hr x hI hq).go _ nl2 Q E P2 O (fun ρ' h tk nl' k P' s' => kn ρ' h tk nl' k P' fun p hp => s' p (s2 p (hsub p hp))) fun v y h tk nl' k P' s' r => kr v y h tk nl' k P' (fun p hp => s' p (s2 p (hsub p hp))) r)⟩
/-- the arguments of a call -/
inductive RL (P : Params) (nl : List (Addr × Obj)) : List PV → List Value → Prop where
  | nil : RL P nl [] []
  | cons {v : PV} {y : Value} {vs : List PV} {ys : List Value} : RV1 P nl v y → RL P nl vs ys → RL P nl (v :: vs) (y :: ys)
theorem RL.mono {P : Params} {nl nl' : List (Addr × Obj)} {vs : List PV} {ys : List Value} (r : RL P nl vs ys) (h : ∀ p ∈ nl, p ∈ nl') : RL P nl' vs ys := by
  induction r with
  | nil => exact .nil
  | cons r _ ih => exact .cons (r.mono h) ih
structure EAM (F : FI) (C : Fx) (ρ : Nms) (es : List PySem.Expr) (vs : List PV) (ρ' : Nms) : Prop where
  go : ∀ (s : Shared) (nl : LG) (pos : Pos) (Q : List Value → Shared → Prop) (E : Value → Shared → Prop), PSt F C ρ nl s →
    (∀ ys h tk nl', PSt F C ρ' nl' { s with heap := h, toks := tk } → (∀ p ∈ nl.z, p ∈ nl'.z) → RL C.w.params nl'.z vs ys → Q ys { s with heap := h, toks := tk }) → wpAny (PM C) C.A (spliced (backTo pos (starEach es C.env))) Q E s
abbrev EA (F : FI) (C : Fx) (ρ : Nms) (es : List PySem.Expr) (vs : List PV) : Prop := EAM F C ρ es vs ρ
theorem EA.nil : EA F C ρ [] [] := ⟨fun s nl _ _ _ P q => args_nil (q _ _ _ nl P (fun _ h => h) .nil)⟩
theorem EA.cons {es : List PySem.Expr} {vs : List PV} (h : EM F C ρ e v ρ1) (hs : EAM F C ρ1 es vs ρ2) (hst : starEach (e :: es) C.env = (false, eval e C.env) :: starEach es C.env) : EAM F C ρ (e :: es) (v :: vs) ρ2 :=
  ⟨fun s nl pos _ _ P q => args_cons (h.go s nl _ _ P fun y _ _ nl1 P1 s1 r1 => hs.go _ nl1 pos _ _ P1 fun ys h tk nl2 P2 s2 r2 => q (y :: ys) h tk nl2 P2 (fun p hp => s2 p (s1 p hp)) (.cons (r1.mono s2) r2)) hst⟩
theorem EAM.nil : EA F C ρ [] [] := EA.nil
/-- the def at f gives v for vs -/
structure PF (f : Addr) (d : Nat) (vs : List PV) (v : PV) : Prop where
  go : ∀ (ys : List Value) (z cl : List (Addr × Obj)), Off z cl → Con f d ys (fun P nws => nws = z ++ cl ∧ RL P z vs ys) (fun P _ y nx => ∃ z', nx = z' ++ cl ∧ (∀ p ∈ z, p ∈ z') ∧ Off z' cl ∧ RV1 P z' v y)
/-- the top's name z is the def at f -/
structure GF (z : Str) (f : Addr) : Prop where
  hn : ∀ P, nsIn (hd.heap_1 P) mainGlobals z = some (some (.ref f))
  hk : ∀ P, keepIn (hd.heap_1 P) (.ref f) = true
theorem EV.call {z : Str} {f : Addr} {d : Nat} {es : List PySem.Expr} {vs : List PV} (hg : GF z f) (ha : EAM F C ρ (e :: es) vs ρ1) (hf : PF f d vs v) (hle : d ≤ F.k) (hx : F.sc.names.lookup z = some .globalImplicit) (hdb : (z == Str.ofString "__debug__") = false)
    (hst : starEach (e :: es) C.env = (false, eval e C.env) :: starEach es C.env) (hany : ((backTo p (starEach es C.env)).any fun x => x.1) = false) : EM F C ρ (.Call (.Name z p1) (e :: es) [] p) v ρ1 := ⟨fun s nl Q E P q => by
  obtain ⟨m, hF, hR⟩ := P.F
  have hkd : C.cs.kind = .function := by rw [P.ok.sc]; exact P.ok.fn
  refine Call_ (nameX_K (K := hd.heap_1 C.w.params) hF P.ok.X (topRead_of P.ok.T) (hg.hn _) ?_ hkd (by show C.cs.names.lookup z = _; rw [P.ok.sc]; exact hx) hdb)
  refine callWith_K P.ok.X (hg.hk _) (ha.go s nl p _ _ P fun ys h tk nl1 P1 s1 r1 => ⟨P1.ok.X.keeps (Fr.keep P1.F.choose_spec.1), ?_⟩) hst hany
  obtain ⟨m1, hF1, hR1⟩ := P1.F
  refine con_use (hf.go ys nl1.z (nl1.l ++ C.ml) P1.off) P1.ok.B hF1 P1.ok.X P1.N P1.ok.T hkd ⟨rfl, r1⟩ (by have := P.ok.hd; omega) (by have := P.ok.hu; omega) fun y nx h' tk' hr F' N' => ?_
  obtain ⟨z', rfl, hs, ho, r⟩ := hr
  exact q y h' tk' ⟨z', nl1.l⟩ ⟨P1.ok, ⟨m1, F', hR1.mono hs rfl⟩, N', ho, P1.offl, fun p hp => hs p (P1.sub p hp)⟩ (fun p hp => hs p (s1 p hp)) r⟩
theorem SS.aug {z : Str} {op : Operator} (h1 : ρ.lookup z = some v1) (hm : isMu v1 = false) (h2 : EV F C ρ e v2) (hx : F.sc.names.lookup z = some .local)
    (h : ∀ (s : Shared) nl y1 y2 Q E, PSt F C ρ nl s → RV1 C.w.params nl.z v1 y1 → RV1 C.w.params nl.z v2 y2 → (∀ y tk, RV1 C.w.params nl.z v y → Q y { s with toks := tk }) → wpAny (PM C) C.A (inplaceOp op y1 y2) Q E s)
    (hr : SS F C ((z, v) :: ρ) rest K) : SS F C ρ (.AugAssign (.Name z p1) op e p :: rest) K := ⟨fun s nl Q E P O kn kr => by
  obtain ⟨m, hF, hR⟩ := P.F
  obtain ⟨y1, hy, r1⟩ := hR z v1 h1
  have hy := hy.loc (P.ok.lo z hx)
  have r1 := r1.out hm
  refine wpAny_execs_cons (wpAny_AugAssign_Name (wpAny_loadName_local (by show C.cs.kind = _; rw [P.ok.sc]; exact P.ok.fn) (by show C.cs.names.lookup z = _; rw [P.ok.sc]; exact hx) hF.ns hy ?_))
  exact h2.go s nl _ _ P fun y2 _ _ nl1 P1 s1 r2 => h _ nl1 y1 y2 _ _ P1 (r1.mono s1) r2 fun y tk r => P1.tk.store r hx fun h tk P2 => hr.go _ nl1 Q E P2 O (fun ρ' h tk nl' k P' s' => kn ρ' h tk nl' k P' fun p hp => s' p (s1 p hp)) fun v y h tk nl' k P' s' r => kr v y h tk nl' k P' (fun p hp => s' p (s1 p hp)) r⟩
theorem SS.augAdd {z : Str} (h1 : ρ.lookup z = some (.i a)) (h2 : EV F C ρ e (.i b)) (hx : F.sc.names.lookup z = some .local) (hr : SS F C ((z, .i (a + b)) :: ρ) rest K) : SS F C ρ (.AugAssign (.Name z p1) .Add e p :: rest) K :=
  SS.aug h1 rfl h2 hx (fun _ _ _ _ _ _ _ ⟨_, r1⟩ ⟨_, r2⟩ q => by subst r1; subst r2; exact iadd_int (q _ _ ⟨_, rfl⟩)) hr
theorem SS.augMul {z : Str} (h1 : ρ.lookup z = some (.i a)) (h2 : EV F C ρ e (.i b)) (hx : F.sc.names.lookup z = some .local) (h : PySem.IntMulOk a b) (hr : SS F C ((z, .i (a * b)) :: ρ) rest K) : SS F C ρ (.AugAssign (.Name z p1) .Mult e p :: rest) K :=
  SS.aug h1 rfl h2 hx (fun _ _ _ _ _ _ _ ⟨_, r1⟩ ⟨_, r2⟩ q => by subst r1; subst r2; exact imul_int (q _ _ ⟨_, rfl⟩) h) hr
/-- a new pair, a new triple -/
theorem EV.tup2 {k : Nat} (ha : EAM F C ρ [e1, e2] [v1, v2] ρ2) : EM F C ρ (.Tuple [e1, e2] k p) (.t2 v1 v2) ρ2 := ⟨fun s nl Q E P q => Tuple_ (ha.go s nl _ _ _ P fun ys h tk nl1 P1 s1 r1 => by
  obtain _ | ⟨ra, r1⟩ := r1; obtain _ | ⟨rb, r1⟩ := r1; obtain _ | _ := r1
  obtain ⟨m, hF, hR⟩ := P1.F
  refine kup_newTuple hF P1.N (fun D h' F' N' hl => ?_) (show 2 ≤ PySem.sizeLine by rw [PySem.sizeLine_eq]; decide)
  exact q _ h' _ _ (P1.more hR F' N' hl) (fun p hp => .tail _ (s1 p hp)) ⟨D, _, _, rfl, .inl (.head _), ra.mono fun _ hp => .tail _ hp, rb.mono fun _ hp => .tail _ hp⟩)⟩
theorem EV.tup3 {k : Nat} (ha : EAM F C ρ [e1, e2, e3] [v1, v2, v3] ρ2) : EM F C ρ (.Tuple [e1, e2, e3] k p) (.t3 v1 v2 v3) ρ2 := ⟨fun s nl Q E P q => Tuple_ (ha.go s nl _ _ _ P fun ys h tk nl1 P1 s1 r1 => by
  obtain _ | ⟨ra, r1⟩ := r1; obtain _ | ⟨rb, r1⟩ := r1; obtain _ | ⟨rc, r1⟩ := r1; obtain _ | _ := r1
  obtain ⟨m, hF, hR⟩ := P1.F
  refine kup_newTuple hF P1.N (fun D h' F' N' hl => ?_) (show 3 ≤ PySem.sizeLine by rw [PySem.sizeLine_eq]; decide)
  exact q _ h' _ _ (P1.more hR F' N' hl) (fun p hp => .tail _ (s1 p hp)) ⟨D, _, _, _, rfl, .inl (.head _), ra.mono fun _ hp => .tail _ hp, rb.mono fun _ hp => .tail _ hp, rc.mono fun _ hp => .tail _ hp⟩)⟩
theorem isTup2 {s : Shared} {D : Addr} {vs : List Value} (P : PSt F C ρ nl s) (h : (D, tupO vs) ∈ nl.z ∨ (hd.heap_1 C.w.params).lookup D = some (tupO vs)) : IsTup s.heap D vs.toArray := by
  rcases h with h | h
  · exact News.isTup P.N (P.mem h)
  · obtain ⟨m, hF, _⟩ := P.F
    exact ⟨_, hF.keep _ _ (P.ok.X _ _ h), rfl, _, rfl⟩
/-- x, y = a pair -/
theorem SS.asg2 {z1 z2 : Str} {k : Nat} (he : EM F C ρ e (.t2 v1 v2) ρ1) (hx1 : F.sc.names.lookup z1 = some .local) (hx2 : F.sc.names.lookup z2 = some .local) (hsw : ∀ cn L a ccd cl, swapsWithSole [.Tuple [.Name z1 p1, .Name z2 p2] k p3] e p.line (envX cn F.sc L a ccd cl) = pure false)
    (hss : ∀ cn L a ccd cl, swappedStores [.Tuple [.Name z1 p1, .Name z2 p2] k p3] e (envX cn F.sc L a ccd cl) = pure none) (hr : SS F C ((z2, v2) :: (z1, v1) :: ρ1) rest K) : SS F C ρ (.Assign [.Tuple [.Name z1 p1, .Name z2 p2] k p3] e p :: rest) K :=
  ⟨fun s nl Q E P O kn kr => wpAny_execs_cons (Assign_Tuple (he.go s nl _ _ P fun y _ _ nl1 P1 s1 r => by
    obtain ⟨D, w1, w2, rfl, hm, r1, r2⟩ := r
    obtain ⟨m, hF, hR⟩ := P1.F
    refine unpackN_ hF P1.N (isTup2 P1 hm) rfl rfl rfl fun h' F' N' => ?_
    refine assignInOrder_cons (assign_Name ((P1.upd ⟨m, F', hR⟩ N' : PSt F C ρ1 nl1 _).store r1 hx1 fun h tk P2 => assignInOrder_cons (assign_Name (P2.store r2 hx2 fun h tk P3 => assignInOrder_nil ?_))))
    exact hr.go _ nl1 Q E P3 O (fun ρ' h tk nl' k P' s' => kn ρ' h tk nl' k P' fun p hp => s' p (s1 p hp)) fun v y h tk nl' k P' s' r => kr v y h tk nl' k P' (fun p hp => s' p (s1 p hp)) r) (by have := hsw C.cn C.L C.a C.ccd C.cl; rw [← P.ok.sc] at this; exact this) (by have := hss C.cn C.L C.a C.ccd C.cl; rw [← P.ok.sc] at this; exact this))⟩
/-- x, y = a, b -/
theorem SS.asg2s {z1 z2 : Str} {k : Nat} (he : EM F C ρ e (.t2 v1 v2) ρ1) (hx1 : F.sc.names.lookup z1 = some .local) (hx2 : F.sc.names.lookup z2 = some .local) (hsw : ∀ cn L a ccd cl, swapsWithSole [.Tuple [.Name z1 p1, .Name z2 p2] k p3] e p.line (envX cn F.sc L a ccd cl) = pure false)
    (hss : ∀ cn L a ccd cl, swappedStores [.Tuple [.Name z1 p1, .Name z2 p2] k p3] e (envX cn F.sc L a ccd cl) = pure (some [z1, z2])) (hr : SS F C ((z1, v1) :: (z2, v2) :: ρ1) rest K) : SS F C ρ (.Assign [.Tuple [.Name z1 p1, .Name z2 p2] k p3] e p :: rest) K :=
  ⟨fun s nl Q E P O kn kr => wpAny_execs_cons (Assign_Tuple_swapped (names := [z1, z2]) (he.go s nl _ _ P fun y _ _ nl1 P1 s1 r => by
    obtain ⟨D, w1, w2, rfl, hm, r1, r2⟩ := r
    obtain ⟨m, hF, hR⟩ := P1.F
    refine unpackItemsN_ hF P1.N (isTup2 P1 hm) rfl rfl fun h' F' N' => ?_
    refine assignInOrder_cons (bindName_ ((P1.upd ⟨m, F', hR⟩ N' : PSt F C ρ1 nl1 _).store r2 hx2 fun h tk P2 => assignInOrder_cons (bindName_ (P2.store r1 hx1 fun h tk P3 => assignInOrder_nil ?_))))
    exact hr.go _ nl1 Q E P3 O (fun ρ' h tk nl' k P' s' => kn ρ' h tk nl' k P' fun p hp => s' p (s1 p hp)) fun v y h tk nl' k P' s' r => kr v y h tk nl' k P' (fun p hp => s' p (s1 p hp)) r) (by have := hsw C.cn C.L C.a C.ccd C.cl; rw [← P.ok.sc] at this; exact this) (by have := hss C.cn C.L C.a C.ccd C.cl; rw [← P.ok.sc] at this; exact this))⟩
end
/-- the test of a row of tests -/
structure ELM (F : FI) (C : Fx) (ρ : Nms) (op : BoolOp) (es : List PySem.Expr) (p : Pos) (b : Bool) (ρ' : Nms) : Prop where
  go : ∀ (s : Shared) (nl : LG) (Q : Bool → Shared → Prop) (E : Value → Shared → Prop) (whole : Sem Value), PSt F C ρ nl s →
    (∀ h tk nl', PSt F C ρ' nl' { s with heap := h, toks := tk } → (∀ p ∈ nl.z, p ∈ nl'.z) → Q b { s with heap := h, toks := tk }) → wpAny (PM C) C.A (PySem.isTrue (.BoolOp op es p) C.env whole) Q E s
abbrev EL (F : FI) (C : Fx) (ρ : Nms) (op : BoolOp) (es : List PySem.Expr) (p : Pos) (b : Bool) : Prop := ELM F C ρ op es p b ρ
/-- a name of the top holds v -/
structure GV (z : Str) (v : PV) : Prop where
  go : ∀ P nl, ∃ y, nsIn (hd.heap_1 P) mainGlobals z = some (some y) ∧ RV1 P nl v y
section
variable {F : FI} {C : Fx} {ρ ρ1 ρ2 : Nms} {s : Shared} {nl nl' : LG} {e e1 e2 e3 : PySem.Expr} {es : List PySem.Expr} {a b n : Int} {x y : PySem.Str} {p p1 p2 p3 : Pos} {u v v1 v2 v3 : PV} {rest body orelse : List Stmt} {K : Out → Prop} {c c1 c2 : Bool} {op : BoolOp}
theorem EL.or0 : EL F C ρ .Or [] p false := ⟨fun _ nl _ _ _ P q => isTrue_or_nil (q _ _ nl P fun _ h => h)⟩
theorem EL.and0 : EL F C ρ .And [] p true := ⟨fun _ nl _ _ _ P q => isTrue_and_nil (q _ _ nl P fun _ h => h)⟩
theorem EL.or (h1 : EB F C ρ e c1) (h2 : c1 = false → EL F C ρ .Or es p c2) : EL F C ρ .Or (e :: es) p (c1 || c2) := ⟨fun s nl Q E _ P q => isTrue_or (h1.go s nl _ _ _ P rfl fun h tk nl1 P1 s1 => by
  cases hc : c1 with
  | true => exact (by simpa [hc] using q h tk nl1 P1 s1)
  | false =>
    have hq := q
    simp only [hc, Bool.false_or] at hq
    simpa using (h2 hc).go _ nl1 Q E _ P1 fun h tk nl2 P2 s2 => hq h tk nl2 P2 fun p hp => s2 p (s1 p hp))⟩
theorem EL.and (h1 : EB F C ρ e c1) (h2 : c1 = true → EL F C ρ .And es p c2) : EL F C ρ .And (e :: es) p (c1 && c2) := ⟨fun s nl Q E _ P q => isTrue_and (h1.go s nl _ _ _ P rfl fun h tk nl1 P1 s1 => by
  cases hc : c1 with
  | false => exact (by simpa [hc] using q h tk nl1 P1 s1)
  | true =>
    have hq := q
    simp only [hc, Bool.true_and] at hq
    simpa using (h2 hc).go _ nl1 Q E _ P1 fun h tk nl2 P2 s2 => hq h tk nl2 P2 fun p hp => s2 p (s1 p hp))⟩
theorem EB.row (h : ELM F C ρ op es p c ρ1) : EC F C ρ (.BoolOp op es p) c ρ1 := ⟨fun s nl Q E w P _ q => h.go s nl Q E w P q⟩
theorem EB.not (h : EC F C ρ e c ρ1) : EC F C ρ (.UnaryOp .Not e p) (!c) ρ1 := ⟨fun s nl _ _ _ P _ q => isTrue_not (h.go s nl _ _ _ P rfl q)⟩
theorem EB.nm {z : Str} (h : EV F C ρ (.Name z p) (.b c)) : EB F C ρ (.Name z p) c := ⟨fun s nl _ _ _ P hw q => by
  subst hw
  exact isTrue_plain (h.go s nl _ _ P fun y h tk nl' P' s' r => by have r : y = .bool c := r; subst r; exact wpAny_truthy_bool (q h tk nl' P' s')) rfl⟩
theorem EV.neg (h : EV F C ρ e (.i a)) : EV F C ρ (.UnaryOp .USub e p) (.i (-a)) := ⟨fun s nl _ _ P q => UnaryOp_ (h.go s nl _ _ P fun y h tk nl' P' s' ⟨_, r⟩ => by subst r; exact neg_int (q _ _ _ nl' P'.tk s' ⟨_, rfl⟩))⟩
theorem EV.pow (h1 : EM F C ρ e1 (.i a) ρ1) (h2 : EM F C ρ1 e2 (.i b) ρ2) (g1 : 0 ≤ b) (g2 : b ≤ 100) (g3 : a.natAbs ≤ 10) : EM F C ρ (.BinOp e1 .Pow e2 p) (.i (a ^ b.toNat)) ρ2 := EV.bin h1 h2 fun _ _ _ _ _ _ _ ⟨_, r1⟩ ⟨_, r2⟩ q => by subst r1; subst r2; exact pow_int_small g1 (by omega) (Nat.lt_of_le_of_lt g3 (by decide)) (q _ _ ⟨_, rfl⟩)
theorem EV.ife (hb : EB F C ρ e c) (h1 : c = true → EV F C ρ e1 v1) (h2 : c = false → EV F C ρ e2 v2) : EV F C ρ (.IfExp e e1 e2 p) (if c = true then v1 else v2) := ⟨fun s nl Q E P q => IfExp_ (hb.go s nl _ _ _ P rfl fun h tk nl1 P1 s1 => by
  cases hc : c with
  | true => simpa using (h1 hc).go _ nl1 Q E P1 fun y h tk nl2 P2 s2 r => q y h tk nl2 P2 (fun p hp => s2 p (s1 p hp)) (by simpa [hc] using r)
  | false => simpa using (h2 hc).go _ nl1 Q E P1 fun y h tk nl2 P2 s2 r => q y h tk nl2 P2 (fun p hp => s2 p (s1 p hp)) (by simpa [hc] using r))⟩
theorem EV.ifI (hb : EB F C ρ e c) (h1 : c = true → EV F C ρ e1 (.i a)) (h2 : c = false → EV F C ρ e2 (.i b)) : EV F C ρ (.IfExp e e1 e2 p) (.i (if c = true then a else b)) := EV.cast (EV.ife hb h1 h2) (by split <;> rfl)
theorem EV.ifS (hb : EB F C ρ e c) (h1 : c = true → EV F C ρ e1 (.s x)) (h2 : c = false → EV F C ρ e2 (.s y)) : EV F C ρ (.IfExp e e1 e2 p) (.s (if c = true then x else y)) := EV.cast (EV.ife hb h1 h2) (by split <;> rfl)
theorem EV.gl {z : Str} (hg : GV z v) (hx : F.sc.names.lookup z = some .globalImplicit) (hdb : (z == Str.ofString "__debug__") = false) : EV F C ρ (.Name z p) v := ⟨fun s nl Q E P q => by
  obtain ⟨m, hF, hR⟩ := P.F
  obtain ⟨y, hn, r⟩ := hg.go C.w.params nl.z
  exact nameX_K (K := hd.heap_1 C.w.params) hF P.ok.X (topRead_of P.ok.T) hn (q y _ _ nl P (fun _ h => h) r) (by rw [P.ok.sc]; exact P.ok.fn) (by show C.cs.names.lookup z = _; rw [P.ok.sc]; exact hx) hdb⟩
end
section
variable {F : FI} {C : Fx} {ρ ρ1 ρ2 ρj : Nms} {s : Shared} {nl nl' : LG} {e e1 e2 e3 : PySem.Expr} {es : List PySem.Expr} {a b n : Int} {x y : PySem.Str} {p p1 p2 p3 : Pos} {u v v1 v2 v3 : PV} {rest body orelse : List Stmt} {K : Out → Prop} {c c1 c2 : Bool} {op : BoolOp}
/-- two ways meet: the names then known -/
def KJ (ρj : Nms) (K : Out → Prop) : Out → Prop
  | .nx ρ' => Sub ρj ρ'
  | .rt v => K (.rt v)
theorem SS.itej (ρj : Nms) (hb : EC F C ρ e c ρ1) (h1 : c = true → SS F C ρ1 body (KJ ρj K)) (h2 : c = false → SS F C ρ1 orelse (KJ ρj K)) (hr : SS F C ρj rest K) : SS F C ρ (.If e body orelse p :: rest) K := by
  have imp : ∀ {bd : List Stmt}, SS F C ρ1 bd (KJ ρj K) → SS F C ρ1 bd (KS F C rest K) := fun hs => ⟨fun s nl Q E P O kn kr => hs.go s nl Q E P O (fun ρ' h tk nl' k P' s' => kn ρ' h tk nl' (SS.env k hr) P' s') fun v y h tk nl' k P' s' r => kr v y h tk nl' k P' s' r⟩
  exact SS.ite hb (fun hc => imp (h1 hc)) fun hc => imp (h2 hc)
/-- a built-in of one argument -/
theorem EV.bi1 {z : Str} {id : String} (hn : ∀ P, nsIn (hd.heap_1 P) mainGlobals z = some none) (hv : bootBuiltins z = some (Value.builtin id)) (hz : z ≠ Str.ofString "__name__") (hx : F.sc.names.lookup z = some .globalImplicit) (hdb : (z == Str.ofString "__debug__") = false)
    (h1 : EV F C ρ e v1) (hst : starEach [e] C.env = [(false, eval e C.env)]) (h : ∀ (s : Shared) nl y1 Q E, PSt F C ρ nl s → RV1 C.w.params nl.z v1 y1 → (∀ y tk, RV1 C.w.params nl.z v y → Q y { s with toks := tk }) → wpAny (PM C) C.A (PySem.call (Value.builtin id) [y1]) Q E s) :
    EV F C ρ (.Call (.Name z p1) [e] [] p) v := ⟨fun s nl Q E P q => by
  obtain ⟨m, hF, hR⟩ := P.F
  refine Call_ (nameX_B (K := hd.heap_1 C.w.params) hF P.ok.X (topRead_of P.ok.T) (hn _) hv hz ?_ (by rw [P.ok.sc]; exact P.ok.fn) (by show C.cs.names.lookup z = _; rw [P.ok.sc]; exact hx) hdb)
  exact callWith_builtin1 (args_cons (h1.go s nl _ _ P fun y1 h' tk nl1 P1 s1 r1 => args_nil (h _ nl1 y1 _ _ P1 r1 fun y tk r => q y _ tk nl1 P1.tk s1 r)) hst) hst⟩
theorem EV.abs (h1 : EV F C ρ e (.i a)) (hx : F.sc.names.lookup (Str.ofString "abs") = some .globalImplicit) (hst : starEach [e] C.env = [(false, eval e C.env)]) : EV F C ρ (.Call (.Name (Str.ofString "abs") p1) [e] [] p) (.i a.natAbs) :=
  EV.bi1 (fun _ => by rfl) (by rfl) (by decide) hx (by decide) h1 hst fun _ _ _ _ _ _ ⟨_, r⟩ q => by subst r; exact absP fun _ _ => q _ _ ⟨_, rfl⟩
theorem EV.len (h1 : EV F C ρ e (.s x)) (hx : F.sc.names.lookup (Str.ofString "len") = some .globalImplicit) (hst : starEach [e] C.env = [(false, eval e C.env)]) (hl : x.length ≤ 1000) : EV F C ρ (.Call (.Name (Str.ofString "len") p1) [e] [] p) (.i x.length) :=
  EV.bi1 (fun _ => by rfl) (by rfl) (by decide) hx (by decide) h1 hst fun _ _ _ _ _ _ ⟨_, r⟩ q => by subst r; exact PySem.P.len_str (by omega) (q _ _ ⟨_, rfl⟩)
theorem EV.ord (h1 : EV F C ρ e (.s x)) (hx : F.sc.names.lookup (Str.ofString "ord") = some .globalImplicit) (hst : starEach [e] C.env = [(false, eval e C.env)]) (hl : x.length = 1) : EV F C ρ (.Call (.Name (Str.ofString "ord") p1) [e] [] p) (.i (x.cps.getD 0 0)) :=
  EV.bi1 (fun _ => by rfl) (by rfl) (by decide) hx (by decide) h1 hst fun _ _ _ _ _ _ ⟨_, r⟩ q => by subst r; exact ord_of_one hl (q _ _ ⟨_, rfl⟩)
end
/-- the way into a def -/
theorem ss_in {F : FI} {K : Out → Prop} {ρ : Nms} {w : World} {mean : ExcName → Option Value} {mg mb : Str → Option Value} {dp un : Nat} {gd : Option (List Code)} {cn : Str} {cs : Scope} {L a : Addr} {ccd : Value} {cl : List (Str × Addr)} {outer : List Env} {base g h₀ h₁ : Heap} {m m' : Str → Option Value} {zz ll ml : List (Addr × Obj)} {qual : Str} {L' f : Addr} {cdv : Value} {body : List Stmt} {R : Result → Shared → Prop} {s : Shared} {tk : Nat}
    (hS : ∀ C : Fx, SS F C ρ body K) (F' : Fr g L' h₁ m') (N' : News g L' h₁ (zz ++ (ll ++ ml))) (O' : Off zz (ll ++ ml)) (O2' : Off ll ml) (B' : Below (ktrTop dp un gd cn cs L a ccd cl outer) base (envX cn cs L a ccd cl :: outer) g) (X' : (hd.heap_1 w.params).In g) (T' : Top vw (looseW vw [Str.ofString "BasicError"]) mean mg mb g)
    (hfn : F.sc.kind = .function) (hdp : dp + (F.k + 1) < recursionLimit) (hun : un + 8 * (F.k + 1) < cLine) (hρ : REnv0 w.params ⟨zz, ll⟩ ρ m') (hnx : ∀ ρ', ¬ K (.nx ρ'))
    (hret : ∀ v y h' tk' (nx : LG), K (.rt v) → (∀ p ∈ zz, p ∈ nx.z) → RV1 w.params nx.z (retV v) y → (∀ x y, (retE v).lookup x = some y → ∃ u, RVm w.params nx y u) → Off nx.z (nx.l ++ ml) → Off nx.l ml → Fr h₀ L h' m → News h₀ L h' (nx.z ++ (nx.l ++ ml)) → R (.ok (.ret y)) { s with heap := h', toks := tk' }) :
    wpAny (model PySem.Challenge.rw_sa0063_01.row.prog w) (Around.deeper (ktrTop dp un gd cn cs L a ccd cl outer) (envOf qual F.sc L' f cdv)) (execs body (envOf qual F.sc L' f cdv))
      (fun fl s' => LeaveK h₀ L m g R (match fl with | .ret v => v | _ => .none) s')
      (fun e s' => wpAny (model PySem.Challenge.rw_sa0063_01.row.prog w) (Around.deeper (ktrTop dp un gd cn cs L a ccd cl outer) (envOf qual F.sc L' f cdv)) (leaving (envOf qual F.sc L' f cdv) e) (fun _ s'' => R (.error e) s'') (fun e' s'' => R (.error e') s'') s')
      { s with heap := h₁, toks := tk } := by
  let C : Fx := ⟨w, mean, mg, mb, (Around.deeper (ktrTop dp un gd cn cs L a ccd cl outer) (envOf qual F.sc L' f cdv)).depth, (Around.deeper (ktrTop dp un gd cn cs L a ccd cl outer) (envOf qual F.sc L' f cdv)).units, (Around.deeper (ktrTop dp un gd cn cs L a ccd cl outer) (envOf qual F.sc L' f cdv)).guards,
    qual, F.sc, L', f, cdv, [], envX cn cs L a ccd cl :: outer, ktrTop dp un gd cn cs L a ccd cl outer, base, g, zz, ml⟩
  have P : PSt F C ρ ⟨zz, ll⟩ { s with heap := h₁, toks := tk } := ⟨⟨B', X', T', rfl, hfn, by show (Around.deeper (ktrTop dp un gd cn cs L a ccd cl outer) (envOf qual F.sc L' f cdv)).depth + F.k < _; rw [depth_deeper]; show dp + 1 + F.k < _; omega, by show (Around.deeper (ktrTop dp un gd cn cs L a ccd cl outer) (envOf qual F.sc L' f cdv)).units + 8 * F.k < _; rw [units_deeper]; show un + 3 + 8 * F.k < _; omega, fun _ _ => rfl⟩, ⟨m', F', fun x y hx => (hρ x y hx).imp fun _ h => ⟨.inl ⟨rfl, h.1⟩, h.2⟩⟩, N', O', O2', fun _ h => h⟩
  exact (hS C).go _ ⟨zz, ll⟩ _ _ P PassesOwn.leaving (fun ρ' _ _ _ k _ _ => absurd k (hnx ρ')) fun v y h' tk' nx k P' s' r => by
    obtain ⟨m2, F2, R2⟩ := P'.F
    exact leaveK_ F2 P'.N fun F3 N3 => hret v y h' tk' nx k s' r (fun x y hx => (R2 x y hx).imp fun _ h => h.2) P'.off P'.offl F3 N3

-- piece 103
-- needs: 102
/-- the arguments, bound -/
inductive RB (P : Params) (nl : LG) : Nms → List (Str × Value) → Prop where
  | nil : RB P nl [] []
  | cons {z : Str} {v : PV} {y : Value} {ρ : Nms} {ps : List (Str × Value)} : RVm P nl v y → RB P nl ρ ps → RB P nl ((z, v) :: ρ) ((z, y) :: ps)
theorem RB.env {P : Params} {nl : LG} {ρ : Nms} {ps : List (Str × Value)} (h : RB P nl ρ ps) : REnv0 P nl ρ (fun y => List.lookup y ps) := by
  induction h with
  | nil => exact fun x y h => nomatch h
  | cons r _ ih =>
    intro x w hx
    rw [List.lookup_cons] at hx
    show ∃ v, List.lookup x _ = some v ∧ _
    rw [List.lookup_cons]
    cases hz : (x == _) with
    | true => rw [hz] at hx; obtain rfl := Option.some.inj hx; exact ⟨_, rfl, r⟩
    | false => rw [hz] at hx; exact ih x w hx
/-- v comes back -/
def Is (v : PV) : Out → Prop
  | .nx _ => False
  | .rt u => u = v
theorem Off.sub {a b c : List (Addr × Obj)} (h : Off a (b ++ c)) : Off a c := fun p hp q hq => h p hp q (List.mem_append_right _ hq)
theorem ss_v {F : FI} {v : PV} {ρ : Nms} {w : World} {mean : ExcName → Option Value} {mg mb : Str → Option Value} {dp un : Nat} {gd : Option (List Code)} {cn : Str} {cs : Scope} {L a : Addr} {ccd : Value} {cl : List (Str × Addr)} {outer : List Env} {base g h₀ h₁ : Heap} {m m' : Str → Option Value} {zz ml : List (Addr × Obj)} {qual : Str} {L' f : Addr} {cdv : Value} {body : List Stmt} {Q E : Value → Shared → Prop} {s : Shared} {tk : Nat}
    (hret : ∀ y nx h' tk', (∃ z', nx = z' ++ ml ∧ (∀ p ∈ zz, p ∈ z') ∧ Off z' ml ∧ RV1 w.params z' v y) → Fr h₀ L h' m → News h₀ L h' nx → Q y { s with heap := h', toks := tk' }) (hw : retV v = v)
    (hdp : dp + (F.k + 1) < recursionLimit) (hun : un + 8 * (F.k + 1) < cLine) (hS : ∀ C : Fx, SS F C ρ body (Is v)) (F' : Fr g L' h₁ m') (N' : News g L' h₁ (zz ++ ml)) (O' : Off zz ml) (B' : Below (ktrTop dp un gd cn cs L a ccd cl outer) base (envX cn cs L a ccd cl :: outer) g) (X' : (hd.heap_1 w.params).In g) (T' : Top vw (looseW vw [Str.ofString "BasicError"]) mean mg mb g)
    (hfn : F.sc.kind = .function) (hρ : REnv0 w.params ⟨zz, []⟩ ρ m') :
    wpAny (model PySem.Challenge.rw_sa0063_01.row.prog w) (Around.deeper (ktrTop dp un gd cn cs L a ccd cl outer) (envOf qual F.sc L' f cdv)) (execs body (envOf qual F.sc L' f cdv))
      (fun fl s' => LeaveK h₀ L m g (fun r s' => match r with | .ok (.ret v) => Q v s' | .ok _ => False | .error e => E e s') (match fl with | .ret v => v | _ => .none) s')
      (fun e s' => wpAny (model PySem.Challenge.rw_sa0063_01.row.prog w) (Around.deeper (ktrTop dp un gd cn cs L a ccd cl outer) (envOf qual F.sc L' f cdv)) (leaving (envOf qual F.sc L' f cdv) e) (fun _ s'' => E e s'') (fun e' s'' => E e' s'') s')
      { s with heap := h₁, toks := tk } :=
  ss_in (R := fun r s' => match r with | .ok (.ret v) => Q v s' | .ok _ => False | .error e => E e s') hS F' (ll := []) N' O' (fun _ h => nomatch h) B' X' T' hfn hdp hun hρ (fun _ h => h) fun u y h' tk' nx k s' r _ o1 _ F3 N3 =>
    hret y (nx.z ++ ml) h' tk' ⟨nx.z, rfl, s', o1.sub, by have e : u = v := k; rw [e, hw] at r; exact r⟩ F3 fun p hp => N3 p (by
      rcases List.mem_append.mp hp with hp | hp
      · exact List.mem_append_left _ hp
      · exact List.mem_append_right _ (List.mem_append_right _ hp))
theorem pf_in1 {f : Addr} {F : FI} {z1 : Str} {v1 v : PV} {body : List Stmt} {name qual : Str} {params : Arguments} {dV kV doc pm cdv ct oc : Value} {an od : Option Addr} {osl : Array (Option Value)}
    (hl : ∀ P, (hd.heap_1 P).lookup f = some { cls := oc, dict := od, data := .func (fnOf name qual params body F.sc dV kV doc pm an cdv ct), slots := osl }) (hc : ∀ P, codeIn (hd.heap_1 P) cdv qual = true)
    (hb : ∀ y1 : Value, bindArgs (fnOf name qual params body F.sc dV kV doc pm an cdv ct) { pos := [y1], kw := [] } = pure [(z1, y1)]) (hx1 : F.sc.names.lookup z1 = some .local)
    (hsc : F.sc.isCoroutine = false ∧ F.sc.isGenerator = false ∧ F.sc.kind = .function ∧ ∀ x ∈ F.sc.names, x.2 ≠ .cell) (hw : retV v = v) (hS : ∀ C : Fx, SS F C [(z1, v1)] body (Is v)) : PF f (F.k + 1) [v1] v := by
  refine ⟨fun yy zz ml hO => ?_⟩
  intro w mean mg mb dp un gd cn cs a ccd cl outer A₀ base h₀ L m news s Q E B hF X N T hk hdp hu hH hret
  obtain ⟨rfl, hH⟩ := hH
  obtain _ | ⟨r1, hH⟩ := hH; obtain _ | _ := hH
  refine wpAny_call (code_def B hF X N T rfl rfl hk (hl _) (hc _) (by show dp < recursionLimit; omega) (BindsTo.of_eq (hb _)) (fun y hy => by simp only [List.mem_cons, List.not_mem_nil, or_false] at hy; rcases hy with rfl <;> assumption) (fun g L' h₁ F1 F' N' B' X' T' => ?_) hsc.1 hsc.2.1 hsc.2.2.1 hsc.2.2.2)
  exact ss_v hret hw hdp hu hS F' N' hO B' X' T' hsc.2.2.1 (RB.env (nl := ⟨zz, []⟩) (.cons (.of r1) .nil))
theorem pf_in2 {f : Addr} {F : FI} {z1 z2 : Str} {v1 v2 v : PV} {body : List Stmt} {name qual : Str} {params : Arguments} {dV kV doc pm cdv ct oc : Value} {an od : Option Addr} {osl : Array (Option Value)}
    (hl : ∀ P, (hd.heap_1 P).lookup f = some { cls := oc, dict := od, data := .func (fnOf name qual params body F.sc dV kV doc pm an cdv ct), slots := osl }) (hc : ∀ P, codeIn (hd.heap_1 P) cdv qual = true)
    (hb : ∀ y1 y2 : Value, bindArgs (fnOf name qual params body F.sc dV kV doc pm an cdv ct) { pos := [y1, y2], kw := [] } = pure [(z1, y1), (z2, y2)]) (hx1 : F.sc.names.lookup z1 = some .local) (hx2 : F.sc.names.lookup z2 = some .local)
    (hsc : F.sc.isCoroutine = false ∧ F.sc.isGenerator = false ∧ F.sc.kind = .function ∧ ∀ x ∈ F.sc.names, x.2 ≠ .cell) (hw : retV v = v) (hS : ∀ C : Fx, SS F C [(z2, v2), (z1, v1)] body (Is v)) : PF f (F.k + 1) [v1, v2] v := by
  refine ⟨fun yy zz ml hO => ?_⟩
  intro w mean mg mb dp un gd cn cs a ccd cl outer A₀ base h₀ L m news s Q E B hF X N T hk hdp hu hH hret
  obtain ⟨rfl, hH⟩ := hH
  obtain _ | ⟨r1, hH⟩ := hH; obtain _ | ⟨r2, hH⟩ := hH; obtain _ | _ := hH
  refine wpAny_call (code_def B hF X N T rfl rfl hk (hl _) (hc _) (by show dp < recursionLimit; omega) (BindsTo.of_eq (hb _ _)) (fun y hy => by simp only [List.mem_cons, List.not_mem_nil, or_false] at hy; rcases hy with rfl | rfl <;> assumption) (fun g L' h₁ F1 F' N' B' X' T' => ?_) hsc.1 hsc.2.1 hsc.2.2.1 hsc.2.2.2)
  exact ss_v hret hw hdp hu hS F' N' hO B' X' T' hsc.2.2.1 (RB.env (nl := ⟨zz, []⟩) (.cons (.of r2) (.cons (.of r1) .nil)))
theorem pf_in3 {f : Addr} {F : FI} {z1 z2 z3 : Str} {v1 v2 v3 v : PV} {body : List Stmt} {name qual : Str} {params : Arguments} {dV kV doc pm cdv ct oc : Value} {an od : Option Addr} {osl : Array (Option Value)}
    (hl : ∀ P, (hd.heap_1 P).lookup f = some { cls := oc, dict := od, data := .func (fnOf name qual params body F.sc dV kV doc pm an cdv ct), slots := osl }) (hc : ∀ P, codeIn (hd.heap_1 P) cdv qual = true)
    (hb : ∀ y1 y2 y3 : Value, bindArgs (fnOf name qual params body F.sc dV kV doc pm an cdv ct) { pos := [y1, y2, y3], kw := [] } = pure [(z1, y1), (z2, y2), (z3, y3)]) (hx1 : F.sc.names.lookup z1 = some .local) (hx2 : F.sc.names.lookup z2 = some .local) (hx3 : F.sc.names.lookup z3 = some .local)
    (hsc : F.sc.isCoroutine = false ∧ F.sc.isGenerator = false ∧ F.sc.kind = .function ∧ ∀ x ∈ F.sc.names, x.2 ≠ .cell) (hw : retV v = v) (hS : ∀ C : Fx, SS F C [(z3, v3), (z2, v2), (z1, v1)] body (Is v)) : PF f (F.k + 1) [v1, v2, v3] v := by
  refine ⟨fun yy zz ml hO => ?_⟩
  intro w mean mg mb dp un gd cn cs a ccd cl outer A₀ base h₀ L m news s Q E B hF X N T hk hdp hu hH hret
  obtain ⟨rfl, hH⟩ := hH
  obtain _ | ⟨r1, hH⟩ := hH; obtain _ | ⟨r2, hH⟩ := hH; obtain _ | ⟨r3, hH⟩ := hH; obtain _ | _ := hH
  refine wpAny_call (code_def B hF X N T rfl rfl hk (hl _) (hc _) (by show dp < recursionLimit; omega) (BindsTo.of_eq (hb _ _ _)) (fun y hy => by simp only [List.mem_cons, List.not_mem_nil, or_false] at hy; rcases hy with rfl | rfl | rfl <;> assumption) (fun g L' h₁ F1 F' N' B' X' T' => ?_) hsc.1 hsc.2.1 hsc.2.2.1 hsc.2.2.2)
  exact ss_v hret hw hdp hu hS F' N' hO B' X' T' hsc.2.2.1 (RB.env (nl := ⟨zz, []⟩) (.cons (.of r3) (.cons (.of r2) (.cons (.of r1) .nil))))
theorem pf_in4 {f : Addr} {F : FI} {z1 z2 z3 z4 : Str} {v1 v2 v3 v4 v : PV} {body : List Stmt} {name qual : Str} {params : Arguments} {dV kV doc pm cdv ct oc : Value} {an od : Option Addr} {osl : Array (Option Value)}
    (hl : ∀ P, (hd.heap_1 P).lookup f = some { cls := oc, dict := od, data := .func (fnOf name qual params body F.sc dV kV doc pm an cdv ct), slots := osl }) (hc : ∀ P, codeIn (hd.heap_1 P) cdv qual = true)
    (hb : ∀ y1 y2 y3 y4 : Value, bindArgs (fnOf name qual params body F.sc dV kV doc pm an cdv ct) { pos := [y1, y2, y3, y4], kw := [] } = pure [(z1, y1), (z2, y2), (z3, y3), (z4, y4)]) (hx1 : F.sc.names.lookup z1 = some .local) (hx2 : F.sc.names.lookup z2 = some .local) (hx3 : F.sc.names.lookup z3 = some .local) (hx4 : F.sc.names.lookup z4 = some .local)
    (hsc : F.sc.isCoroutine = false ∧ F.sc.isGenerator = false ∧ F.sc.kind = .function ∧ ∀ x ∈ F.sc.names, x.2 ≠ .cell) (hw : retV v = v) (hS : ∀ C : Fx, SS F C [(z4, v4), (z3, v3), (z2, v2), (z1, v1)] body (Is v)) : PF f (F.k + 1) [v1, v2, v3, v4] v := by
  refine ⟨fun yy zz ml hO => ?_⟩
  intro w mean mg mb dp un gd cn cs a ccd cl outer A₀ base h₀ L m news s Q E B hF X N T hk hdp hu hH hret
  obtain ⟨rfl, hH⟩ := hH
  obtain _ | ⟨r1, hH⟩ := hH; obtain _ | ⟨r2, hH⟩ := hH; obtain _ | ⟨r3, hH⟩ := hH; obtain _ | ⟨r4, hH⟩ := hH; obtain _ | _ := hH
  refine wpAny_call (code_def B hF X N T rfl rfl hk (hl _) (hc _) (by show dp < recursionLimit; omega) (BindsTo.of_eq (hb _ _ _ _)) (fun y hy => by simp only [List.mem_cons, List.not_mem_nil, or_false] at hy; rcases hy with rfl | rfl | rfl | rfl <;> assumption) (fun g L' h₁ F1 F' N' B' X' T' => ?_) hsc.1 hsc.2.1 hsc.2.2.1 hsc.2.2.2)
  exact ss_v hret hw hdp hu hS F' N' hO B' X' T' hsc.2.2.1 (RB.env (nl := ⟨zz, []⟩) (.cons (.of r4) (.cons (.of r3) (.cons (.of r2) (.cons (.of r1) .nil)))))
/-- the def at f gives v for vs behind the thing D, which held c and holds c' then -/
structure PC (f : Addr) (d : Nat) (D : Addr) (c : PV) (vs : List PV) (v : PV) (c' : PV) : Prop where
  go : ∀ (ys : List Value) (z l cl : List (Addr × Obj)), Off z (l ++ cl) → Off l cl → Con f d (.ref D :: ys) (fun P nws => nws = z ++ (l ++ cl) ∧ MAt P z l D c ∧ RL P z vs ys)
    (fun P _ y nx => ∃ z' l', nx = z' ++ (l' ++ cl) ∧ (∀ p ∈ z, p ∈ z') ∧ Off z' (l' ++ cl) ∧ Off l' cl ∧ MAt P z' l' D c' ∧ RV1 P z' v y)
theorem ss_c {F : FI} {v c' : PV} {D : Addr} {zn : Str} {ρ : Nms} {w : World} {mean : ExcName → Option Value} {mg mb : Str → Option Value} {dp un : Nat} {gd : Option (List Code)} {cn : Str} {cs : Scope} {L a : Addr} {ccd : Value} {cl : List (Str × Addr)} {outer : List Env} {base g h₀ h₁ : Heap} {m m' : Str → Option Value} {zz ll ml : List (Addr × Obj)} {qual : Str} {L' f : Addr} {cdv : Value} {body : List Stmt} {Q E : Value → Shared → Prop} {s : Shared} {tk : Nat}
    (hret : ∀ y nx h' tk', (∃ z' l', nx = z' ++ (l' ++ ml) ∧ (∀ p ∈ zz, p ∈ z') ∧ Off z' (l' ++ ml) ∧ Off l' ml ∧ MAt w.params z' l' D c' ∧ RV1 w.params z' v y) → Fr h₀ L h' m → News h₀ L h' nx → Q y { s with heap := h', toks := tk' })
    (hdp : dp + (F.k + 1) < recursionLimit) (hun : un + 8 * (F.k + 1) < cLine) (hS : ∀ C : Fx, SS F C ρ body (Is (.w zn v D c'))) (F' : Fr g L' h₁ m') (N' : News g L' h₁ (zz ++ (ll ++ ml))) (O' : Off zz (ll ++ ml)) (O2' : Off ll ml) (B' : Below (ktrTop dp un gd cn cs L a ccd cl outer) base (envX cn cs L a ccd cl :: outer) g) (X' : (hd.heap_1 w.params).In g) (T' : Top vw (looseW vw [Str.ofString "BasicError"]) mean mg mb g)
    (hfn : F.sc.kind = .function) (hρ : REnv0 w.params ⟨zz, ll⟩ ρ m') :
    wpAny (model PySem.Challenge.rw_sa0063_01.row.prog w) (Around.deeper (ktrTop dp un gd cn cs L a ccd cl outer) (envOf qual F.sc L' f cdv)) (execs body (envOf qual F.sc L' f cdv))
      (fun fl s' => LeaveK h₀ L m g (fun r s' => match r with | .ok (.ret v) => Q v s' | .ok _ => False | .error e => E e s') (match fl with | .ret v => v | _ => .none) s')
      (fun e s' => wpAny (model PySem.Challenge.rw_sa0063_01.row.prog w) (Around.deeper (ktrTop dp un gd cn cs L a ccd cl outer) (envOf qual F.sc L' f cdv)) (leaving (envOf qual F.sc L' f cdv) e) (fun _ s'' => E e s'') (fun e' s'' => E e' s'') s')
      { s with heap := h₁, toks := tk } :=
  ss_in (R := fun r s' => match r with | .ok (.ret v) => Q v s' | .ok _ => False | .error e => E e s') hS F' N' O' O2' B' X' T' hfn hdp hun hρ (fun _ h => h) fun u y h' tk' nx k s' r hE o1 o2 F3 N3 => by
    have e : u = .w zn v D c' := k
    subst e
    obtain ⟨y2, r2⟩ := hE zn (.mu D c') (by show List.lookup zn [(zn, _)] = _; rw [List.lookup_cons, beq_self_eq_true])
    exact hret y _ h' tk' ⟨nx.z, nx.l, rfl, s', o1, o2, r2.2, r⟩ F3 N3
theorem pc_in1 {f : Addr} {F : FI} {D : Addr} {z1 : Str} { v c c' : PV} {body : List Stmt} {name qual : Str} {params : Arguments} {dV kV doc pm cdv ct oc : Value} {an od : Option Addr} {osl : Array (Option Value)}
    (hl : ∀ P, (hd.heap_1 P).lookup f = some { cls := oc, dict := od, data := .func (fnOf name qual params body F.sc dV kV doc pm an cdv ct), slots := osl }) (hc : ∀ P, codeIn (hd.heap_1 P) cdv qual = true)
    (hb : ∀ y1 : Value, bindArgs (fnOf name qual params body F.sc dV kV doc pm an cdv ct) { pos := [y1], kw := [] } = pure [(z1, y1)]) (hx1 : F.sc.names.lookup z1 = some .local)
    (hsc : F.sc.isCoroutine = false ∧ F.sc.isGenerator = false ∧ F.sc.kind = .function ∧ ∀ x ∈ F.sc.names, x.2 ≠ .cell) (hS : ∀ C : Fx, SS F C [(z1, .mu D c)] body (Is (.w z1 v D c'))) : PC f (F.k + 1) D c [] v c' := by
  refine ⟨fun yy zz ll ml hO hO2 => ?_⟩
  intro w mean mg mb dp un gd cn cs a ccd cl outer A₀ base h₀ L m news s Q E B hF X N T hk hdp hu hH hret
  obtain ⟨rfl, hM, hH⟩ := hH
  obtain _ | _ := hH
  refine wpAny_call (code_def B hF X N T rfl rfl hk (hl _) (hc _) (by show dp < recursionLimit; omega) (BindsTo.of_eq (hb _)) (fun y hy => by simp only [List.mem_cons, List.not_mem_nil, or_false] at hy; rcases hy with rfl <;> assumption) (fun g L' h₁ F1 F' N' B' X' T' => ?_) hsc.1 hsc.2.1 hsc.2.2.1 hsc.2.2.2)
  exact ss_c hret hdp hu hS F' N' hO hO2 B' X' T' hsc.2.2.1 (RB.env (nl := ⟨zz, ll⟩) (.cons (⟨rfl, hM⟩ : RVm w.params ⟨zz, ll⟩ (.mu D c) (.ref D)) .nil))
theorem pc_in2 {f : Addr} {F : FI} {D : Addr} {z1 z2 : Str} {v2 v c c' : PV} {body : List Stmt} {name qual : Str} {params : Arguments} {dV kV doc pm cdv ct oc : Value} {an od : Option Addr} {osl : Array (Option Value)}
    (hl : ∀ P, (hd.heap_1 P).lookup f = some { cls := oc, dict := od, data := .func (fnOf name qual params body F.sc dV kV doc pm an cdv ct), slots := osl }) (hc : ∀ P, codeIn (hd.heap_1 P) cdv qual = true)
    (hb : ∀ y1 y2 : Value, bindArgs (fnOf name qual params body F.sc dV kV doc pm an cdv ct) { pos := [y1, y2], kw := [] } = pure [(z1, y1), (z2, y2)]) (hx1 : F.sc.names.lookup z1 = some .local) (hx2 : F.sc.names.lookup z2 = some .local)
    (hsc : F.sc.isCoroutine = false ∧ F.sc.isGenerator = false ∧ F.sc.kind = .function ∧ ∀ x ∈ F.sc.names, x.2 ≠ .cell) (hS : ∀ C : Fx, SS F C [(z2, v2), (z1, .mu D c)] body (Is (.w z1 v D c'))) : PC f (F.k + 1) D c [v2] v c' := by
  refine ⟨fun yy zz ll ml hO hO2 => ?_⟩
  intro w mean mg mb dp un gd cn cs a ccd cl outer A₀ base h₀ L m news s Q E B hF X N T hk hdp hu hH hret
  obtain ⟨rfl, hM, hH⟩ := hH
  obtain _ | ⟨r2, hH⟩ := hH; obtain _ | _ := hH
  refine wpAny_call (code_def B hF X N T rfl rfl hk (hl _) (hc _) (by show dp < recursionLimit; omega) (BindsTo.of_eq (hb _ _)) (fun y hy => by simp only [List.mem_cons, List.not_mem_nil, or_false] at hy; rcases hy with rfl | rfl <;> assumption) (fun g L' h₁ F1 F' N' B' X' T' => ?_) hsc.1 hsc.2.1 hsc.2.2.1 hsc.2.2.2)
  exact ss_c hret hdp hu hS F' N' hO hO2 B' X' T' hsc.2.2.1 (RB.env (nl := ⟨zz, ll⟩) (.cons (.of r2) (.cons (⟨rfl, hM⟩ : RVm w.params ⟨zz, ll⟩ (.mu D c) (.ref D)) .nil)))
theorem pc_in3 {f : Addr} {F : FI} {D : Addr} {z1 z2 z3 : Str} {v2 v3 v c c' : PV} {body : List Stmt} {name qual : Str} {params : Arguments} {dV kV doc pm cdv ct oc : Value} {an od : Option Addr} {osl : Array (Option Value)}
    (hl : ∀ P, (hd.heap_1 P).lookup f = some { cls := oc, dict := od, data := .func (fnOf name qual params body F.sc dV kV doc pm an cdv ct), slots := osl }) (hc : ∀ P, codeIn (hd.heap_1 P) cdv qual = true)
    (hb : ∀ y1 y2 y3 : Value, bindArgs (fnOf name qual params body F.sc dV kV doc pm an cdv ct) { pos := [y1, y2, y3], kw := [] } = pure [(z1, y1), (z2, y2), (z3, y3)]) (hx1 : F.sc.names.lookup z1 = some .local) (hx2 : F.sc.names.lookup z2 = some .local) (hx3 : F.sc.names.lookup z3 = some .local)
    (hsc : F.sc.isCoroutine = false ∧ F.sc.isGenerator = false ∧ F.sc.kind = .function ∧ ∀ x ∈ F.sc.names, x.2 ≠ .cell) (hS : ∀ C : Fx, SS F C [(z3, v3), (z2, v2), (z1, .mu D c)] body (Is (.w z1 v D c'))) : PC f (F.k + 1) D c [v2, v3] v c' := by
  refine ⟨fun yy zz ll ml hO hO2 => ?_⟩
  intro w mean mg mb dp un gd cn cs a ccd cl outer A₀ base h₀ L m news s Q E B hF X N T hk hdp hu hH hret
  obtain ⟨rfl, hM, hH⟩ := hH
  obtain _ | ⟨r2, hH⟩ := hH; obtain _ | ⟨r3, hH⟩ := hH; obtain _ | _ := hH
  refine wpAny_call (code_def B hF X N T rfl rfl hk (hl _) (hc _) (by show dp < recursionLimit; omega) (BindsTo.of_eq (hb _ _ _)) (fun y hy => by simp only [List.mem_cons, List.not_mem_nil, or_false] at hy; rcases hy with rfl | rfl | rfl <;> assumption) (fun g L' h₁ F1 F' N' B' X' T' => ?_) hsc.1 hsc.2.1 hsc.2.2.1 hsc.2.2.2)
  exact ss_c hret hdp hu hS F' N' hO hO2 B' X' T' hsc.2.2.1 (RB.env (nl := ⟨zz, ll⟩) (.cons (.of r3) (.cons (.of r2) (.cons (⟨rfl, hM⟩ : RVm w.params ⟨zz, ll⟩ (.mu D c) (.ref D)) .nil))))
theorem gv_me : GV (Str.ofString "MOST_EXPONENT") (.i 99) := ⟨fun _ _ => ⟨_, rfl, _, rfl⟩⟩
theorem is_i {F : FI} {C : Fx} {rest : List Stmt} {K : Out → Prop} {v : PV} (h : K (.rt v)) : KS F C rest K (.rt v) := h
-- @use
local macro_rules | `(tactic| walk_at "P v") => `(tactic| (first
  | exact EV.int
  | exact EV.str
  | exact EV.nm (by rfl) (by rfl) (by decide)
  | (refine' EV.add ?h1 ?h2; walk_at "P v2")
  | (refine' EV.sub ?h1 ?h2; walk_at "P v2")
  | (refine' EV.mul ?h1 ?h2 ?h3; walk_at "P v2"; (case h3 => walk_at "U mulok"))
  | (refine' EV.fdv ?h1 ?h2 ?h3 ?h4; walk_at "P v2"; (case h3 => walk_at "U pos"); (case h4 => walk_at "U log"))
  | (refine' EV.fmd ?h1 ?h2 ?h3; walk_at "P v2"; (case h3 => walk_at "U pos"))
  | (refine' EV.pow ?h1 ?h2 ?h3 ?h4 ?h5; walk_at "P v2"; (case h3 => omega); (case h4 => omega); (case h5 => decide))
  | (refine' EV.neg ?h1; (case h1 => walk_at "P v"))
  | (refine' EV.ifI ?h1 ?h2 ?h3; (case h1 => walk_at "P b"); (case h2 => (walk_at "P hb"; walk_at "P v")); (case h3 => (walk_at "P hb"; walk_at "P v")))
  | (refine' EV.abs ?h1 (by rfl) (by rfl); (case h1 => walk_at "P v"))
  | (refine' EV.len ?h1 (by rfl) (by rfl) ?h2; (case h1 => walk_at "P v"); (case h2 => omega))
  | exact EV.gl gv_me (by rfl) (by decide)
  | (refine' EV.tup2 ?h1; (case h1 => walk_at "P a"))
  | (refine' EV.tup3 ?h1; (case h1 => walk_at "P a"))
  | walk_at "P call"
  | walk_at "P w"))
local macro_rules | `(tactic| walk_at "P v2") => `(tactic| ((case h1 => walk_at "P v"); (case h2 => walk_at "P v")))
local macro_rules | `(tactic| walk_at "P a") => `(tactic| (first
  | exact EA.nil
  | (refine' EA.cons ?h1 ?h2 (by rfl); (case h1 => walk_at "P v"); (case h2 => walk_at "P a"))))
local macro_rules | `(tactic| walk_at "P b") => `(tactic| (first
  | (refine' EB.lt ?h1 ?h2 (by rfl); walk_at "P v2")
  | (refine' EB.le ?h1 ?h2 (by rfl); walk_at "P v2")
  | (refine' EB.gt ?h1 ?h2 (by rfl); walk_at "P v2")
  | (refine' EB.ge ?h1 ?h2 (by rfl); walk_at "P v2")
  | (refine' EB.eq ?h1 ?h2 (by rfl); walk_at "P v2")
  | (refine' EB.row ?h1; (case h1 => walk_at "P l"))
  | (refine' EB.not ?h1; (case h1 => walk_at "P b"))
  | (refine' EB.nm ?h1; (case h1 => walk_at "P v"))
  | walk_at "P t"))
local macro_rules | `(tactic| walk_at "P l") => `(tactic| (first
  | exact EL.or0
  | exact EL.and0
  | (refine' EL.or ?h1 ?h2; (case h1 => walk_at "P b"); (case h2 => (walk_at "P hb"; walk_at "P l")))
  | (refine' EL.and ?h1 ?h2; (case h1 => walk_at "P b"); (case h2 => (walk_at "P hb"; walk_at "P l")))))
local macro_rules | `(tactic| walk_at "P hb") => `(tactic| (intro hb; try simp only [Bool.or_eq_true, Bool.and_eq_true, Bool.or_eq_false_iff, Bool.and_eq_false_iff, Bool.not_eq_true', Bool.not_eq_false', decide_eq_true_eq, decide_eq_false_iff_not, beq_iff_eq, beq_eq_false_iff_ne, Int.not_le, Int.not_lt] at hb))
local macro_rules | `(tactic| walk_at "P s") => `(tactic| (first
  | (refine' SS.asg ?h1 (by rfl) (by intros; with_unfolding_all rfl) ?_; (case h1 => walk_at "P v"))
  | (refine' SS.asg2s ?h1 (by rfl) (by rfl) (by intros; with_unfolding_all rfl) (by intros; with_unfolding_all rfl) ?_; (case h1 => walk_at "P v"))
  | (refine' SS.asg2 ?h1 (by rfl) (by rfl) (by intros; with_unfolding_all rfl) (by intros; with_unfolding_all rfl) ?_; (case h1 => walk_at "P v"))
  | (refine' SS.augAdd (by rfl) ?h1 (by rfl) ?_; (case h1 => walk_at "P v"))
  | (refine' SS.augMul (by rfl) ?h1 (by rfl) ?h2 ?_; (case h1 => walk_at "P v"); (case h2 => walk_at "U mulok"))
  | (refine' SS.ret ?h1 ?_; (case h1 => walk_at "P v"); (try repeat refine is_i ?_))
  | (refine' SS.ite ?h1 ?_ ?_; (case h1 => walk_at "P b"); all_goals walk_at "P hb")
  | (refine SS.nil ?_; try (show SS _ _ _ _ _))))
local macro_rules | `(tactic| walk_at "U mulok") => `(tactic| first | exact PySem.IntMulOk.of_left (PySem.intBits_le_64 (by omega) (by omega)) | exact PySem.IntMulOk.of_right (PySem.intBits_le_64 (by omega) (by omega)))
local macro_rules | `(tactic| walk_at "U pos") => `(tactic| first | exact pow10_lt _ | decide)
local macro_rules | `(tactic| walk_at "U log") => `(tactic| first | exact pow10_log (by omega) | exact pow10_log (by (rw [Int.min_def]; split) <;> omega) | decide +kernel)
-- @end

-- piece 104
-- needs: 103
section
variable {F : FI} {C : Fx} {ρ ρ1 ρ2 ρj : Nms} {s : Shared} {nl nl' : LG} {e e1 e2 e3 : PySem.Expr} {es : List PySem.Expr} {a b n : Int} {x y : PySem.Str} {p p1 p2 p3 : Pos} {u v v1 v2 v3 : PV} {rest body orelse : List Stmt} {K : Out → Prop} {c c1 c2 : Bool} {op : BoolOp}
theorem isTup3 {s : Shared} {D : Addr} {vs : List Value} (P : PSt F C ρ nl s) (h : (D, tupO vs) ∈ nl.z ∨ (hd.heap_1 C.w.params).lookup D = some (tupO vs)) : IsTup s.heap D vs.toArray := isTup2 P h
/-- places of a pair -/
theorem EV.fst {z : Str} {k : Nat} (h : EV F C ρ (.Name z p1) (.t2 v1 v2)) : EV F C ρ (.Subscript (.Name z p1) (.Constant (.int 0) k p2) p) v1 := ⟨fun s nl _ _ P q => Subscript_ (h.go s nl _ _ P fun y h tk nl1 P1 s1 r => by
  obtain ⟨D, w1, w2, rfl, hm, r1, r2⟩ := r
  exact wpAny_Constant_int (item_tupleL (isTup2 (s := { s with heap := h, toks := tk }) P1 hm) (by decide) (by decide) (by rfl) (by rfl) (q _ _ _ nl1 P1.tk s1 r1)))⟩
theorem EV.snd {z : Str} {k : Nat} (h : EV F C ρ (.Name z p1) (.t2 v1 v2)) : EV F C ρ (.Subscript (.Name z p1) (.Constant (.int 1) k p2) p) v2 := ⟨fun s nl _ _ P q => Subscript_ (h.go s nl _ _ P fun y h tk nl1 P1 s1 r => by
  obtain ⟨D, w1, w2, rfl, hm, r1, r2⟩ := r
  exact wpAny_Constant_int (item_tupleL (isTup2 (s := { s with heap := h, toks := tk }) P1 hm) (by decide) (by decide) (by rfl) (by rfl) (q _ _ _ nl1 P1.tk s1 r2)))⟩
/-- a sign of a text -/
theorem EV.idx (h1 : EV F C ρ e1 (.s x)) (h2 : EV F C ρ e2 (.i a)) (h0 : 0 ≤ a) (hl : a < x.length) (hx : x.length ≤ 1000) (hs : ∀ t u, subscripted e2 false (.str x t) (.int a u) = operate [.str x t, .int a u] (getItem (.str x t) (.int a u))) (ht : ∀ t r, letTemporaryGo e1 (.str x t) r = pure ()) :
    EV F C ρ (.Subscript e1 e2 p) (.s (Txt.item x a)) := ⟨fun s nl _ _ P q => Subscript_ (h1.go s nl _ _ P fun y1 _ _ nl1 P1 s1 r1 => h2.go _ nl1 _ _ P1 fun y2 _ _ nl2 P2 s2 r2 => by
  obtain ⟨t, rfl⟩ := r1; obtain ⟨u, rfl⟩ := r2
  exact item_str (fitsSsize_of (N := 1001) (by omega) (by omega) (by decide)) (by omega) hl (fun _ => q _ _ _ nl2 P2.tk (fun p hp => s2 p (s1 p hp)) ⟨_, rfl⟩) (hs t u) (ht t))⟩
theorem size_le {x : PySem.Str} (hx : x.length ≤ 1000) : x.length ≤ PySem.sizeLine := by rw [PySem.sizeLine_eq]; omega
/-- cuts of a text -/
theorem EV.cut (h1 : EV F C ρ e1 (.s x)) (h2 : EV F C ρ e2 (.i a)) (h3 : EV F C ρ e3 (.i b)) (hx : x.length ≤ 1000) (hs : ∀ t D, subscripted (.Slice (some e2) (some e3) none p2) false (.str x t) (.ref D) = operate [.ref D, .str x t] (getItem (.str x t) (.ref D))) (ht : ∀ t r, letTemporaryGo e1 (.str x t) r = pure ()) :
    EV F C ρ (.Subscript e1 (.Slice (some e2) (some e3) none p2) p) (.s (Txt.slice x (some a) (some b))) := ⟨fun s nl _ _ P q => Subscript_ (h1.go s nl _ _ P fun y1 _ _ nl1 P1 s1 r1 => wpAny_Slice (evalPart_some_step (h2.go _ nl1 _ _ P1 fun y2 _ _ nl2 P2 s2 r2 => evalPart_some_step (h3.go _ nl2 _ _ P2 fun y3 h tk nl3 P3 s3 r3 => evalPart_none_step (by
  obtain ⟨t, rfl⟩ := r1; obtain ⟨i, rfl⟩ := r2; obtain ⟨j, rfl⟩ := r3
  obtain ⟨m, hF, hR⟩ := P3.F
  exact slice_strN_ss (s := { s with heap := h, toks := tk }) hF P3.N (fun h' t' k F' N' => q _ h' k nl3 (P3.upd ⟨m, F', hR⟩ N') (fun p hp => s3 p (s2 p (s1 p hp))) ⟨_, rfl⟩) (hs t _) (ht t) (size_le hx))))))⟩
theorem EV.cutTo (h1 : EV F C ρ e1 (.s x)) (h3 : EV F C ρ e3 (.i b)) (hx : x.length ≤ 1000) (hs : ∀ t D, subscripted (.Slice none (some e3) none p2) false (.str x t) (.ref D) = operate [.ref D, .str x t] (getItem (.str x t) (.ref D))) (ht : ∀ t r, letTemporaryGo e1 (.str x t) r = pure ()) :
    EV F C ρ (.Subscript e1 (.Slice none (some e3) none p2) p) (.s (Txt.slice x none (some b))) := ⟨fun s nl _ _ P q => Subscript_ (h1.go s nl _ _ P fun y1 _ _ nl1 P1 s1 r1 => wpAny_Slice (evalPart_none_step (evalPart_some_step (h3.go _ nl1 _ _ P1 fun y3 h tk nl3 P3 s3 r3 => evalPart_none_step (by
  obtain ⟨t, rfl⟩ := r1; obtain ⟨j, rfl⟩ := r3
  obtain ⟨m, hF, hR⟩ := P3.F
  exact slice_strN_ns (s := { s with heap := h, toks := tk }) hF P3.N (fun h' t' k F' N' => q _ h' k nl3 (P3.upd ⟨m, F', hR⟩ N') (fun p hp => s3 p (s1 p hp)) ⟨_, rfl⟩) (hs t _) (ht t) (size_le hx))))))⟩
theorem EV.cutFrom (h1 : EV F C ρ e1 (.s x)) (h2 : EV F C ρ e2 (.i a)) (hx : x.length ≤ 1000) (hs : ∀ t D, subscripted (.Slice (some e2) none none p2) false (.str x t) (.ref D) = operate [.ref D, .str x t] (getItem (.str x t) (.ref D))) (ht : ∀ t r, letTemporaryGo e1 (.str x t) r = pure ()) :
    EV F C ρ (.Subscript e1 (.Slice (some e2) none none p2) p) (.s (Txt.slice x (some a) none)) := ⟨fun s nl _ _ P q => Subscript_ (h1.go s nl _ _ P fun y1 _ _ nl1 P1 s1 r1 => wpAny_Slice (evalPart_some_step (h2.go _ nl1 _ _ P1 fun y3 h tk nl3 P3 s3 r3 => evalPart_none_step (evalPart_none_step (by
  obtain ⟨t, rfl⟩ := r1; obtain ⟨j, rfl⟩ := r3
  obtain ⟨m, hF, hR⟩ := P3.F
  exact slice_strN_sn (s := { s with heap := h, toks := tk }) hF P3.N (fun h' t' k F' N' => q _ h' k nl3 (P3.upd ⟨m, F', hR⟩ N') (fun p hp => s3 p (s1 p hp)) ⟨_, rfl⟩) (hs t _) (ht t) (size_le hx))))))⟩
theorem EV.cat (h1 : EM F C ρ e1 (.s x) ρ1) (h2 : EM F C ρ1 e2 (.s y) ρ2) (hl : x.length + y.length ≤ 16777216) : EM F C ρ (.BinOp e1 .Add e2 p) (.s (x ++ y)) ρ2 := EV.bin h1 h2 fun _ _ _ _ _ _ _ ⟨_, r1⟩ ⟨_, r2⟩ q => by subst r1; subst r2; exact KOpn.add hl fun _ _ _ => q _ _ ⟨_, rfl⟩
theorem EV.rep {k : Nat} (h1 : EM F C ρ e1 (.s x) ρ1) (h2 : EM F C ρ1 e2 (.i a) ρ2) (hk : x.length = k) (hk2 : k ≤ 16) (g1 : -1000 ≤ a) (g2 : a ≤ 1000) : EM F C ρ (.BinOp e1 .Mult e2 p) (.s (Txt.mul x a)) ρ2 := EV.bin h1 h2 fun _ _ _ _ _ _ _ ⟨_, r1⟩ ⟨_, r2⟩ q => by subst r1; subst r2; exact KXi.mul hk hk2 (by omega) (by omega) fun _ _ _ _ => q _ _ ⟨_, rfl⟩
theorem EB.eqS (h1 : EM F C ρ e1 (.s x) ρ1) (h2 : EM F C ρ1 e2 (.s y) ρ2) (hm : behindInMarks .Eq e2 = false) : EC F C ρ (.Compare e1 [.Eq] [e2] p) (x == y) ρ2 := EB.cmp h1 h2 hm fun _ _ _ _ _ _ _ ⟨_, r1⟩ ⟨_, r2⟩ q => by subst r1; subst r2; exact eq_str q
theorem EB.neS (h1 : EM F C ρ e1 (.s x) ρ1) (h2 : EM F C ρ1 e2 (.s y) ρ2) (hm : behindInMarks .NotEq e2 = false) : EC F C ρ (.Compare e1 [.NotEq] [e2] p) (x != y) ρ2 := EB.cmp h1 h2 hm fun _ _ _ _ _ _ _ ⟨_, r1⟩ ⟨_, r2⟩ q => by subst r1; subst r2; exact ne_str q
theorem EB.inS (h1 : EV F C ρ e1 (.s y)) (h2 : EV F C ρ e2 (.s x)) (hm : behindInMarks .In e2 = false) : EB F C ρ (.Compare e1 [.In] [e2] p) (!(Builtin.Str.occurrences x y 0 x.length 1).isEmpty) := EB.cmp h1 h2 hm fun _ _ _ _ _ _ _ ⟨_, r1⟩ ⟨_, r2⟩ q => by subst r1; subst r2; exact in_str q
theorem EB.niS (h1 : EV F C ρ e1 (.s y)) (h2 : EV F C ρ e2 (.s x)) (hm : behindInMarks .NotIn e2 = false) : EB F C ρ (.Compare e1 [.NotIn] [e2] p) (!(!(Builtin.Str.occurrences x y 0 x.length 1).isEmpty)) := EB.cmp h1 h2 hm fun _ _ _ _ _ _ _ ⟨_, r1⟩ ⟨_, r2⟩ q => by subst r1; subst r2; exact notIn_str q
theorem EB.inT2 {x1 x2 : PySem.Str} (h1 : EV F C ρ e1 (.s y)) (h2 : EV F C ρ e2 (.t2 (.s x1) (.s x2))) (hm : behindInMarks .In e2 = false) : EB F C ρ (.Compare e1 [.In] [e2] p) ([x1, x2].any fun z => z == y) := EB.cmp h1 h2 hm fun s nl y1 y2 Q E P ⟨_, r1⟩ ⟨D, w1, w2, r2, hm, ⟨_, r3⟩, ⟨_, r4⟩⟩ q => by
  subst r1; subst r2; subst r3; subst r4; exact in_tuple_strs (isTup2 P hm) (.cons _ _ (.cons _ _ .nil)) q
theorem EB.inT3 {x1 x2 x3 : PySem.Str} (h1 : EV F C ρ e1 (.s y)) (h2 : EV F C ρ e2 (.t3 (.s x1) (.s x2) (.s x3))) (hm : behindInMarks .In e2 = false) : EB F C ρ (.Compare e1 [.In] [e2] p) ([x1, x2, x3].any fun z => z == y) := EB.cmp h1 h2 hm fun s nl y1 y2 Q E P ⟨_, r1⟩ ⟨D, w1, w2, w3, r2, hm, ⟨_, r3⟩, ⟨_, r4⟩, ⟨_, r5⟩⟩ q => by
  subst r1; subst r2; subst r3; subst r4; subst r5; exact in_tuple_strs (isTup2 P hm) (.cons _ _ (.cons _ _ (.cons _ _ .nil))) q
/-- a comparison as a value -/
theorem EV.cmpB {op : CmpOp} (h1 : EV F C ρ e1 v1) (h2 : EV F C ρ e2 v2) (hm : behindInMarks op e2 = false) (h : ∀ (s : Shared) nl y1 y2 Q E, PSt F C ρ nl s → RV1 C.w.params nl.z v1 y1 → RV1 C.w.params nl.z v2 y2 → Q (.bool c) s → wpAny (PM C) C.A (compareOp op y1 y2) Q E s) :
    EV F C ρ (.Compare e1 [op] [e2] p) (.b c) := ⟨fun s nl _ _ P q => wpAny_Compare1 (h1.go s nl _ _ P fun y1 _ _ nl1 P1 s1 r1 => h2.go _ nl1 _ _ P1 fun y2 _ _ nl2 P2 s2 r2 => h _ nl2 y1 y2 _ _ P2 (r1.mono s2) r2 (q _ _ _ nl2 P2 (fun p hp => s2 p (s1 p hp)) rfl)) hm⟩
theorem EV.eqS (h1 : EV F C ρ e1 (.s x)) (h2 : EV F C ρ e2 (.s y)) (hm : behindInMarks .Eq e2 = false) : EV F C ρ (.Compare e1 [.Eq] [e2] p) (.b (x == y)) := EV.cmpB h1 h2 hm fun _ _ _ _ _ _ _ ⟨_, r1⟩ ⟨_, r2⟩ q => by subst r1; subst r2; exact eq_str q
theorem EV.ltI (h1 : EV F C ρ e1 (.i a)) (h2 : EV F C ρ e2 (.i b)) (hm : behindInMarks .Lt e2 = false) : EV F C ρ (.Compare e1 [.Lt] [e2] p) (.b (decide (a < b))) := EV.cmpB h1 h2 hm fun _ _ _ _ _ _ _ ⟨_, r1⟩ ⟨_, r2⟩ q => by subst r1; subst r2; exact lt_int q
theorem EV.gtI (h1 : EV F C ρ e1 (.i a)) (h2 : EV F C ρ e2 (.i b)) (hm : behindInMarks .Gt e2 = false) : EV F C ρ (.Compare e1 [.Gt] [e2] p) (.b (decide (b < a))) := EV.cmpB h1 h2 hm fun _ _ _ _ _ _ _ ⟨_, r1⟩ ⟨_, r2⟩ q => by subst r1; subst r2; exact gt_int q
theorem EV.gtS (h1 : EV F C ρ e1 (.s x)) (h2 : EV F C ρ e2 (.s y)) (hm : behindInMarks .Gt e2 = false) : EV F C ρ (.Compare e1 [.Gt] [e2] p) (.b (decide (y.cps.toList < x.cps.toList))) := EV.cmpB h1 h2 hm fun _ _ _ _ _ _ _ ⟨_, r1⟩ ⟨_, r2⟩ q => by subst r1; subst r2; exact PySem.P.gt_str q
theorem EV.ltS (h1 : EV F C ρ e1 (.s x)) (h2 : EV F C ρ e2 (.s y)) (hm : behindInMarks .Lt e2 = false) : EV F C ρ (.Compare e1 [.Lt] [e2] p) (.b (decide (x.cps.toList < y.cps.toList))) := EV.cmpB h1 h2 hm fun _ _ _ _ _ _ _ ⟨_, r1⟩ ⟨_, r2⟩ q => by subst r1; subst r2; exact lt_str q
theorem EV.eqI (h1 : EV F C ρ e1 (.i a)) (h2 : EV F C ρ e2 (.i b)) (hm : behindInMarks .Eq e2 = false) : EV F C ρ (.Compare e1 [.Eq] [e2] p) (.b (a == b)) := EV.cmpB h1 h2 hm fun _ _ _ _ _ _ _ ⟨_, r1⟩ ⟨_, r2⟩ q => by subst r1; subst r2; exact eq_int q
theorem EV.subB (h1 : EV F C ρ e1 (.b c1)) (h2 : EV F C ρ e2 (.b c2)) : EV F C ρ (.BinOp e1 .Sub e2 p) (.i ((if c1 then 1 else 0) - (if c2 then 1 else 0))) := EV.bin h1 h2 fun _ _ _ _ _ _ _ r1 r2 q => by
  have r1 : _ = Value.bool c1 := r1
  have r2 : _ = Value.bool c2 := r2
  subst r1; subst r2; exact PyProof.Rows.sub_bool (q _ _ ⟨_, rfl⟩)
theorem EV.inT2 {x1 x2 : PySem.Str} (h1 : EV F C ρ e1 (.s y)) (h2 : EV F C ρ e2 (.t2 (.s x1) (.s x2))) (hm : behindInMarks .In e2 = false) : EV F C ρ (.Compare e1 [.In] [e2] p) (.b ([x1, x2].any fun z => z == y)) := EV.cmpB h1 h2 hm fun s nl y1 y2 Q E P ⟨_, r1⟩ ⟨D, w1, w2, r2, hm, ⟨_, r3⟩, ⟨_, r4⟩⟩ q => by
  subst r1; subst r2; subst r3; subst r4; exact in_tuple_strs (isTup2 P hm) (.cons _ _ (.cons _ _ .nil)) q
theorem EV.inT3 {x1 x2 x3 : PySem.Str} (h1 : EV F C ρ e1 (.s y)) (h2 : EV F C ρ e2 (.t3 (.s x1) (.s x2) (.s x3))) (hm : behindInMarks .In e2 = false) : EV F C ρ (.Compare e1 [.In] [e2] p) (.b ([x1, x2, x3].any fun z => z == y)) := EV.cmpB h1 h2 hm fun s nl y1 y2 Q E P ⟨_, r1⟩ ⟨D, w1, w2, w3, r2, hm, ⟨_, r3⟩, ⟨_, r4⟩, ⟨_, r5⟩⟩ q => by
  subst r1; subst r2; subst r3; subst r4; subst r5; exact in_tuple_strs (isTup2 P hm) (.cons _ _ (.cons _ _ (.cons _ _ .nil))) q
/-- '0' <= e <= '9' -/
theorem EB.chain {x1 x2 : PySem.Str} (h1 : EV F C ρ e1 (.s x1)) (h2 : EV F C ρ e2 (.s x)) (h3 : EV F C ρ e3 (.s x2)) (hm : lastMarks [.LtE, .LtE] [e2, e3] = false) : EB F C ρ (.Compare e1 [.LtE, .LtE] [e2, e3] p) ((!decide (x.cps.toList < x1.cps.toList)) && (!decide (x2.cps.toList < x.cps.toList))) :=
  ⟨fun s nl _ _ _ P _ q => isTrue_chain (h1.go s nl _ _ P fun y1 _ _ nl1 P1 s1 r1 => test_link (h2.go _ nl1 _ _ P1 fun y2 hh tk nl2 P2 s2 r2 => by
    obtain ⟨_, rfl⟩ := r1; obtain ⟨_, rfl⟩ := r2
    refine PySem.P.le_str (wpAny_truthy_bool ?_)
    split
    · rename_i hc
      refine test_last (h3.go _ nl2 _ _ P2 fun y3 hh tk nl3 P3 s3 r3 => ?_)
      obtain ⟨_, rfl⟩ := r3
      refine PySem.P.le_str (wpAny_truthy_bool ?_)
      have := q hh tk nl3 P3 fun p hp => s3 p (s2 p (s1 p hp))
      rwa [hc, Bool.true_and] at this
    · rename_i hc
      have := q hh tk nl2 P2 fun p hp => s2 p (s1 p hp)
      rwa [Bool.eq_false_iff.mpr hc, Bool.false_and] at this)) hm⟩
/-- the built-ins of two arguments -/
theorem EV.bi2 {z : Str} {id : String} (hn : ∀ P, nsIn (hd.heap_1 P) mainGlobals z = some none) (hv : bootBuiltins z = some (Value.builtin id)) (hz : z ≠ Str.ofString "__name__") (hx : F.sc.names.lookup z = some .globalImplicit) (hdb : (z == Str.ofString "__debug__") = false)
    (ha : EA F C ρ [e1, e2] [v1, v2]) (hst : starEach [e1, e2] C.env = (false, eval e1 C.env) :: starEach [e2] C.env) (hany : ((backTo p (starEach [e2] C.env)).any fun x => x.1) = false)
    (h : ∀ (s : Shared) nl y1 y2 Q E, PSt F C ρ nl s → RV1 C.w.params nl.z v1 y1 → RV1 C.w.params nl.z v2 y2 → (∀ y hh tk, PSt F C ρ nl { s with heap := hh, toks := tk } → RV1 C.w.params nl.z v y → Q y { s with heap := hh, toks := tk }) → wpAny (PM C) C.A (PySem.call (Value.builtin id) [y1, y2]) Q E s) :
    EV F C ρ (.Call (.Name z p1) [e1, e2] [] p) v := ⟨fun s nl Q E P q => by
  obtain ⟨m, hF, hR⟩ := P.F
  refine Call_ (nameX_B (K := hd.heap_1 C.w.params) hF P.ok.X (topRead_of P.ok.T) (hn _) hv hz ?_ (by rw [P.ok.sc]; exact P.ok.fn) (by show C.cs.names.lookup z = _; rw [P.ok.sc]; exact hx) hdb)
  refine callWith_builtin1 (ha.go s nl p _ _ P fun ys hh tk nl1 P1 s1 r1 => ?_) hst hany
  obtain _ | ⟨ra, r1⟩ := r1; obtain _ | ⟨rb, r1⟩ := r1; obtain _ | _ := r1
  exact h _ nl1 _ _ _ _ P1 ra rb fun y hh tk P2 r => q y hh tk nl1 P2 s1 r⟩
theorem EV.min (ha : EA F C ρ [e1, e2] [.i a, .i b]) (hx : F.sc.names.lookup (Str.ofString "min") = some .globalImplicit) (hst : starEach [e1, e2] C.env = (false, eval e1 C.env) :: starEach [e2] C.env) (hany : ((backTo p (starEach [e2] C.env)).any fun x => x.1) = false) : EV F C ρ (.Call (.Name (Str.ofString "min") p1) [e1, e2] [] p) (.i (min a b)) :=
  EV.bi2 (fun _ => by rfl) (by rfl) (by decide) hx (by decide) ha hst hany fun s nl _ _ _ _ P ⟨_, r1⟩ ⟨_, r2⟩ q => by
    subst r1; subst r2
    obtain ⟨m, hF, hR⟩ := P.F
    exact minP rfl hF P.N fun u h' tk F' N' => q _ h' tk (P.upd ⟨m, F', hR⟩ N') ⟨_, rfl⟩
theorem EV.max (ha : EA F C ρ [e1, e2] [.i a, .i b]) (hx : F.sc.names.lookup (Str.ofString "max") = some .globalImplicit) (hst : starEach [e1, e2] C.env = (false, eval e1 C.env) :: starEach [e2] C.env) (hany : ((backTo p (starEach [e2] C.env)).any fun x => x.1) = false) : EV F C ρ (.Call (.Name (Str.ofString "max") p1) [e1, e2] [] p) (.i (max a b)) :=
  EV.bi2 (fun _ => by rfl) (by rfl) (by decide) hx (by decide) ha hst hany fun s nl _ _ _ _ P ⟨_, r1⟩ ⟨_, r2⟩ q => by
    subst r1; subst r2
    obtain ⟨m, hF, hR⟩ := P.F
    exact maxP rfl hF P.N fun u h' tk F' N' => q _ h' tk (P.upd ⟨m, F', hR⟩ N') ⟨_, rfl⟩
theorem EV.bty {z : Str} {T : String} (hn : ∀ P, nsIn (hd.heap_1 P) mainGlobals z = some none) (hv : bootBuiltins z = some (Value.type T)) (hz : z ≠ Str.ofString "__name__") (hx : F.sc.names.lookup z = some .globalImplicit) (hdb : (z == Str.ofString "__debug__") = false) : EV F C ρ (.Name z p) (.ty T) := ⟨fun s nl Q E P q => by
  obtain ⟨m, hF, hR⟩ := P.F
  exact nameX_B (K := hd.heap_1 C.w.params) hF P.ok.X (topRead_of P.ok.T) (hn _) hv hz (q _ _ _ nl P (fun _ h => h) rfl) (by rw [P.ok.sc]; exact P.ok.fn) (by show C.cs.names.lookup z = _; rw [P.ok.sc]; exact hx) hdb⟩
theorem EV.tyT (hx : F.sc.names.lookup (Str.ofString "tuple") = some .globalImplicit) : EV F C ρ (.Name (Str.ofString "tuple") p) (.ty "tuple") := EV.bty (fun _ => by rfl) (by rfl) (by decide) hx (by decide)
theorem EV.tyS (hx : F.sc.names.lookup (Str.ofString "str") = some .globalImplicit) : EV F C ρ (.Name (Str.ofString "str") p) (.ty "str") := EV.bty (fun _ => by rfl) (by rfl) (by decide) hx (by decide)
/-- is v of the type T -/
def isTy : PV → String → Option Bool
  | .i _, "tuple" => some false
  | .i _, "str" => some false
  | .t2 _ _, "tuple" => some true
  | .t2 _ _, "str" => some false
  | _, _ => none
theorem EV.isi {T : String} (ha : EA F C ρ [e1, e2] [v1, .ty T]) (hv : isTy v1 T = some c) (hx : F.sc.names.lookup (Str.ofString "isinstance") = some .globalImplicit) (hst : starEach [e1, e2] C.env = (false, eval e1 C.env) :: starEach [e2] C.env) (hany : ((backTo p (starEach [e2] C.env)).any fun x => x.1) = false) : EV F C ρ (.Call (.Name (Str.ofString "isinstance") p1) [e1, e2] [] p) (.b c) :=
  EV.bi2 (fun _ => by rfl) (by rfl) (by decide) hx (by decide) ha hst hany fun s nl y1 y2 _ _ P r1 r2 q => by
    have r2 : y2 = .type T := r2
    subst r2
    unfold isTy at hv
    split at hv <;> (try cases hv)
    · obtain ⟨_, rfl⟩ := r1; exact PySem.IsiPair.int_tuple (q _ _ _ P.tk rfl)
    · obtain ⟨_, rfl⟩ := r1; exact PySem.IsiPair.int_str (q _ _ _ P.tk rfl)
    · obtain ⟨D, w1, w2, rfl, hm, _⟩ := r1; exact PySem.IsiPair.isTuple_tuple (isTup2 P hm) (fun _ _ h => h) (q _ _ _ P.tk rfl)
    · obtain ⟨D, w1, w2, rfl, hm, _⟩ := r1; exact PySem.IsiPair.isTuple_str (isTup2 P hm) (fun _ _ h => h) (q _ _ _ P.tk rfl)
theorem EB.call {f : PySem.Expr} {kw : List Keyword} (h : EV F C ρ (.Call f es kw p) (.b c)) : EB F C ρ (.Call f es kw p) c := ⟨fun s nl _ _ _ P hw q => by
  subst hw
  exact isTrue_plain (h.go s nl _ _ P fun y hh tk nl' P' s' r => by have r : y = .bool c := r; subst r; exact wpAny_truthy_bool (q hh tk nl' P' s')) rfl⟩
/-- x, y, z = a triple -/
theorem SS.asg3 {z1 z2 z3 : Str} {p4 : Pos} {k : Nat} (he : EM F C ρ e (.t3 v1 v2 v3) ρ1) (hx1 : F.sc.names.lookup z1 = some .local) (hx2 : F.sc.names.lookup z2 = some .local) (hx3 : F.sc.names.lookup z3 = some .local) (hsw : ∀ cn L a ccd cl, swapsWithSole [.Tuple [.Name z1 p1, .Name z2 p2, .Name z3 p4] k p3] e p.line (envX cn F.sc L a ccd cl) = pure false)
    (hss : ∀ cn L a ccd cl, swappedStores [.Tuple [.Name z1 p1, .Name z2 p2, .Name z3 p4] k p3] e (envX cn F.sc L a ccd cl) = pure none) (hr : SS F C ((z3, v3) :: (z2, v2) :: (z1, v1) :: ρ1) rest K) : SS F C ρ (.Assign [.Tuple [.Name z1 p1, .Name z2 p2, .Name z3 p4] k p3] e p :: rest) K :=
  ⟨fun s nl Q E P O kn kr => wpAny_execs_cons (Assign_Tuple (he.go s nl _ _ P fun y _ _ nl1 P1 s1 r => by
    obtain ⟨D, w1, w2, w3, rfl, hm, r1, r2, r3⟩ := r
    obtain ⟨m, hF, hR⟩ := P1.F
    refine unpackN_ hF P1.N (isTup2 P1 hm) rfl rfl rfl fun h' F' N' => ?_
    refine assignInOrder_cons (assign_Name ((P1.upd ⟨m, F', hR⟩ N' : PSt F C ρ1 nl1 _).store r1 hx1 fun h tk P2 => assignInOrder_cons (assign_Name (P2.store r2 hx2 fun h tk P3 => assignInOrder_cons (assign_Name (P3.store r3 hx3 fun h tk P4 => assignInOrder_nil ?_))))))
    exact hr.go _ nl1 Q E P4 O (fun ρ' h tk nl' k P' s' => kn ρ' h tk nl' k P' fun p hp => s' p (s1 p hp)) fun v y h tk nl' k P' s' r => kr v y h tk nl' k P' (fun p hp => s' p (s1 p hp)) r) (by have := hsw C.cn C.L C.a C.ccd C.cl; rw [← P.ok.sc] at this; exact this) (by have := hss C.cn C.L C.a C.ccd C.cl; rw [← P.ok.sc] at this; exact this))⟩
theorem SS.asg3s {z1 z2 z3 : Str} {p4 : Pos} {k : Nat} (he : EM F C ρ e (.t3 v1 v2 v3) ρ1) (hx1 : F.sc.names.lookup z1 = some .local) (hx2 : F.sc.names.lookup z2 = some .local) (hx3 : F.sc.names.lookup z3 = some .local) (hsw : ∀ cn L a ccd cl, swapsWithSole [.Tuple [.Name z1 p1, .Name z2 p2, .Name z3 p4] k p3] e p.line (envX cn F.sc L a ccd cl) = pure false)
    (hss : ∀ cn L a ccd cl, swappedStores [.Tuple [.Name z1 p1, .Name z2 p2, .Name z3 p4] k p3] e (envX cn F.sc L a ccd cl) = pure (some [z1, z2, z3])) (hr : SS F C ((z1, v1) :: (z2, v2) :: (z3, v3) :: ρ1) rest K) : SS F C ρ (.Assign [.Tuple [.Name z1 p1, .Name z2 p2, .Name z3 p4] k p3] e p :: rest) K :=
  ⟨fun s nl Q E P O kn kr => wpAny_execs_cons (Assign_Tuple_swapped (names := [z1, z2, z3]) (he.go s nl _ _ P fun y _ _ nl1 P1 s1 r => by
    obtain ⟨D, w1, w2, w3, rfl, hm, r1, r2, r3⟩ := r
    obtain ⟨m, hF, hR⟩ := P1.F
    refine unpackItemsN_ hF P1.N (isTup2 P1 hm) rfl rfl fun h' F' N' => ?_
    refine assignInOrder_cons (bindName_ ((P1.upd ⟨m, F', hR⟩ N' : PSt F C ρ1 nl1 _).store r3 hx3 fun h tk P2 => assignInOrder_cons (bindName_ (P2.store r2 hx2 fun h tk P3 => assignInOrder_cons (bindName_ (P3.store r1 hx1 fun h tk P4 => assignInOrder_nil ?_))))))
    exact hr.go _ nl1 Q E P4 O (fun ρ' h tk nl' k P' s' => kn ρ' h tk nl' k P' fun p hp => s' p (s1 p hp)) fun v y h tk nl' k P' s' r => kr v y h tk nl' k P' (fun p hp => s' p (s1 p hp)) r) (by have := hsw C.cn C.L C.a C.ccd C.cl; rw [← P.ok.sc] at this; exact this) (by have := hss C.cn C.L C.a C.ccd C.cl; rw [← P.ok.sc] at this; exact this))⟩
/-- what a picture's name holds -/
structure PA (z : Str) (q : Pic) (v : PV) : Prop where
  go : ∀ P k nl, ∃ y, getL z (picEs P q k) = some (some y) ∧ RV1 P nl v y ∧ handedIn y = true
  g1 : ∀ P, plainGet (hd.heap_1 P) 82 z = true
  g2 : ∀ P, ∃ a, findIn (hd.heap_1 P) (.ref 82) z = some a ∧ noGet (hd.heap_1 P) a = true
theorem EV.attr {z w : Str} {q : Pic} (h : EV F C ρ (.Name w p1) (.pc q)) (hp : PA z q v) : EV F C ρ (.Attribute (.Name w p1) z p) v := ⟨fun s nl Q E P k => Attribute_Name_ (h.go s nl _ _ P fun y hh tk nl1 P1 s1 r => by
  obtain ⟨X, rfl, dx, kk, n, m1, m2⟩ := r
  obtain ⟨m, hF, hR⟩ := P1.F
  obtain ⟨y, e1, e2, e3⟩ := hp.go C.w.params kk nl1.z
  obtain ⟨a, f1, f2⟩ := hp.g2 C.w.params
  exact get_own (s := { s with heap := hh, toks := tk }) hF P1.ok.X (InstAt.of_news P1.N (P1.mem m1) (P1.mem m2)) (hp.g1 _) (by rfl) f1 f2 e1 e3 (k y _ _ nl1 P1.tk s1 e2))⟩
theorem pa_left {q : Pic} : PA (Str.ofString "left") q (.i q.left) := ⟨fun _ _ _ => ⟨_, rfl, ⟨_, rfl⟩, rfl⟩, fun _ => rfl, fun _ => ⟨_, rfl, rfl⟩⟩
theorem pa_right {q : Pic} : PA (Str.ofString "right") q (.i q.right) := ⟨fun _ _ _ => ⟨_, rfl, ⟨_, rfl⟩, rfl⟩, fun _ => rfl, fun _ => ⟨_, rfl, rfl⟩⟩
theorem pa_sign {q : Pic} : PA (Str.ofString "sign") q (.s q.sign) := ⟨fun _ _ _ => ⟨_, rfl, ⟨_, rfl⟩, rfl⟩, fun _ => rfl, fun _ => ⟨_, rfl, rfl⟩⟩
theorem pa_point {q : Pic} : PA (Str.ofString "has_point") q (.b q.point) := ⟨fun _ _ _ => ⟨_, rfl, rfl, rfl⟩, fun _ => rfl, fun _ => ⟨_, rfl, rfl⟩⟩
theorem pa_star {q : Pic} : PA (Str.ofString "has_star") q (.b q.star) := ⟨fun _ _ _ => ⟨_, rfl, rfl, rfl⟩, fun _ => rfl, fun _ => ⟨_, rfl, rfl⟩⟩
theorem pa_dollar {q : Pic} : PA (Str.ofString "has_dollar") q (.b q.dollar) := ⟨fun _ _ _ => ⟨_, rfl, rfl, rfl⟩, fun _ => rfl, fun _ => ⟨_, rfl, rfl⟩⟩
theorem pa_comma {q : Pic} : PA (Str.ofString "has_comma") q (.b q.comma) := ⟨fun _ _ _ => ⟨_, rfl, rfl, rfl⟩, fun _ => rfl, fun _ => ⟨_, rfl, rfl⟩⟩
theorem pa_expo {q : Pic} : PA (Str.ofString "has_exponent") q (.b q.expo) := ⟨fun _ _ _ => ⟨_, rfl, rfl, rfl⟩, fun _ => rfl, fun _ => ⟨_, rfl, rfl⟩⟩
theorem EB.attr {z w : Str} (h : EV F C ρ (.Attribute (.Name w p1) z p) (.b c)) : EB F C ρ (.Attribute (.Name w p1) z p) c := ⟨fun s nl _ _ _ P hw q => by
  subst hw
  exact isTrue_plain (h.go s nl _ _ P fun y hh tk nl' P' s' r => by have r : y = .bool c := r; subst r; exact wpAny_truthy_bool (q hh tk nl' P' s')) rfl⟩
theorem EV.ifT (hb : EB F C ρ e true) (h : EV F C ρ e1 v) : EV F C ρ (.IfExp e e1 e2 p) v := EV.cast (EV.ife hb (fun _ => h) (fun h => nomatch h) (v2 := v)) (if_pos rfl)
theorem EV.ifF (hb : EB F C ρ e false) (h : EV F C ρ e2 v) : EV F C ρ (.IfExp e e1 e2 p) v := EV.cast (EV.ife hb (fun h => nomatch h) (fun _ => h) (v1 := v)) (if_neg Bool.false_ne_true)
theorem SS.ifF (hb : EB F C ρ e false) (h : SS F C ρ orelse (KS F C rest K)) : SS F C ρ (.If e body orelse p :: rest) K := SS.ite hb (fun h => nomatch h) fun _ => h
theorem SS.ifT (hb : EB F C ρ e true) (h : SS F C ρ body (KS F C rest K)) : SS F C ρ (.If e body orelse p :: rest) K := SS.ite hb (fun _ => h) fun h => nomatch h
end
section
variable {F : FI} {C : Fx} {ρ : Nms} {e1 e2 : PySem.Expr} {c1 c2 : Bool} {p : Pos}
theorem EV.orB (h1 : EV F C ρ e1 (.b c1)) (h2 : c1 = false → EV F C ρ e2 (.b c2)) : EV F C ρ (.BoolOp .Or [e1, e2] p) (.b (c1 || c2)) := ⟨fun s nl Q E P q => BoolOp_or (h1.go s nl _ _ P fun y hh tk nl1 P1 s1 r => by
  have r : y = .bool c1 := r
  subst r
  refine wpAny_truthy_bool ?_
  cases hc : c1 with
  | true => exact q _ hh tk nl1 P1 s1 (by rw [hc]; rfl)
  | false =>
    refine BoolOp_one ((h2 hc).go _ nl1 _ _ P1 fun y2 hh tk nl2 P2 s2 r2 => q _ hh tk nl2 P2 (fun p hp => s2 p (s1 p hp)) ?_)
    rw [hc]; exact r2)⟩
theorem EV.andB (h1 : EV F C ρ e1 (.b c1)) (h2 : c1 = true → EV F C ρ e2 (.b c2)) : EV F C ρ (.BoolOp .And [e1, e2] p) (.b (c1 && c2)) := ⟨fun s nl Q E P q => BoolOp_and (h1.go s nl _ _ P fun y hh tk nl1 P1 s1 r => by
  have r : y = .bool c1 := r
  subst r
  refine wpAny_truthy_bool ?_
  cases hc : c1 with
  | false => exact q _ hh tk nl1 P1 s1 (by rw [hc]; rfl)
  | true =>
    refine BoolOp_one ((h2 hc).go _ nl1 _ _ P1 fun y2 hh tk nl2 P2 s2 r2 => q _ hh tk nl2 P2 (fun p hp => s2 p (s1 p hp)) ?_)
    rw [hc]; exact r2)⟩
end
-- @use
local macro_rules | `(tactic| walk_at "P w") => `(tactic| (first
  | (refine' EV.fst ?h1; (case h1 => walk_at "P v"))
  | (refine' EV.snd ?h1; (case h1 => walk_at "P v"))
  | (refine' EV.attr ?h1 ?h2; (case h1 => walk_at "P v"); (case h2 => first | exact pa_left | exact pa_right | exact pa_sign | exact pa_point | exact pa_star | exact pa_dollar | exact pa_comma | exact pa_expo))
  | (refine' EV.cut ?h1 ?h2 ?h3 ?h4 (by intros; with_unfolding_all rfl) (by intros; with_unfolding_all rfl); walk_at "P v2"; (case h3 => walk_at "P v"); (case h4 => walk_at "P sz"))
  | (refine' EV.cutTo ?h1 ?h2 ?h4 (by intros; with_unfolding_all rfl) (by intros; with_unfolding_all rfl); walk_at "P v2"; (case h4 => walk_at "P sz"))
  | (refine' EV.cutFrom ?h1 ?h2 ?h4 (by intros; with_unfolding_all rfl) (by intros; with_unfolding_all rfl); walk_at "P v2"; (case h4 => walk_at "P sz"))
  | (refine' EV.idx ?h1 ?h2 ?h3 ?h4 ?h5 (by intros; with_unfolding_all rfl) (by intros; with_unfolding_all rfl); walk_at "P v2"; (case h3 => walk_at "P sz"); (case h4 => walk_at "P sz"); (case h5 => walk_at "P sz"))
  | exact EV.tyT (by rfl)
  | exact EV.tyS (by rfl)
  | (refine' EV.isi ?h1 ?h2 (by rfl) (by rfl) (by rfl); (case h1 => walk_at "P a"); (case h2 => rfl))
  | (refine' EV.min ?h1 (by rfl) (by rfl) (by rfl); (case h1 => walk_at "P a"))
  | (refine' EV.max ?h1 (by rfl) (by rfl) (by rfl); (case h1 => walk_at "P a"))
  | (refine' EV.ord ?h1 (by rfl) (by rfl) ?h2; (case h1 => walk_at "P v"); (case h2 => walk_at "P sz"))
  | (refine' EV.cat ?h1 ?h2 ?h3; walk_at "P v2"; (case h3 => walk_at "P sz"))
  | (refine' EV.rep ?h1 ?h2 ?h3 ?h4 ?h5 ?h6; walk_at "P v2"; (case h3 => rfl); (case h4 => decide); (case h5 => omega); (case h6 => omega))
  | (refine' EV.ifT ?h1 ?h2; (case h1 => walk_at "P b"); (case h2 => walk_at "P v"))
  | (refine' EV.ifF ?h1 ?h2; (case h1 => walk_at "P b"); (case h2 => walk_at "P v"))
  | (refine' EV.ifS ?h1 ?h2 ?h3; (case h1 => walk_at "P b"); (case h2 => (walk_at "P hb"; walk_at "P v")); (case h3 => (walk_at "P hb"; walk_at "P v")))
  | (refine' EV.ltI ?h1 ?h2 (by rfl); walk_at "P v2")
  | (refine' EV.gtI ?h1 ?h2 (by rfl); walk_at "P v2")
  | (refine' EV.eqI ?h1 ?h2 (by rfl); walk_at "P v2")
  | (refine' EV.eqS ?h1 ?h2 (by rfl); walk_at "P v2")
  | (refine' EV.gtS ?h1 ?h2 (by rfl); walk_at "P v2")
  | (refine' EV.ltS ?h1 ?h2 (by rfl); walk_at "P v2")
  | (refine' EV.inT2 ?h1 ?h2 (by rfl); walk_at "P v2")
  | (refine' EV.inT3 ?h1 ?h2 (by rfl); walk_at "P v2")
  | (refine' EV.subB ?h1 ?h2; walk_at "P v2")))
local macro_rules | `(tactic| walk_at "P no") => `(tactic| (refine' SS.ifF ?h1 ?_; (case h1 => walk_at "P b"); refine SS.nil ?_; (try (show SS _ _ _ _ _))))
local macro_rules | `(tactic| walk_at "P sz") => `(tactic| first | omega | ((try simp only [PySem.Str.length_append]); omega))
local macro_rules | `(tactic| walk_at "P t") => `(tactic| (first
  | (refine' EB.call ?h1; (case h1 => walk_at "P v"))
  | (refine' EB.attr ?h1; (case h1 => walk_at "P v"))
  | (refine' EB.eqS ?h1 ?h2 (by rfl); walk_at "P v2")
  | (refine' EB.neS ?h1 ?h2 (by rfl); walk_at "P v2")
  | (refine' EB.inT2 ?h1 ?h2 (by rfl); walk_at "P v2")
  | (refine' EB.inT3 ?h1 ?h2 (by rfl); walk_at "P v2")
  | (refine' EB.inS ?h1 ?h2 (by rfl); walk_at "P v2")
  | (refine' EB.niS ?h1 ?h2 (by rfl); walk_at "P v2")
  | (refine' EB.chain ?h1 ?h2 ?h3 (by rfl); walk_at "P v2"; (case h3 => walk_at "P v"))))
local macro_rules | `(tactic| walk_at "P s") => `(tactic| (first
  | (refine' SS.asg3s ?h1 (by rfl) (by rfl) (by rfl) (by intros; with_unfolding_all rfl) (by intros; with_unfolding_all rfl) ?_; (case h1 => walk_at "P v"))
  | (refine' SS.asg3 ?h1 (by rfl) (by rfl) (by rfl) (by intros; with_unfolding_all rfl) (by intros; with_unfolding_all rfl) ?_; (case h1 => walk_at "P v"))))
-- @end

-- piece 111
-- needs: 103 01
theorem gf_44 : GF (Str.ofString "figures_of") 44 := ⟨fun _ => rfl, fun _ => rfl⟩
theorem figures_of_pf (n : Int) : PF 44 1 [.i n] (.i (figs n)) := by
  (k_dflt (refine pf_in1 (F := ⟨_, _⟩) (fun _ => by rfl) (fun _ => by rfl) (fun _ => by rfl) (by rfl) ⟨rfl, rfl, rfl, by decide⟩ (by rfl) fun Cx => ?_); (try dsimp only))
  walk_at "P s"
  refine SS.whl (α := Int × Int) (fun x => FigW n x.1 x.2) (fun x => [(PySem.Str.ofString "many", .i x.1), (PySem.Str.ofString "bound", .i x.2), (PySem.Str.ofString "number", .i n)]) (fun x => decide (x.2 ≤ n)) (fun x => (n + 1 - x.2).toNat) (1, 10) figW0 (.cons rfl (.cons rfl (.cons rfl .nil))) ?_ ?_ ?_
  · intro x hx
    walk_at "P b"
  · intro x hx hb
    simp only [decide_eq_true_eq] at hb
    walk_at "P s"
    walk_at "P s"
    walk_at "P s"
    exact ⟨(x.1 + 1, x.2 * 10), figW1 hx hb, figW_pos hx hb, .cons rfl (.cons rfl (.cons rfl .nil))⟩
  · intro x hx hb
    simp only [decide_eq_false_iff_not] at hb
    walk_at "P s"
    show PV.i _ = PV.i _
    rw [figs_end hx hb]
-- @use
local macro_rules | `(tactic| walk_at "P call") => `(tactic| (refine' EV.call gf_44 ?h1 (figures_of_pf _) (by decide) (by rfl) (by decide) (by rfl) (by rfl); (case h1 => walk_at "P a")))
-- @end

-- piece 112
-- needs: 111 02
theorem gf_51 : GF (Str.ofString "rounded_by") 51 := ⟨fun _ => rfl, fun _ => rfl⟩
theorem rounded_by_pf (n p : Int) (hp : p ≤ 100) : PF 51 2 [.i n, .i p] (.i (rnd n p)) := by
  (k_dflt (refine pf_in2 (F := ⟨_, _⟩) (fun _ => by rfl) (fun _ => by rfl) (fun _ _ => by rfl) (by rfl) (by rfl) ⟨rfl, rfl, rfl, by decide⟩ (by rfl) fun Cx => ?_); (try dsimp only))
  repeat' walk_at "P s"
  all_goals (show PV.i _ = PV.i _; congr 1; unfold rnd; (repeat' split) <;> first | rfl | omega)
-- @use
local macro_rules | `(tactic| walk_at "P call") => `(tactic| (refine' EV.call (d := 2) gf_51 ?h1 ?h2 (by decide) (by rfl) (by decide) (by rfl) (by rfl); (case h1 => walk_at "P a"); (case h2 => exact rounded_by_pf _ _ (by omega))))
-- @end

-- piece 113
-- needs: 112 03
theorem gf_58 : GF (Str.ofString "made") 58 := ⟨fun _ => rfl, fun _ => rfl⟩
theorem mad_if {c e d s1 e1 : Int} (h1 : s1 = if 0 < figs c.natAbs - d then rnd c.natAbs (figs c.natAbs - d) else c.natAbs) (h2 : e1 = if 0 < figs c.natAbs - d then e + (figs c.natAbs - d) else e) :
    mad c e d = if s1 = 0 then (0, 0) else (if c < 0 then -(stripZ s1 e1).1 else (stripZ s1 e1).1, (stripZ s1 e1).2) := by
  subst h1; subst h2; unfold mad; split <;> rfl
theorem made_pf (c e d : Int) (hc : (c.natAbs : Int) < 10 ^ 20) (he1 : -60 ≤ e) (he2 : e ≤ 20) (hd : 1 ≤ d) : PF 58 3 [.i c, .i e, .i d] (.t2 (.i (mad c e d).1) (.i (mad c e d).2)) := by
  have hf := figs_le (n := c.natAbs) (k := 20) (by decide) hc
  have hf0 := figs_pos c.natAbs
  obtain ⟨s1, hs1⟩ : ∃ s, s = if 0 < figs c.natAbs - d then rnd c.natAbs (figs c.natAbs - d) else c.natAbs := ⟨_, rfl⟩
  obtain ⟨e1, he⟩ : ∃ x, x = if 0 < figs c.natAbs - d then e + (figs c.natAbs - d) else e := ⟨_, rfl⟩
  have hb : 0 ≤ s1 ∧ e1 + figs s1 ≤ 99 ∧ -98 ≤ e1 + figs s1 := by
    rw [hs1, he]
    split
    · have hr := figs_rnd (n := c.natAbs) (d := d) (by omega) (by assumption)
      have hr0 := figs_pos (rnd c.natAbs (figs c.natAbs - d))
      exact ⟨rnd_nonneg (by omega), by omega, by omega⟩
    · exact ⟨by omega, by omega, by omega⟩
  rw [mad_if hs1 he]
  (k_dflt (refine pf_in3 (F := ⟨_, _⟩) (fun _ => by rfl) (fun _ => by rfl) (fun _ _ _ => by rfl) (by rfl) (by rfl) (by rfl) ⟨rfl, rfl, rfl, by decide⟩ (by rfl) fun Cx => ?_); (try dsimp only))
  walk_at "P s"
  walk_at "P s"
  refine SS.itej [(Str.ofString "size", .i s1), (Str.ofString "exponent", .i e1), (Str.ofString "coefficient", .i c)] (by walk_at "P b") ?_ ?_ ?_
  · intro h1
    simp only [decide_eq_true_eq] at h1
    walk_at "P s"
    walk_at "P s"
    rw [hs1, he, if_pos h1, if_pos h1]
    exact .cons rfl (.cons rfl (.cons rfl .nil))
  · intro h1
    simp only [decide_eq_false_iff_not] at h1
    walk_at "P s"
    rw [hs1, he, if_neg h1, if_neg h1]
    exact .cons rfl (.cons rfl (.cons rfl .nil))
  clear hs1 he hf hf0 hc he1 he2
  obtain ⟨hb0, hb1, hb2⟩ := hb
  refine SS.ite (by walk_at "P b") ?_ ?_
  · intro h1
    simp only [beq_iff_eq] at h1
    walk_at "P s"
    show PV.t2 _ _ = PV.t2 _ _
    rw [if_pos h1]
  intro h1
  simp only [beq_eq_false_iff_ne] at h1
  rw [if_neg h1]
  walk_at "P s"
  refine SS.whl (α := Int × Int) (fun x => MadW s1 e1 x.1 x.2) (fun x => [(PySem.Str.ofString "size", .i x.1), (PySem.Str.ofString "exponent", .i x.2), (PySem.Str.ofString "coefficient", .i c)]) (fun x => x.1 % 10 == 0) (fun x => x.1.toNat) (s1, e1) (madW0 hb0 h1 hb1 hb2) (.cons rfl (.cons rfl (.cons rfl .nil))) (fun x hx => by walk_at "P b") ?_ ?_
  · intro x hx h2
    simp only [beq_iff_eq] at h2
    walk_at "P s"
    walk_at "P s"
    exact ⟨(x.1 / 10, x.2 + 1), madW1 hx h2, madW_m hx h2, .cons rfl (.cons rfl (.cons rfl .nil))⟩
  · intro x hx h2
    simp only [beq_eq_false_iff_ne] at h2
    obtain ⟨g1, g2, g3⟩ := madW_end hx h2
    walk_at "P s"
    refine SS.ite (by walk_at "P b") (fun h3 => absurd h3 (by simp only [decide_eq_true_eq]; omega)) fun _ => ?_
    walk_at "P s"
    refine SS.ite (by walk_at "P b") (fun h3 => absurd h3 (by simp only [decide_eq_true_eq]; omega)) fun _ => ?_
    walk_at "P s"
    walk_at "P s"
    show PV.t2 _ _ = PV.t2 _ _
    rw [g1]
    simp only [decide_eq_true_eq]
-- @use
local macro_rules | `(tactic| walk_at "P call") => `(tactic| (refine' EV.call (d := 3) gf_58 ?h1 ?h2 (by decide) (by rfl) (by decide) (by rfl) (by rfl); (case h1 => walk_at "P a"); (case h2 => exact made_pf _ _ _ (by omega) (by omega) (by omega) (by omega))))
-- @end

-- piece 114
-- needs: 113 104
theorem decimal_of_i_pf (c : Int) (hc : (c.natAbs : Int) < 10 ^ 20) : PF 65 4 [.i c, .i 9] (.t2 (.i (mad c 0 9).1) (.i (mad c 0 9).2)) := by
  (k_dflt (refine pf_in2 (F := ⟨_, _⟩) (fun _ => by rfl) (fun _ => by rfl) (fun _ _ => by rfl) (by rfl) (by rfl) ⟨rfl, rfl, rfl, by decide⟩ (by rfl) fun Cx => ?_); (try dsimp only))
  walk_at "P no"
  walk_at "P s"
  exact rfl
theorem decimal_of_t_pf (c e : Int) (hc : (c.natAbs : Int) < 10 ^ 20) (he1 : -60 ≤ e) (he2 : e ≤ 20) : PF 65 4 [.t2 (.i c) (.i e), .i 9] (.t2 (.i (mad c e 9).1) (.i (mad c e 9).2)) := by
  (k_dflt (refine pf_in2 (F := ⟨_, _⟩) (fun _ => by rfl) (fun _ => by rfl) (fun _ _ => by rfl) (by rfl) (by rfl) ⟨rfl, rfl, rfl, by decide⟩ (by rfl) fun Cx => ?_); (try dsimp only))
  walk_at "P no"
  walk_at "P s"
  exact rfl
theorem gf_65 : GF (Str.ofString "decimal_of") 65 := ⟨fun _ => rfl, fun _ => rfl⟩
theorem d_size_pf (c e : Int) : PF 211 1 [.t2 (.i c) (.i e)] (.t2 (.i c.natAbs) (.i e)) := by
  (k_dflt (refine pf_in1 (F := ⟨_, _⟩) (fun _ => by rfl) (fun _ => by rfl) (fun _ => by rfl) (by rfl) ⟨rfl, rfl, rfl, by decide⟩ (by rfl) fun Cx => ?_); (try dsimp only))
  walk_at "P s"
  exact rfl
theorem gf_211 : GF (Str.ofString "d_size") 211 := ⟨fun _ => rfl, fun _ => rfl⟩
theorem scaled_pf (c e p : Int) (h0 : 0 ≤ c) (hc : c < 10 ^ 12) (he : -100 ≤ e + p) (he2 : e + p ≤ 100) : PF 142 3 [.i c, .i e, .i p] (.i (scl c e p)) := by
  (k_dflt (refine pf_in3 (F := ⟨_, _⟩) (fun _ => by rfl) (fun _ => by rfl) (fun _ _ _ => by rfl) (by rfl) (by rfl) (by rfl) ⟨rfl, rfl, rfl, by decide⟩ (by rfl) fun Cx => ?_); (try dsimp only))
  repeat' walk_at "P s"
  · show PV.i _ = PV.i _
    rw [scl, if_pos (by assumption)]
  · show PV.i _ = PV.i _
    rw [scl, if_neg (by omega)]
theorem gf_142 : GF (Str.ofString "scaled") 142 := ⟨fun _ => rfl, fun _ => rfl⟩
theorem gv_nought : GV (Str.ofString "NOUGHT") (.t2 (.i 0) (.i 0)) := ⟨fun _ _ => ⟨_, rfl, 204, _, _, rfl, .inr rfl, ⟨_, rfl⟩, ⟨_, rfl⟩⟩⟩
-- @use
local macro_rules | `(tactic| walk_at "P call") => `(tactic| exact EV.gl gv_nought (by rfl) (by decide))
local macro_rules | `(tactic| walk_at "P call") => `(tactic| (refine' EV.call (d := 3) gf_142 ?h1 ?h2 (by decide) (by rfl) (by decide) (by rfl) (by rfl); (case h1 => walk_at "P a"); (case h2 => exact scaled_pf _ _ _ (by omega) (by omega) (by omega) (by omega))))
-- @end
theorem told_decimal_pf (c e : Int) (hc : (c.natAbs : Int) < 10 ^ 20) (he1 : -60 ≤ e) (he2 : e ≤ 20) : PF 260 4 [.i c, .i e, .i 9] (.t2 (.i (mad c e 9).1) (.i (mad c e 9).2)) := by
  have hf := figs_le (n := c.natAbs) (k := 20) (by decide) hc
  have hf0 := figs_pos c.natAbs
  (k_dflt (refine pf_in3 (F := ⟨_, _⟩) (fun _ => by rfl) (fun _ => by rfl) (fun _ _ _ => by rfl) (by rfl) (by rfl) (by rfl) ⟨rfl, rfl, rfl, by decide⟩ (by rfl) fun Cx => ?_); (try dsimp only))
  walk_at "P s"
  refine SS.ite (by walk_at "P b") ?_ ?_
  · intro h
    simp only [Bool.or_eq_true, Bool.or_false, beq_iff_eq, decide_eq_true_eq] at h
    have h0 : c = 0 := by omega
    subst h0
    walk_at "P s"
    rw [mad_zero (by decide)]
    exact rfl
  · intro _
    walk_at "P s"
    refine SS.ite (by walk_at "P b") (fun h3 => absurd h3 (by simp only [decide_eq_true_eq]; omega)) fun _ => ?_
    walk_at "P s"
    walk_at "P s"
    exact rfl
theorem gf_260 : GF (Str.ofString "told_decimal") 260 := ⟨fun _ => rfl, fun _ => rfl⟩
theorem d_round_pf (c e p : Int) (hc : (c.natAbs : Int) < 10 ^ 19) (he1 : -60 ≤ e) (he2 : e ≤ 20) (hp : 0 ≤ p) (hp2 : p ≤ 10) : PF 232 4 [.t2 (.i c) (.i e), .i p, .i 9] (.t2 (.i (drd c e p).1) (.i (drd c e p).2)) := by
  have hf := figs_le (n := c.natAbs) (k := 20) (by decide) (by omega)
  have hf0 := figs_pos c.natAbs
  have hr := rnd_lt (n := c.natAbs) (p := 0 - p - e) (k := 19) (by omega) hc
  have hr0 := rnd_nonneg (n := c.natAbs) (p := 0 - p - e) (by omega)
  (k_dflt (refine pf_in3 (F := ⟨_, _⟩) (fun _ => by rfl) (fun _ => by rfl) (fun _ _ _ => by rfl) (by rfl) (by rfl) (by rfl) ⟨rfl, rfl, rfl, by decide⟩ (by rfl) fun Cx => ?_); (try dsimp only))
  walk_at "P s"
  refine SS.ite (by walk_at "P b") ?_ ?_
  · intro h
    simp only [Bool.or_eq_true, Bool.or_false, beq_iff_eq, decide_eq_true_eq] at h
    walk_at "P s"
    have e1 : drd c e p = (c, e) := by
      unfold drd
      rcases h with h | h
      · rw [if_pos h]
      · split
        · rfl
        · first | rfl | rw [if_pos h]
    rw [e1]
    exact rfl
  intro h
  simp only [Bool.or_eq_false_iff, Bool.or_false, beq_eq_false_iff_ne, decide_eq_false_iff_not] at h
  obtain ⟨h1, h2⟩ := h
  walk_at "P s"
  walk_at "P s"
  walk_at "P s"
  refine SS.itej [(Str.ofString "found", .i (rnd c.natAbs (0 - p - e))), (Str.ofString "more", .i (0 - p - e)), (Str.ofString "a", .t2 (.i c) (.i e)), (Str.ofString "digits", .i 9)] (by walk_at "P b") ?_ ?_ ?_
  · intro h3
    walk_at "P s"
    walk_at "P s"
    rw [← rnd_min (by omega) h1]
    unfold hlf
    rw [if_pos (by simpa using h3)]
    exact .cons rfl (.cons rfl (.cons rfl (.cons rfl .nil)))
  · intro h3
    walk_at "P s"
    rw [← rnd_min (by omega) h1]
    unfold hlf
    rw [if_neg (by simpa using h3)]
    exact .cons rfl (.cons rfl (.cons rfl (.cons rfl .nil)))
  · refine SS.ite (by walk_at "P b") ?_ ?_
    · intro h4
      simp only [beq_iff_eq] at h4
      walk_at "P s"
      unfold drd
      rw [if_neg h1, if_neg h2, if_pos h4]
      exact rfl
    · intro h4
      simp only [beq_eq_false_iff_ne] at h4
      walk_at "P s"
      refine SS.ret (v := .t2 (.i (mad (if 0 < c then rnd c.natAbs (0 - p - e) else 0 - rnd c.natAbs (0 - p - e)) (e + (0 - p - e)) 9).1) (.i (mad (if 0 < c then rnd c.natAbs (0 - p - e) else 0 - rnd c.natAbs (0 - p - e)) (e + (0 - p - e)) 9).2)) ?_ ?_
      · refine EV.call (d := 3) (vs := [.i (if 0 < c then rnd c.natAbs (0 - p - e) else 0 - rnd c.natAbs (0 - p - e)), .i (e + (0 - p - e)), .i 9]) gf_58 ?_ (made_pf _ _ _ (by split <;> omega) (by omega) (by omega) (by omega)) (by decide) (by rfl) (by decide) (by rfl) (by rfl)
        refine EA.cons (EV.cast (by walk_at "P v") (by simp only [decide_eq_true_eq])) (by walk_at "P a") (by rfl)
      · show PV.t2 _ _ = PV.t2 _ _
        unfold drd
        rw [if_neg h1, if_neg h2, if_neg h4]
theorem gf_232 : GF (Str.ofString "d_round") 232 := ⟨fun _ => rfl, fun _ => rfl⟩
def alk (c1 e1 e2 : Int) : Int := c1 * 10 ^ (e1 - min e1 e2).toNat
theorem alike_pf (c1 e1 c2 e2 : Int) (h1 : (c1.natAbs : Int) < 10 ^ 18) (h2 : (c2.natAbs : Int) < 10 ^ 18) (he1 : -60 ≤ e1) (he2 : e1 ≤ 20) (he3 : -60 ≤ e2) (he4 : e2 ≤ 20) :
    PF 218 1 [.t2 (.i c1) (.i e1), .t2 (.i c2) (.i e2)] (.t3 (.i (alk c1 e1 e2)) (.i (alk c2 e2 e1)) (.i (min e1 e2))) := by
  (k_dflt (refine pf_in2 (F := ⟨_, _⟩) (fun _ => by rfl) (fun _ => by rfl) (fun _ _ => by rfl) (by rfl) (by rfl) ⟨rfl, rfl, rfl, by decide⟩ (by rfl) fun Cx => ?_); (try dsimp only))
  walk_at "P s"
  walk_at "P s"
  unfold alk
  rw [Int.min_comm e2 e1]
  exact rfl
theorem gf_218 : GF (Str.ofString "alike") 218 := ⟨fun _ => rfl, fun _ => rfl⟩
theorem d_compare_pf (c1 e1 c2 e2 : Int) (h1 : (c1.natAbs : Int) < 10 ^ 18) (h2 : (c2.natAbs : Int) < 10 ^ 18) (he1 : -60 ≤ e1) (he2 : e1 ≤ 20) (he3 : -60 ≤ e2) (he4 : e2 ≤ 20) :
    PF 225 2 [.t2 (.i c1) (.i e1), .t2 (.i c2) (.i e2)] (.i ((if decide (alk c2 e2 e1 < alk c1 e1 e2) then 1 else 0) - (if decide (alk c1 e1 e2 < alk c2 e2 e1) then 1 else 0))) := by
  (k_dflt (refine pf_in2 (F := ⟨_, _⟩) (fun _ => by rfl) (fun _ => by rfl) (fun _ _ => by rfl) (by rfl) (by rfl) ⟨rfl, rfl, rfl, by decide⟩ (by rfl) fun Cx => ?_); (try dsimp only))
  refine SS.asg3 (v1 := .i (alk c1 e1 e2)) (v2 := .i (alk c2 e2 e1)) (v3 := .i (min e1 e2)) (EV.call gf_218 (by walk_at "P a") (alike_pf _ _ _ _ h1 h2 he1 he2 he3 he4) (by decide) (by rfl) (by decide) (by rfl) (by rfl)) (by rfl) (by rfl) (by rfl) (by intros; with_unfolding_all rfl) (by intros; with_unfolding_all rfl) ?_
  walk_at "P s"
  exact rfl
theorem gf_225 : GF (Str.ofString "d_compare") 225 := ⟨fun _ => rfl, fun _ => rfl⟩

-- piece 115
-- needs: 114 05 06
theorem digits_len : (PySem.Str.ofString "0123456789").length = 10 := by decide +kernel
theorem padded_figures_pf (n k : Int) (h0 : 0 ≤ n) (hn : figs n ≤ 50) (hk : k ≤ 100) : PF 135 1 [.i n, .i k] (.s (St (padL n k []))) := by
  (k_dflt (refine pf_in2 (F := ⟨_, _⟩) (fun _ => by rfl) (fun _ => by rfl) (fun _ _ => by rfl) (by rfl) (by rfl) ⟨rfl, rfl, rfl, by decide⟩ (by rfl) fun Cx => ?_); (try dsimp only))
  walk_at "P s"
  refine SS.whl (α := PySem.Str × Int) (fun x => PadW n k x.1 x.2) (fun x => [(PySem.Str.ofString "found", .s x.1), (PySem.Str.ofString "number", .i x.2), (PySem.Str.ofString "many", .i k)]) (fun x => decide (0 < x.2) || (decide ((x.1.length : Int) < k) || false)) (fun x => x.2.toNat + (k - x.1.length).toNat) (PySem.Str.ofString "", n) (padW0 h0 hn) (.cons rfl (.cons rfl (.cons rfl .nil))) ?_ ?_ ?_
  · intro x hx
    have hl := padW_len hx
    walk_at "P b"
  · intro x hx hb
    have hl := padW_len hx
    simp only [Bool.or_eq_true, Bool.or_false, decide_eq_true_eq] at hb
    refine SS.asg2s (v1 := .s (Txt.item (PySem.Str.ofString "0123456789") (x.2 % 10) ++ x.1)) (v2 := .i (x.2 / 10)) (EV.tup2 (EA.cons (EV.cat (EV.idx EV.str (EV.fmd (by walk_at "P v") EV.int (by decide)) (by omega) (by rw [digits_len]; omega) (by rw [digits_len]; decide) (by intros; with_unfolding_all rfl) (by intros; with_unfolding_all rfl)) (by walk_at "P v") (by rw [item_digit]; show 1 + _ ≤ _; omega)) (by walk_at "P a") (by rfl))) (by rfl) (by rfl) (by intros; with_unfolding_all rfl) (by intros; with_unfolding_all rfl) ?_
    walk_at "P s"
    exact ⟨(_, _), padW1 hk hx hb, padW_m hx hb, .cons rfl (.cons rfl (.cons rfl .nil))⟩
  · intro x hx hb
    simp only [Bool.or_eq_false_iff, Bool.or_false, decide_eq_false_iff_not] at hb
    walk_at "P s"
    show PV.s _ = PV.s _
    rw [padW_end hx hb.1 hb.2]
theorem gf_135 : GF (Str.ofString "padded_figures") 135 := ⟨fun _ => rfl, fun _ => rfl⟩
theorem grouped_pf (x : PySem.Str) (hx : x.length ≤ 100) : PF 149 1 [.s x] (.s (St (grp (Lz x)))) := by
  (k_dflt (refine pf_in1 (F := ⟨_, _⟩) (fun _ => by rfl) (fun _ => by rfl) (fun _ => by rfl) (by rfl) ⟨rfl, rfl, rfl, by decide⟩ (by rfl) fun Cx => ?_); (try dsimp only))
  walk_at "P s"
  refine SS.whl (α := PySem.Str × PySem.Str) (fun y => GrpW x y.1 y.2) (fun y => [(PySem.Str.ofString "figures", .s y.1), (PySem.Str.ofString "found", .s y.2)]) (fun y => decide (3 < (y.1.length : Int))) (fun y => y.1.length) (x, Txt.slice x (some (-3)) none) (grpW0 hx) (.cons rfl (.cons rfl .nil)) ?_ ?_ ?_
  · intro y hy
    have hl := grpW_len hy
    walk_at "P b"
  · intro y hy hb
    have hl := grpW_len hy
    simp only [decide_eq_true_eq] at hb
    walk_at "P s"
    have h3 := len_but3 y.1
    have h4 := len_last3 (Txt.slice y.1 none (some (-3)))
    have h5 := len_comma
    walk_at "P s"
    walk_at "P s"
    exact ⟨(_, _), grpW1 hy hb, grpW_m hb, .cons rfl (.cons rfl .nil)⟩
  · intro y hy hb
    simp only [decide_eq_false_iff_not] at hb
    walk_at "P s"
    show PV.s _ = PV.s _
    rw [grpW_end hy hb]
theorem gf_149 : GF (Str.ofString "grouped") 149 := ⟨fun _ => rfl, fun _ => rfl⟩

-- piece 116
-- needs: 115
theorem gv_mf : GV (Str.ofString "MOST_FIGURES") (.i 300) := ⟨fun _ _ => ⟨_, rfl, _, rfl⟩⟩
theorem gv_mp : GV (Str.ofString "MOST_POWER") (.i 9999) := ⟨fun _ _ => ⟨_, rfl, _, rfl⟩⟩
theorem gv_bl : GV (Str.ofString "BLANKS") (.s (Str.ofString " \t")) := ⟨fun _ _ => ⟨_, rfl, _, rfl⟩⟩
theorem item_len {x : PySem.Str} {a : Int} (h0 : 0 ≤ a) (h1 : a < x.length) : (Txt.item x a).length = 1 := by
  obtain ⟨c, _, hi⟩ := item_lz h0 h1
  rw [hi]; rfl
-- @use
local macro_rules | `(tactic| walk_at "P call") => `(tactic| first | exact EV.gl gv_mf (by rfl) (by decide) | exact EV.gl gv_mp (by rfl) (by decide) | exact EV.gl gv_bl (by rfl) (by decide))
-- @end
theorem run_of_figures_pf (x : PySem.Str) (a : Int) (hx : x.length ≤ 100) (h0 : 0 ≤ a) (h1 : a ≤ x.length) : PF 239 1 [.s x, .i a] (.t3 (.i (runF (Lz x) a.toNat 0).1) (.i ((runF (Lz x) a.toNat 0).2 - a)) (.i (runF (Lz x) a.toNat 0).2)) := by
  (k_dflt (refine pf_in2 (F := ⟨_, _⟩) (fun _ => by rfl) (fun _ => by rfl) (fun _ _ => by rfl) (by rfl) (by rfl) ⟨rfl, rfl, rfl, by decide⟩ (by rfl) fun Cx => ?_); (try dsimp only))
  walk_at "P s"
  refine SS.whl (α := Int × Int) (fun y => 0 ≤ y.2 ∧ y.2 ≤ x.length ∧ a ≤ y.2 ∧ runF (Lz x) y.2.toNat y.1 = runF (Lz x) a.toNat 0) (fun y => [(PySem.Str.ofString "found", .i y.1), (PySem.Str.ofString "at", .i y.2), (PySem.Str.ofString "text", .s x), (PySem.Str.ofString "begin", .i a)])
    (fun y => decide (y.2 < (x.length : Int)) && (((!decide ((Txt.item x y.2).cps.toList < (PySem.Str.ofString "0").cps.toList)) && (!decide ((PySem.Str.ofString "9").cps.toList < (Txt.item x y.2).cps.toList))) && (decide (y.2 - a < 300) && true))) (fun y => ((x.length : Int) - y.2).toNat) (0, a) (runW0 h0 h1) (.cons rfl (.cons rfl (.cons rfl (.cons rfl .nil)))) ?_ ?_ ?_
  · rintro y ⟨g0, g1, g2, g3⟩
    walk_at "P b"
  · rintro y ⟨g0, g1, g2, g3⟩ hb
    simp only [Bool.and_eq_true, Bool.and_true, Bool.not_eq_true', decide_eq_true_eq, decide_eq_false_iff_not] at hb
    have hl := item_len g0 hb.1
    walk_at "P s"
    walk_at "P s"
    walk_at "P s"
    exact ⟨(_, _), runW1 ⟨g0, g1, g2, g3⟩ hb.1 hb.2.1.1 hb.2.1.2, by show ((x.length : Int) - (y.2 + 1)).toNat < _; omega, .cons rfl (.cons rfl (.cons rfl (.cons rfl .nil)))⟩
  · rintro y ⟨g0, g1, g2, g3⟩ hb
    have hE : runF (Lz x) a.toNat 0 = (y.1, y.2.toNat) := by
      by_cases q1 : y.2 < (x.length : Int)
      · by_cases q2 : (Txt.item x y.2).cps.toList < (PySem.Str.ofString "0").cps.toList
        · exact runW_end2 g3 g0 q1 q2
        · by_cases q3 : (PySem.Str.ofString "9").cps.toList < (Txt.item x y.2).cps.toList
          · exact runW_end3 g3 g0 q1 q3
          · exfalso
            simp only [q1, q2, q3, decide_true, decide_false, Bool.not_false, Bool.true_and, Bool.and_true, decide_eq_false_iff_not] at hb
            omega
      · exact runW_end1 g3 g0 q1
    walk_at "P s"
    show PV.t3 _ _ _ = PV.t3 _ _ _
    rw [hE, Int.toNat_of_nonneg g0]
theorem gf_239 : GF (Str.ofString "run_of_figures") 239 := ⟨fun _ => rfl, fun _ => rfl⟩

-- piece 117
-- needs: 116 07
theorem exponent_at_pf (x : PySem.Str) (a : Int) (hx : x.length ≤ 100) (hA : ∀ c ∈ Lz x, c < 128) (h0 : 0 ≤ a) (h1 : a ≤ x.length) : PF 246 2 [.s x, .i a] (.t2 (.i (expA (Lz x) a).1) (.i (expA (Lz x) a).2)) := by
  (k_dflt (refine pf_in2 (F := ⟨_, _⟩) (fun _ => by rfl) (fun _ => by rfl) (fun _ _ => by rfl) (by rfl) (by rfl) ⟨rfl, rfl, rfl, by decide⟩ (by rfl) fun Cx => ?_); (try dsimp only))
  refine SS.ite (by walk_at "P b") ?_ ?_
  · intro hb
    simp only [Bool.or_eq_true, Bool.or_false, Bool.not_eq_true', Bool.not_not, decide_eq_true_eq] at hb
    walk_at "P s"
    have e : expA (Lz x) a = (0, a) := by
      by_cases q : (x.length : Int) ≤ a
      · exact expA_out (by rw [lz_length]; omega)
      · obtain ⟨c, hc, hE⟩ := at_E hA h0 q (hb.resolve_left q)
        exact expA_no hc (by rw [hE]; decide)
    rw [e]
    exact rfl
  intro hb
  simp only [Bool.or_eq_false_iff, Bool.or_false, Bool.not_eq_false', Bool.not_not, decide_eq_false_iff_not] at hb
  obtain ⟨q, hb2⟩ := hb
  obtain ⟨c, hc, hE⟩ := at_E hA h0 q hb2
  obtain ⟨s1, hs1⟩ : ∃ b, (Txt.slice x (some (a + 1)) (some (a + 1 + 1)) == PySem.Str.ofString "-") = b := ⟨_, rfl⟩
  obtain ⟨s2, hs2⟩ : ∃ b, ([PySem.Str.ofString "+", PySem.Str.ofString "-"].any fun y => y == Txt.slice x (some (a + 1)) (some (a + 1 + 1))) = b := ⟨_, rfl⟩
  have hY := expA_yes hc (by rw [hE]) (at_minus (by omega) hs1) (at_sign (by omega) hs2)
  obtain ⟨bg, hbg⟩ : ∃ z, z = if s2 = true then a + 1 + 1 else a + 1 := ⟨_, rfl⟩
  obtain ⟨sg, hsg⟩ : ∃ z : Int, z = if s1 = true then -1 else 1 := ⟨_, rfl⟩
  have hg1 : 0 ≤ bg ∧ bg ≤ x.length := by
    rw [hbg]; split
    · rename_i h; rw [h] at hs2; have := sign_lt' hs2 (by omega); omega
    · omega
  have hg2 : -1 ≤ sg ∧ sg ≤ 1 := by rw [hsg]; split <;> omega
  rw [← hbg, ← hsg] at hY
  rw [hY]
  walk_at "P s"
  walk_at "P s"
  refine SS.asg (v := .i sg) (EV.cast (by walk_at "P v") (by rw [hs1, hsg])) (by rfl) (by intros; with_unfolding_all rfl) ?_
  refine SS.itej [(Str.ofString "begin", .i bg), (Str.ofString "sign", .i sg), (Str.ofString "text", .s x), (Str.ofString "at", .i a)] (by walk_at "P b") ?_ ?_ ?_
  · intro h
    walk_at "P s"
    walk_at "P s"
    rw [hbg, if_pos (hs2.symm.trans h)]
    exact .cons rfl (.cons rfl (.cons rfl (.cons rfl .nil)))
  · intro h
    walk_at "P s"
    rw [hbg, if_neg (by rw [← hs2, h]; decide)]
    exact .cons rfl (.cons rfl (.cons rfl (.cons rfl .nil)))
  clear hY hs1 hs2 hsg hbg hE hc
  refine SS.asg3 (EV.call gf_239 (by walk_at "P a") (run_of_figures_pf x bg hx hg1.1 hg1.2) (by decide) (by rfl) (by decide) (by rfl) (by rfl)) (by rfl) (by rfl) (by rfl) (by intros; with_unfolding_all rfl) (by intros; with_unfolding_all rfl) ?_
  refine SS.ite (by walk_at "P b") ?_ ?_
  · intro h
    simp only [beq_iff_eq] at h
    walk_at "P s"
    rw [if_pos h]
    exact rfl
  · intro h
    simp only [beq_eq_false_iff_ne] at h
    walk_at "P s"
    walk_at "P s"
    rw [if_neg h]
    exact rfl
theorem gf_246 : GF (Str.ofString "exponent_at") 246 := ⟨fun _ => rfl, fun _ => rfl⟩

-- piece 118
-- needs: 117 40
theorem occ_blank : ∀ c : Nat, c < 128 → (Builtin.Str.occurrences (PySem.Str.ofString " \t") (St [c]) 0 (PySem.Str.ofString " \t").length 1).isEmpty = !decide (c = 32 ∨ c = 9) := by decide +kernel
theorem no_blank {x : PySem.Str} {a : Int} (hx : ∀ c ∈ Lz x, c < 128) (hb : ∀ c, (Lz x)[0]? = some c → c ≠ 32 ∧ c ≠ 9) (h0 : a = 0) (h1 : a < x.length) (h : (Builtin.Str.occurrences (PySem.Str.ofString " \t") (Txt.item x a) 0 (PySem.Str.ofString " \t").length 1).isEmpty = false) : False := by
  obtain ⟨c, hc, hi⟩ := item_lz (x := x) (i := a) (by omega) h1
  rw [hi, occ_blank c (hx c (List.mem_of_getElem? hc))] at h
  subst h0
  have := hb c hc
  simp only [Bool.not_eq_false', decide_eq_true_eq] at h
  omega
theorem sg0_of {x : PySem.Str} {a : Int} {b : Bool} (h0 : a = 0) (h : ([PySem.Str.ofString "+", PySem.Str.ofString "-"].any fun y => y == Txt.slice x (some a) (some (a + 1))) = b) : sg0 (Lz x) = if b = true then 1 else 0 := by
  subst h0
  have := at_sign (x := x) (a := 0) (by decide) h
  unfold sg0
  simp only [show ((0 : Int).toNat) = 0 from rfl] at this
  simp only [this]
theorem neg_of {x : PySem.Str} {a : Int} {b : Bool} (h : (Txt.slice x (some a) (some (a + 1)) == PySem.Str.ofString "-") = b) (h0 : a = 0) : ((Lz x)[0]? = some 45) = (b = true) := by
  subst h0
  exact at_minus (x := x) (a := 0) (by decide) h
theorem run_pf_e (x : PySem.Str) (a f n : Int) (he : runF (Lz x) a.toNat 0 = (f, n.toNat)) (hn : 0 ≤ n) (hx : x.length ≤ 100) (h0 : 0 ≤ a) (h1 : a ≤ x.length) : PF 239 1 [.s x, .i a] (.t3 (.i f) (.i (n - a)) (.i n)) := by
  have h := run_of_figures_pf x a hx h0 h1
  rw [he] at h
  simpa only [Int.toNat_of_nonneg hn] using h
theorem exp_pf_e (x : PySem.Str) (a e n : Int) (he : expA (Lz x) a = (e, n)) (hx : x.length ≤ 100) (hA : ∀ c ∈ Lz x, c < 128) (h0 : 0 ≤ a) (h1 : a ≤ x.length) : PF 246 2 [.s x, .i a] (.t2 (.i e) (.i n)) := by
  have h := exponent_at_pf x a hx hA h0 h1
  rwa [he] at h
def sgnF (l : List Nat) (f : Int) : Int := if l[0]? = some 45 then 0 - f else f
section
variable {F : FI} {C : Fx} {x : PySem.Str} {a0 f : Int}
theorem dt_sgn {b : Bool} (h : (Txt.slice x (some 0) (some (0 + 1)) == PySem.Str.ofString "-") = b) : (if b = true then 0 - f else f) = sgnF (Lz x) f := by
  unfold sgnF
  simp only [neg_of h rfl]
end
theorem d_of_text_np (x : PySem.Str) (a0 a1 n f1 ex : Int) (hx : x.length ≤ 100) (hA : ∀ c ∈ Lz x, c < 128) (hb : ∀ c, (Lz x)[0]? = some c → c ≠ 32 ∧ c ≠ 9) (ha0 : a0 = sg0 (Lz x))
    (h1 : runF (Lz x) a0.toNat 0 = (f1, a1.toNat)) (hp : (Txt.slice x (some a1) (some (a1 + 1)) == PySem.Str.ofString ".") = false) (hE : expA (Lz x) a1 = (ex, n))
    (o0 : 0 ≤ a0) (o1 : a0 < a1) (o2 : a1 ≤ x.length) (q0 : 0 ≤ f1) (q1 : f1 < 10 ^ 18)
    (e0 : -60 ≤ ex) (e1 : ex ≤ 20) :
    PF 253 6 [.s x, .i 9] (.t2 (.t2 (.i (mad (if (Lz x)[0]? = some 45 then 0 - f1 else f1) (ex - 0) 9).1) (.i (mad (if (Lz x)[0]? = some 45 then 0 - f1 else f1) (ex - 0) 9).2)) (.i n)) := by
  (k_dflt (refine pf_in2 (F := ⟨_, _⟩) (fun _ => by rfl) (fun _ => by rfl) (fun _ _ => by rfl) (by rfl) (by rfl) ⟨rfl, rfl, rfl, by decide⟩ (by rfl) fun Cx => ?_); (try dsimp only))
  walk_at "P s"
  refine SS.whl (α := Unit) (fun _ => True) (fun _ => [(PySem.Str.ofString "at", .i 0), (PySem.Str.ofString "text", .s x), (PySem.Str.ofString "digits", .i 9)])
    (fun _ => decide ((0 : Int) < (x.length : Int)) && ((!(Builtin.Str.occurrences (PySem.Str.ofString " \t") (Txt.item x 0) 0 (PySem.Str.ofString " \t").length 1).isEmpty) && true)) (fun _ => 0) () trivial (.cons rfl (.cons rfl (.cons rfl .nil))) ?_ ?_ ?_
  · intro _ _
    walk_at "P b"
  · intro _ _ h
    simp only [Bool.and_eq_true, Bool.and_true, Bool.not_eq_true', decide_eq_true_eq] at h
    exact (no_blank hA hb rfl h.1 h.2).elim
  intro _ _ _
  obtain ⟨s1, hs1⟩ : ∃ b, (Txt.slice x (some 0) (some (0 + 1)) == PySem.Str.ofString "-") = b := ⟨_, rfl⟩
  obtain ⟨s2, hs2⟩ : ∃ b, ([PySem.Str.ofString "+", PySem.Str.ofString "-"].any fun y => y == Txt.slice x (some 0) (some (0 + 1))) = b := ⟨_, rfl⟩
  have hg := sg0_of rfl hs2
  rw [← ha0] at hg
  simp only [neg_of hs1 rfl]
  refine SS.asg (v := .b s1) (EV.cast (by walk_at "P v") (by rw [hs1])) (by rfl) (by intros; with_unfolding_all rfl) ?_
  refine SS.itej [(Str.ofString "at", .i a0), (Str.ofString "is_below", .b s1), (Str.ofString "text", .s x), (Str.ofString "digits", .i 9)] (by walk_at "P b") ?_ ?_ ?_
  · intro h
    walk_at "P s"
    walk_at "P s"
    rw [hg, if_pos (hs2.symm.trans h)]
    exact .cons rfl (.cons rfl (.cons rfl (.cons rfl .nil)))
  · intro h
    walk_at "P s"
    rw [hg, if_neg (by rw [← hs2, h]; decide)]
    exact .cons rfl (.cons rfl (.cons rfl (.cons rfl .nil)))
  clear hg hs1 hs2
  refine SS.asg3 (EV.call gf_239 (by walk_at "P a") (run_pf_e x a0 f1 a1 h1 (by omega) hx o0 (by omega)) (by decide) (by rfl) (by decide) (by rfl) (by rfl)) (by rfl) (by rfl) (by rfl) (by intros; with_unfolding_all rfl) (by intros; with_unfolding_all rfl) ?_
  walk_at "P s"
  refine SS.ifF (by rw [← hp]; walk_at "P b") (SS.nil ?_)
  show SS _ _ _ _ _
  refine SS.ite (by walk_at "P b") (fun h => absurd h (by simp only [beq_iff_eq]; omega)) fun _ => SS.nil ?_
  show SS _ _ _ _ _
  refine SS.asg2 (EV.call gf_246 (by walk_at "P a") (exp_pf_e x a1 ex n hE hx hA (by omega) o2) (by decide) (by rfl) (by decide) (by rfl) (by rfl)) (by rfl) (by rfl) (by intros; with_unfolding_all rfl) (by intros; with_unfolding_all rfl) ?_
  refine SS.ret (EV.tup2 (EA.cons (EV.call gf_260 (vs := [.i (if s1 = true then 0 - f1 else f1), .i (ex - 0), .i 9]) (by walk_at "P a") (told_decimal_pf _ _ (by split <;> omega) (by omega) (by omega)) (by decide) (by rfl) (by decide) (by rfl) (by rfl)) (by walk_at "P a") (by rfl))) ?_
  exact rfl
theorem d_of_text_pt (x : PySem.Str) (a0 a1 a2 n f1 f2 ex : Int) (hx : x.length ≤ 100) (hA : ∀ c ∈ Lz x, c < 128) (hb : ∀ c, (Lz x)[0]? = some c → c ≠ 32 ∧ c ≠ 9) (ha0 : a0 = sg0 (Lz x))
    (h1 : runF (Lz x) a0.toNat 0 = (f1, a1.toNat)) (hp : (Txt.slice x (some a1) (some (a1 + 1)) == PySem.Str.ofString ".") = true) (h2 : runF (Lz x) (a1 + 1).toNat 0 = (f2, a2.toNat)) (hE : expA (Lz x) a2 = (ex, n))
    (o0 : 0 ≤ a0) (o1 : a0 ≤ a1) (o2 : a1 < x.length) (o3 : a1 + 1 ≤ a2) (o4 : a2 ≤ x.length) (hn : 0 < a1 - a0 + (a2 - (a1 + 1))) (q0 : 0 ≤ f1) (q1 : f1 < 10 ^ 18) (q2 : 0 ≤ f1 * 10 ^ (a2 - (a1 + 1)).toNat + f2) (q3 : f1 * 10 ^ (a2 - (a1 + 1)).toNat + f2 < 10 ^ 19)
    (e0 : -60 ≤ ex - (a2 - (a1 + 1))) (e1 : ex - (a2 - (a1 + 1)) ≤ 20) :
    PF 253 6 [.s x, .i 9] (.t2 (.t2 (.i (mad (if (Lz x)[0]? = some 45 then 0 - (f1 * 10 ^ (a2 - (a1 + 1)).toNat + f2) else f1 * 10 ^ (a2 - (a1 + 1)).toNat + f2) (ex - (a2 - (a1 + 1))) 9).1) (.i (mad (if (Lz x)[0]? = some 45 then 0 - (f1 * 10 ^ (a2 - (a1 + 1)).toNat + f2) else f1 * 10 ^ (a2 - (a1 + 1)).toNat + f2) (ex - (a2 - (a1 + 1))) 9).2)) (.i n)) := by
  (k_dflt (refine pf_in2 (F := ⟨_, _⟩) (fun _ => by rfl) (fun _ => by rfl) (fun _ _ => by rfl) (by rfl) (by rfl) ⟨rfl, rfl, rfl, by decide⟩ (by rfl) fun Cx => ?_); (try dsimp only))
  walk_at "P s"
  refine SS.whl (α := Unit) (fun _ => True) (fun _ => [(PySem.Str.ofString "at", .i 0), (PySem.Str.ofString "text", .s x), (PySem.Str.ofString "digits", .i 9)])
    (fun _ => decide ((0 : Int) < (x.length : Int)) && ((!(Builtin.Str.occurrences (PySem.Str.ofString " \t") (Txt.item x 0) 0 (PySem.Str.ofString " \t").length 1).isEmpty) && true)) (fun _ => 0) () trivial (.cons rfl (.cons rfl (.cons rfl .nil))) ?_ ?_ ?_
  · intro _ _
    walk_at "P b"
  · intro _ _ h
    simp only [Bool.and_eq_true, Bool.and_true, Bool.not_eq_true', decide_eq_true_eq] at h
    exact (no_blank hA hb rfl h.1 h.2).elim
  intro _ _ _
  obtain ⟨s1, hs1⟩ : ∃ b, (Txt.slice x (some 0) (some (0 + 1)) == PySem.Str.ofString "-") = b := ⟨_, rfl⟩
  obtain ⟨s2, hs2⟩ : ∃ b, ([PySem.Str.ofString "+", PySem.Str.ofString "-"].any fun y => y == Txt.slice x (some 0) (some (0 + 1))) = b := ⟨_, rfl⟩
  have hg := sg0_of rfl hs2
  rw [← ha0] at hg
  simp only [neg_of hs1 rfl]
  refine SS.asg (v := .b s1) (EV.cast (by walk_at "P v") (by rw [hs1])) (by rfl) (by intros; with_unfolding_all rfl) ?_
  refine SS.itej [(Str.ofString "at", .i a0), (Str.ofString "is_below", .b s1), (Str.ofString "text", .s x), (Str.ofString "digits", .i 9)] (by walk_at "P b") ?_ ?_ ?_
  · intro h
    walk_at "P s"
    walk_at "P s"
    rw [hg, if_pos (hs2.symm.trans h)]
    exact .cons rfl (.cons rfl (.cons rfl (.cons rfl .nil)))
  · intro h
    walk_at "P s"
    rw [hg, if_neg (by rw [← hs2, h]; decide)]
    exact .cons rfl (.cons rfl (.cons rfl (.cons rfl .nil)))
  clear hg hs1 hs2
  refine SS.asg3 (EV.call gf_239 (by walk_at "P a") (run_pf_e x a0 f1 a1 h1 (by omega) hx o0 (by omega)) (by decide) (by rfl) (by decide) (by rfl) (by rfl)) (by rfl) (by rfl) (by rfl) (by intros; with_unfolding_all rfl) (by intros; with_unfolding_all rfl) ?_
  walk_at "P s"
  refine SS.ifT (by rw [← hp]; walk_at "P b") ?_
  refine SS.asg3 (EV.call gf_239 (by walk_at "P a") (run_pf_e x (a1 + 1) f2 a2 h2 (by omega) hx (by omega) (by omega)) (by decide) (by rfl) (by decide) (by rfl) (by rfl)) (by rfl) (by rfl) (by rfl) (by intros; with_unfolding_all rfl) (by intros; with_unfolding_all rfl) ?_
  refine SS.asg2s (v1 := .i (f1 * 10 ^ (a2 - (a1 + 1)).toNat + f2)) (v2 := .i a2) (EV.tup2 (EA.cons (by walk_at "P v") (EA.cons (EV.cast (by walk_at "P v") (by rw [if_pos (by simpa using hn)])) .nil (by rfl)) (by rfl))) (by rfl) (by rfl) (by intros; with_unfolding_all rfl) (by intros; with_unfolding_all rfl) (SS.nil ?_)
  show SS _ _ _ _ _
  refine SS.ite (by walk_at "P b") (fun h => absurd h (by simp only [beq_iff_eq]; omega)) fun _ => SS.nil ?_
  show SS _ _ _ _ _
  refine SS.asg2 (EV.call gf_246 (by walk_at "P a") (exp_pf_e x a2 ex n hE hx hA (by omega) o4) (by decide) (by rfl) (by decide) (by rfl) (by rfl)) (by rfl) (by rfl) (by intros; with_unfolding_all rfl) (by intros; with_unfolding_all rfl) ?_
  generalize f1 * 10 ^ (a2 - (a1 + 1)).toNat + f2 = ff at *
  refine SS.ret (EV.tup2 (EA.cons (EV.call gf_260 (vs := [.i (if s1 = true then 0 - ff else ff), .i (ex - (a2 - (a1 + 1))), .i 9]) (by walk_at "P a") (told_decimal_pf _ _ (by split <;> omega) (by omega) (by omega)) (by decide) (by rfl) (by decide) (by rfl) (by rfl)) (by walk_at "P a") (by rfl))) ?_
  exact rfl
theorem gf_253 : GF (Str.ofString "d_of_text") 253 := ⟨fun _ => rfl, fun _ => rfl⟩

-- piece 119
-- needs: 118 07
theorem split_figures_pf (u p : Int) (h0 : 0 ≤ u) (hu : figs u ≤ 50) (hp : 0 ≤ p) (hp2 : p ≤ 20) : PF 156 2 [.i u, .i p]
    (.t2 (.s (St ((padL u (p + 1) []).take ((padL u (p + 1) []).length - p.toNat)))) (.s (St ((padL u (p + 1) []).drop ((padL u (p + 1) []).length - p.toNat))))) := by
  have hl := padL_le (k := p + 1) h0 hu (by omega)
  have hl1 : (St (padL u (p + 1) [])).length ≤ 50 := hl
  have hl0 : p + 1 ≤ (St (padL u (p + 1) [])).length := by show p + 1 ≤ ((padL u (p + 1) []).length : Int); rw [padL_length h0]; omega
  (k_dflt (refine pf_in2 (F := ⟨_, _⟩) (fun _ => by rfl) (fun _ => by rfl) (fun _ _ => by rfl) (by rfl) (by rfl) ⟨rfl, rfl, rfl, by decide⟩ (by rfl) fun Cx => ?_); (try dsimp only))
  refine SS.asg (EV.call gf_135 (by walk_at "P a") (padded_figures_pf u (p + 1) h0 hu (by omega)) (by decide) (by rfl) (by decide) (by rfl) (by rfl)) (by rfl) (by intros; with_unfolding_all rfl) ?_
  walk_at "P s"
  show PV.t2 _ _ = PV.t2 _ _
  rw [to_st (by omega), from_st (by omega)]
  have e : ((St (padL u (p + 1) [])).length - p : Int).toNat = (padL u (p + 1) []).length - p.toNat := by
    show (((padL u (p + 1) []).length : Int) - p).toNat = _
    have h : (padL u (p + 1) []).length = (St (padL u (p + 1) [])).length := rfl
    omega
  rw [e, lz_st]
theorem gf_156 : GF (Str.ofString "split_figures") 156 := ⟨fun _ => rfl, fun _ => rfl⟩
theorem lead_of_pf (q : Pic) (b : Bool) : PF 170 1 [.pc q, .b b] (.s (St (leadS q b))) := by
  (k_dflt (refine pf_in2 (F := ⟨_, _⟩) (fun _ => by rfl) (fun _ => by rfl) (fun _ _ => by rfl) (by rfl) (by rfl) ⟨rfl, rfl, rfl, by decide⟩ (by rfl) fun Cx => ?_); (try dsimp only))
  refine SS.ite (by walk_at "P b") ?_ ?_
  · intro h
    walk_at "P s"
    show PV.s _ = PV.s _
    congr 1
    simp only [leadS, h, if_true]
    cases b <;> simp only [if_true, if_false, Bool.false_eq_true] <;> first | exact o_minus | exact o_plus
  · intro h
    walk_at "P s"
    walk_at "P s"
    show PV.s _ = PV.s _
    congr 1
    simp only [leadS, h, Bool.false_eq_true, if_false]
    cases h2 : (q.sign == PySem.Str.ofString "") <;> cases b <;> simp only [Bool.true_and, Bool.and_true, Bool.false_and, Bool.and_false, Bool.false_eq_true, if_true, if_false] <;> first | exact o_minus | exact o_empty
theorem gf_170 : GF (Str.ofString "lead_of") 170 := ⟨fun _ => rfl, fun _ => rfl⟩
theorem tail_of_pf (q : Pic) (b : Bool) : PF 177 1 [.pc q, .b b] (.s (St (tailS q b))) := by
  (k_dflt (refine pf_in2 (F := ⟨_, _⟩) (fun _ => by rfl) (fun _ => by rfl) (fun _ _ => by rfl) (by rfl) (by rfl) ⟨rfl, rfl, rfl, by decide⟩ (by rfl) fun Cx => ?_); (try dsimp only))
  refine SS.ite (by walk_at "P b") ?_ ?_
  · intro h
    walk_at "P s"
    show PV.s _ = PV.s _
    congr 1
    simp only [tailS, h, if_true]
    cases b <;> simp only [if_true, if_false, Bool.false_eq_true] <;> first | exact o_minus | (split <;> first | exact o_plus | exact o_blank)
  · intro h
    walk_at "P s"
    walk_at "P s"
    show PV.s _ = PV.s _
    congr 1
    simp only [tailS, h, Bool.false_eq_true, if_false]
    exact o_empty
theorem gf_177 : GF (Str.ofString "tail_of") 177 := ⟨fun _ => rfl, fun _ => rfl⟩

-- piece 120
-- needs: 119
theorem with_exponent_pf (l r : Int) (pt : Bool) (c e : Int) (hl : 2 ≤ l) (hl2 : l ≤ 10) (hr : 0 ≤ r) (hr2 : r ≤ 10) (h0 : 0 ≤ c) (hc : c < 10 ^ 12) (he : -20 ≤ e) (he2 : e ≤ 20) :
    PF 163 4 [.pc ⟨l, r, pt, false, false, false, true, Str.ofString ""⟩, .i c, .i e] (.t3 (.s (St (wx1 (max (l - 1) 0) r c e))) (.s (St (wx2 (max (l - 1) 0) r c e))) (.s (St (wx3 (max (l - 1) 0) r c e)))) := by
  have hf := figs_le (n := c) (k := 12) (by decide) hc
  have hf0 := figs_pos c
  obtain ⟨pl, hpl⟩ : ∃ z, z = max (l - 1) 0 := ⟨_, rfl⟩
  have hp0 : 1 ≤ pl ∧ pl ≤ 9 := by omega
  have hu : 0 ≤ wxU pl r c e ∧ figs (wxU pl r c e) ≤ 50 := by
    unfold wxU; split <;> exact scl_bd h0 hc (by omega)
  have hw : -30 ≤ wxL pl r c e ∧ wxL pl r c e ≤ 40 := by unfold wxL; split <;> omega
  obtain ⟨hu0, hu1⟩ := hu
  (k_dflt (refine pf_in3 (F := ⟨_, _⟩) (fun _ => by rfl) (fun _ => by rfl) (fun _ _ _ => by rfl) (by rfl) (by rfl) (by rfl) ⟨rfl, rfl, rfl, by decide⟩ (by rfl) fun Cx => ?_); (try dsimp only))
  refine SS.asg (v := .i pl) (EV.cast (by walk_at "P v") (by rw [hpl]; rfl)) (by rfl) (by intros; with_unfolding_all rfl) ?_
  rw [← hpl]
  walk_at "P s"
  refine SS.ite (by walk_at "P b") ?_ ?_
  · intro h
    simp only [beq_iff_eq] at h
    walk_at "P s"
    show PV.t3 _ _ _ = PV.t3 _ _ _
    unfold wx1 wx2 wx3
    rw [o_zero, mul_st, mul_st, o_E00, if_pos h, if_pos h, if_pos h]
  intro h
  simp only [beq_eq_false_iff_ne] at h
  walk_at "P s"
  walk_at "P s"
  walk_at "P s"
  refine SS.itej [(Str.ofString "units", .i (wxU pl r c e)), (Str.ofString "lift", .i (wxL pl r c e)), (Str.ofString "many", .i (pl + r)), (Str.ofString "places", .i pl)] (by walk_at "P b") ?_ ?_ ?_
  · intro h1
    simp only [decide_eq_true_eq] at h1
    walk_at "P s"
    walk_at "P s"
    walk_at "P s"
    unfold wxU wxL
    rw [if_pos h1, if_pos h1]
    exact .cons rfl (.cons rfl (.cons rfl (.cons rfl .nil)))
  · intro h1
    simp only [decide_eq_false_iff_not] at h1
    walk_at "P s"
    unfold wxU wxL
    rw [if_neg h1, if_neg h1]
    exact .cons rfl (.cons rfl (.cons rfl (.cons rfl .nil)))
  have e1 : wx1 pl r c e = (padL (wxU pl r c e) (pl + r) []).take pl.toNat := if_neg h
  have e2 : wx2 pl r c e = (padL (wxU pl r c e) (pl + r) []).drop pl.toNat := if_neg h
  have e3 : wx3 pl r c e = [69] ++ (if wxL pl r c e < 0 then [45] else [43]) ++ padL (wxL pl r c e).natAbs 2 [] := if_neg h
  rw [e1, e2, e3]
  clear e1 e2 e3
  generalize wxU pl r c e = U at *
  generalize wxL pl r c e = V at *
  have hf2 : figs (V.natAbs : Int) ≤ 50 := figs_le (k := 50) (by decide) (by omega)
  have l1 := padL_le (k := pl + r) hu0 hu1 (by omega)
  have l2 := padL_le (n := V.natAbs) (k := 2) (by omega) hf2 (by decide)
  refine SS.asg (EV.call gf_135 (by walk_at "P a") (padded_figures_pf U (pl + r) hu0 hu1 (by omega)) (by decide) (by rfl) (by decide) (by rfl) (by rfl)) (by rfl) (by intros; with_unfolding_all rfl) ?_
  refine SS.asg (v := .s (St ([69] ++ (if V < 0 then [45] else [43]) ++ padL V.natAbs 2 []))) (EV.cast (EV.cat (x := St ([69] ++ (if V < 0 then [45] else [43]))) (EV.cast (EV.cat (x := St [69]) (y := St (if V < 0 then [45] else [43])) (EV.cast EV.str (by rw [o_E])) (EV.cast (by walk_at "P v") ?_) ?_) (by rw [st_append])) (EV.call gf_135 (by walk_at "P a") (padded_figures_pf V.natAbs 2 (by omega) hf2 (by decide)) (by decide) (by rfl) (by decide) (by rfl) (by rfl)) ?_) (by rw [st_append])) (by rfl) (by intros; with_unfolding_all rfl) ?_
  · show PV.s _ = PV.s _
    congr 1
    simp only [decide_eq_true_eq]
    split <;> first | exact o_minus | exact o_plus
  · rw [st_len, st_len]; split <;> decide
  · rw [st_len, st_len, List.length_append]; rw [st_len] at l2; split <;> simp only [List.length_cons, List.length_nil] <;> omega
  walk_at "P s"
  show PV.t3 _ _ _ = PV.t3 _ _ _
  rw [to_st (by omega), from_st (by omega), lz_st]
theorem gf_163 : GF (Str.ofString "with_exponent") 163 := ⟨fun _ => rfl, fun _ => rfl⟩

-- piece 121
-- needs: 120 09
theorem number_tail {F : FI} {C : Fx} {ρ : Nms} {b : List Stmt} {K : Out → Prop} (h : SS F C ρ b K) : SS F C ρ b K := h
theorem number_by_pf (p : Pic) (v : PV) (c e : Int) (A B T : List Nat) (hv : (v = .i c ∧ e = 0) ∨ v = .t2 (.i c) (.i e)) (hc : (c.natAbs : Int) < 10 ^ 12) (he : -20 ≤ e) (he2 : e ≤ 20) (hl0 : 0 ≤ p.left) (hl1 : p.left ≤ 30) (hr : 0 ≤ p.right) (hr2 : p.right ≤ 10)
    (hx : p.expo = true → ExpoPic p ∧ p.comma = false ∧ 2 ≤ p.left ∧ p.left ≤ 10 ∧ A = wx1 (max (p.left - 1) 0) p.right c.natAbs e ∧ B = wx2 (max (p.left - 1) 0) p.right c.natAbs e ∧ T = wx3 (max (p.left - 1) 0) p.right c.natAbs e)
    (hy : p.expo = false → A = (padL (scl c.natAbs e p.right) (p.right + 1) []).take ((padL (scl c.natAbs e p.right) (p.right + 1) []).length - p.right.toNat) ∧ B = (padL (scl c.natAbs e p.right) (p.right + 1) []).drop ((padL (scl c.natAbs e p.right) (p.right + 1) []).length - p.right.toNat) ∧ T = [])
    (hA : A.length ≤ 60) (hB : B.length ≤ 101) (hT : T.length ≤ 103) : PF 184 5 [.pc p, v] (.s (St (nbO p (decide (c < 0)) A B T))) := by
  (k_dflt (refine pf_in2 (F := ⟨_, _⟩) (fun _ => by rfl) (fun _ => by rfl) (fun _ _ => by rfl) (by rfl) (by rfl) ⟨rfl, rfl, rfl, by decide⟩ (by rfl) fun Cx => ?_); (try dsimp only))
  refine SS.asg2 (v1 := .i c) (v2 := .i e) (?_ : EV _ _ _ _ _) (by rfl) (by rfl) (by intros; with_unfolding_all rfl) (by intros; with_unfolding_all rfl) ?_
  · rcases hv with ⟨rfl, rfl⟩ | rfl
    · walk_at "P v"
    · walk_at "P v"
  walk_at "P s"
  refine SS.itej [(Str.ofString "ahead", .s (St A)), (Str.ofString "behind", .s (St B)), (Str.ofString "told", .s (St T)), (Str.ofString "is_below", .b (decide (c < 0))), (Str.ofString "picture", .pc p)] (by walk_at "P b") ?_ ?_ ?_
  · intro h
    obtain ⟨hP, hcm, g1, g2, rfl, rfl, rfl⟩ := hx h
    have hW := with_exponent_pf p.left p.right p.point c.natAbs e g1 g2 hr hr2 (by omega) hc he he2
    rw [← (show p = _ from hP)] at hW
    refine SS.asg3 (EV.call gf_163 (by walk_at "P a") hW (by decide) (by rfl) (by decide) (by rfl) (by rfl)) (by rfl) (by rfl) (by rfl) (by intros; with_unfolding_all rfl) (by intros; with_unfolding_all rfl) (SS.nil ?_)
    exact .cons rfl (.cons rfl (.cons rfl (.cons rfl (.cons rfl .nil))))
  · intro h
    obtain ⟨rfl, rfl, rfl⟩ := hy h
    have hb := scl_bd (c := c.natAbs) (e := e) (p := p.right) (by omega) hc (by omega)
    refine SS.asg2 (EV.call gf_156 (by walk_at "P a") (split_figures_pf (scl c.natAbs e p.right) p.right hb.1 hb.2 hr (by omega)) (by decide) (by rfl) (by decide) (by rfl) (by rfl)) (by rfl) (by rfl) (by intros; with_unfolding_all rfl) (by intros; with_unfolding_all rfl) (SS.nil ?_)
    exact .cons rfl (.cons rfl (.cons (by rw [← o_empty]; rfl) (.cons rfl (.cons rfl .nil))))
  have hpe : p.expo = true → p.comma = false := fun h => (hx h).2.1
  clear hx hy hv hc he he2
  generalize decide (c < 0) = b
  have hGl := nbG_len (p := p) hA
  have hNl := nbA_len (p := p) (b := b) (B := B) hA
  have hS1 : (if p.dollar = true then St [36] else St []).length ≤ 1 := by split <;> decide
  have hS2 : (if p.star = true then St [42] else St [32]).length = 1 := by split <;> decide
  have hS3 : (if p.point = true then St [46] else St []).length ≤ 1 := by split <;> decide
  have hL1 : (St (leadS p b)).length ≤ 1 := by show (leadS p b).length ≤ 1; unfold leadS; (repeat' split) <;> decide
  have hL2 : (St (tailS p b)).length ≤ 1 := by show (tailS p b).length ≤ 1; unfold tailS; (repeat' split) <;> decide
  have hB' : (St B).length ≤ 101 := hB
  have hT' : (St T).length ≤ 103 := hT
  refine SS.itej [(Str.ofString "ahead", .s (St (nbG p A))), (Str.ofString "behind", .s (St B)), (Str.ofString "told", .s (St T)), (Str.ofString "is_below", .b b), (Str.ofString "picture", .pc p)] (by walk_at "P b") ?_ ?_ ?_
  · intro h
    simp only [Bool.and_eq_true, Bool.and_true, Bool.not_eq_true'] at h
    refine SS.asg (EV.call gf_149 (by walk_at "P a") (grouped_pf (St A) (by show A.length ≤ 100; omega)) (by decide) (by rfl) (by decide) (by rfl) (by rfl)) (by rfl) (by intros; with_unfolding_all rfl) (SS.nil ?_)
    refine .cons ?_ (.cons rfl (.cons rfl (.cons rfl (.cons rfl .nil))))
    rw [nbG, if_pos h, lz_st]
    rfl
  · intro h
    refine SS.nil ?_
    refine .cons ?_ (.cons rfl (.cons rfl (.cons rfl (.cons rfl .nil))))
    rw [nbG, if_neg (fun q => by rw [q.1, q.2] at h; exact absurd h (by decide))]
    rfl
  refine SS.asg (v := .s (St (leadS p b) ++ (if p.dollar = true then St [36] else St []))) (EV.cat (EV.call gf_170 (by walk_at "P a") (lead_of_pf p b) (by decide) (by rfl) (by decide) (by rfl) (by rfl)) (EV.cast (by walk_at "P v") (by rw [o_dollar, o_empty])) (by omega)) (by rfl) (by intros; with_unfolding_all rfl) ?_
  walk_at "P s"
  obtain ⟨ld, hld⟩ : ∃ z, z = St (leadS p b) ++ (if p.dollar = true then St [36] else St []) := ⟨_, rfl⟩
  obtain ⟨W, hW⟩ : ∃ z, z = p.left + (if (p.sign == Str.ofString "+ahead") = true then 1 else 0) := ⟨_, rfl⟩
  have hW1 : 0 ≤ W ∧ W ≤ 31 := by rw [hW]; split <;> omega
  have hld1 : ld.length ≤ 2 := by rw [hld, PySem.Str.length_append]; omega
  rw [← hld, ← hW]
  have hlg : (ld ++ St (nbG p A)).length ≤ 132 := by rw [PySem.Str.length_append]; omega
  refine SS.itej [(Str.ofString "ahead", .s (St (nbA p b A B))), (Str.ofString "lead", .s ld), (Str.ofString "width", .i W), (Str.ofString "behind", .s (St B)), (Str.ofString "told", .s (St T)), (Str.ofString "is_below", .b b), (Str.ofString "picture", .pc p)] (by walk_at "P b") ?_ ?_ ?_
  · intro h
    simp only [Bool.and_eq_true, Bool.and_true, decide_eq_true_eq] at h
    walk_at "P s"
    refine SS.nil (.cons ?_ (.cons rfl (.cons rfl (.cons rfl (.cons rfl (.cons rfl (.cons rfl .nil)))))))
    rw [← nbA1 (by rw [← hW, ← hld]; exact h.1) h.2.1 h.2.2]
    rfl
  · intro h
    refine SS.nil (.cons ?_ (.cons rfl (.cons rfl (.cons rfl (.cons rfl (.cons rfl (.cons rfl .nil)))))))
    have e : St (nbG p A) = St (nbA p b A B) := by
      by_cases q1 : W < ((ld ++ St (nbG p A)).length : Int)
      · cases q2 : (St (nbG p A) == PySem.Str.ofString "0") with
        | false => exact nbA3 q2
        | true =>
          cases q3 : (St B != PySem.Str.ofString "") with
          | false => exact nbA2 q3
          | true => rw [q2, q3, decide_eq_true q1] at h; exact absurd h (by decide)
      · exact nbA4 (by rw [← hW, ← hld]; exact q1)
    rw [e]
    rfl
  have hla : (ld ++ St (nbA p b A B)).length ≤ 132 := by rw [PySem.Str.length_append]; omega
  refine SS.asg (v := .i (W - (ld ++ St (nbA p b A B)).length)) (by walk_at "P v") (by rfl) (by intros; with_unfolding_all rfl) ?_
  obtain ⟨R, hR⟩ : ∃ z : Int, z = W - (ld ++ St (nbA p b A B)).length := ⟨_, rfl⟩
  rw [← hR]
  have hR1 : R ≤ 31 ∧ -200 ≤ R := by omega
  have hm := mulS_len (k := p.star) (n := R)
  refine SS.asg (v := .s (Txt.mul (if p.star = true then St [42] else St [32]) R ++ ld ++ St (nbA p b A B))) (EV.cat (EV.cat (EV.rep (k := 1) (EV.cast (by walk_at "P v") (by rw [o_star, o_blank])) (by walk_at "P v") hS2 (by decide) (by omega) (by omega)) (by walk_at "P v") (by omega)) (by walk_at "P v") (by rw [PySem.Str.length_append]; omega)) (by rfl) (by intros; with_unfolding_all rfl) ?_
  have hf : (Txt.mul (if p.star = true then St [42] else St [32]) R ++ ld ++ St (nbA p b A B)).length ≤ 170 := by rw [PySem.Str.length_append, PySem.Str.length_append]; omega
  refine SS.asg (v := .s (Txt.mul (if p.star = true then St [42] else St [32]) R ++ ld ++ St (nbA p b A B) ++ (if p.point = true then St [46] else St []) ++ St B ++ St T ++ St (tailS p b))) (EV.cat (EV.cat (EV.cat (EV.cat (by walk_at "P v") (EV.cast (by walk_at "P v") (by rw [o_dot, o_empty])) (by omega)) (by walk_at "P v") (by rw [PySem.Str.length_append]; omega)) (by walk_at "P v") (by rw [PySem.Str.length_append, PySem.Str.length_append]; omega)) (EV.call gf_177 (by walk_at "P a") (tail_of_pf p b) (by decide) (by rfl) (by decide) (by rfl) (by rfl)) (by rw [PySem.Str.length_append, PySem.Str.length_append, PySem.Str.length_append]; omega)) (by rfl) (by intros; with_unfolding_all rfl) ?_
  refine SS.ret (v := .s (St (nbO p b A B T))) ?_ rfl
  by_cases q : R < 0
  · refine EV.ifT (by rw [← decide_eq_true q]; walk_at "P b") (EV.cast (EV.cat EV.str (by walk_at "P v") ?_) ?_)
    · rw [o_len1]; (repeat rw [PySem.Str.length_append]); omega
    · rw [hR, hld, hW] at *
      rw [nbO1 rfl q]
  · refine EV.ifF (by rw [← decide_eq_false q]; walk_at "P b") (EV.cast (by walk_at "P v") ?_)
    rw [hR, hld, hW] at *
    rw [nbO2 rfl q]
theorem gf_184 : GF (Str.ofString "number_by") 184 := ⟨fun _ => rfl, fun _ => rfl⟩

-- piece 122
-- needs: 104 08
section
variable {x : PySem.Str} {a : Int}
theorem bgn_suf (h0 : 0 ≤ a) : suf x (if (suf x a).take 1 = [43] then a + 1 else a) = if (suf x a).take 1 = [43] then (suf x a).drop 1 else suf x a := by
  split
  · exact suf_add 1 h0
  · rfl
theorem bgn_nn (h0 : 0 ≤ a) : 0 ≤ (if (suf x a).take 1 = [43] then a + 1 else a) := by split <;> omega
theorem bgn_eq (h0 : 0 ≤ a) : ((Txt.slice x (some (if (suf x a).take 1 = [43] then a + 1 else a)) (some ((if (suf x a).take 1 = [43] then a + 1 else a) + 1)) == PySem.Str.ofString "#") || [PySem.Str.ofString "**", PySem.Str.ofString "$$", PySem.Str.ofString ".#"].any fun y => y == Txt.slice x (some (if (suf x a).take 1 = [43] then a + 1 else a)) (some ((if (suf x a).take 1 = [43] then a + 1 else a) + 2))) = bgnL (suf x a) := by
  cases h : (Txt.slice x (some (if (suf x a).take 1 = [43] then a + 1 else a)) (some ((if (suf x a).take 1 = [43] then a + 1 else a) + 1)) == PySem.Str.ofString "#") with
  | true =>
    rw [suf_is1 (bgn_nn h0) o_hash, bgn_suf h0] at h
    unfold bgnL
    simp only [h, Bool.true_or]
  | false =>
    rw [suf_is1 (bgn_nn h0) o_hash, bgn_suf h0] at h
    unfold bgnL
    simp only [h, Bool.false_or, List.any_cons, List.any_nil, Bool.or_false, beq_swap _ (Txt.slice _ _ _), suf_is2 (bgn_nn h0) o_ss, suf_is2 (bgn_nn h0) o_dd, suf_is2 (bgn_nn h0) o_dh, bgn_suf h0, Bool.or_assoc]
end
theorem begins_number_pf (x : PySem.Str) (a : Int) (hx : x.length ≤ 100) (h0 : 0 ≤ a) (h1 : a ≤ x.length) : PF 93 1 [.s x, .i a] (.b (bgnL (suf x a))) := by
  rw [← bgn_eq h0]
  (k_dflt (refine pf_in2 (F := ⟨_, _⟩) (fun _ => by rfl) (fun _ => by rfl) (fun _ _ => by rfl) (by rfl) (by rfl) ⟨rfl, rfl, rfl, by decide⟩ (by rfl) fun Cx => ?_); (try dsimp only))
  have hn := bgn_nn (x := x) h0
  refine SS.itej [(Str.ofString "at", .i (if (suf x a).take 1 = [43] then a + 1 else a)), (Str.ofString "text", .s x)] (by walk_at "P b") ?_ ?_ ?_
  · intro h
    rw [suf_is1 h0 o_plus] at h
    walk_at "P s"
    walk_at "P s"
    rw [if_pos (by simpa using h)]
    exact .cons rfl (.cons rfl .nil)
  · intro h
    rw [suf_is1 h0 o_plus] at h
    walk_at "P s"
    rw [if_neg (by simpa using h)]
    exact .cons rfl (.cons rfl .nil)
  generalize (if (suf x a).take 1 = [43] then a + 1 else a) = k at *
  refine SS.ret (EV.orB (by walk_at "P v") fun _ => by walk_at "P v") rfl
theorem gf_93 : GF (Str.ofString "begins_number") 93 := ⟨fun _ => rfl, fun _ => rfl⟩

-- piece 123
-- needs: 122 121
section
variable {F : FI} {C : Fx} {ρ : Nms} {e1 e2 : PySem.Expr} {q : Pic} {p p1 : Pos}
theorem EV.isiPT (ha : EA F C ρ [e1, e2] [.pc q, .ty "tuple"]) (hx : F.sc.names.lookup (Str.ofString "isinstance") = some .globalImplicit) (hst : starEach [e1, e2] C.env = (false, eval e1 C.env) :: starEach [e2] C.env) (hany : ((backTo p (starEach [e2] C.env)).any fun x => x.1) = false) : EV F C ρ (.Call (.Name (Str.ofString "isinstance") p1) [e1, e2] [] p) (.b false) :=
  EV.bi2 (fun _ => by rfl) (by rfl) (by decide) hx (by decide) ha hst hany fun s nl y1 y2 _ _ P r1 r2 k => by
    have r2 : y2 = .type "tuple" := r2
    subst r2
    obtain ⟨X, rfl, dx, kk, n, m1, m2⟩ := r1
    obtain ⟨m, hF, hR⟩ := P.F
    exact kin_callT (K := hd.heap_1 C.w.params) (P.ok.X.keeps (Fr.keep hF)) (InstAt.of_news P.N (P.mem m1) (P.mem m2)) (by rfl) (by kernel_rfl) (by rfl) (by rfl) (by rfl) (by rfl) (by rfl) (by rfl) (k _ _ _ P.tk rfl)
theorem EV.isiPP (ha : EA F C ρ [e1, e2] [.pc q, .f 82]) (hx : F.sc.names.lookup (Str.ofString "isinstance") = some .globalImplicit) (hst : starEach [e1, e2] C.env = (false, eval e1 C.env) :: starEach [e2] C.env) (hany : ((backTo p (starEach [e2] C.env)).any fun x => x.1) = false) : EV F C ρ (.Call (.Name (Str.ofString "isinstance") p1) [e1, e2] [] p) (.b true) :=
  EV.bi2 (fun _ => by rfl) (by rfl) (by decide) hx (by decide) ha hst hany fun s nl y1 y2 _ _ P r1 r2 k => by
    have r2 : y2 = .ref 82 := r2
    subst r2
    obtain ⟨X, rfl, dx, kk, n, m1, m2⟩ := r1
    obtain ⟨m, hF, hR⟩ := P.F
    have I := InstAt.of_news P.N (P.mem m1) (P.mem m2)
    exact isi_call (K := hd.heap_1 C.w.params) (t := .ref 82) (P.ok.X.keeps (Fr.keep hF)) (fun M => InstAt.type I) (by rfl) (fun e => by cases e) (k _ _ _ P rfl)
end
theorem gv_pic : GV (Str.ofString "Picture") (.f 82) := ⟨fun _ _ => ⟨_, rfl, rfl⟩⟩
theorem is_plain_p_pf (q : Pic) : PF 198 1 [.pc q] (.b false) := by
  (k_dflt (refine pf_in1 (F := ⟨_, _⟩) (fun _ => by rfl) (fun _ => by rfl) (fun _ => by rfl) (by rfl) ⟨rfl, rfl, rfl, by decide⟩ (by rfl) fun Cx => ?_); (try dsimp only))
  refine SS.ret (EV.cast (EV.andB (c2 := false) (EV.isiPT (by walk_at "P a") (by rfl) (by rfl) (by rfl)) (fun h => nomatch h)) rfl) rfl
theorem is_plain_t_pf (a : PySem.Str) : PF 198 1 [.t2 (.s (Str.ofString "plain")) (.s a)] (.b true) := by
  (k_dflt (refine pf_in1 (F := ⟨_, _⟩) (fun _ => by rfl) (fun _ => by rfl) (fun _ => by rfl) (by rfl) ⟨rfl, rfl, rfl, by decide⟩ (by rfl) fun Cx => ?_); (try dsimp only))
  refine SS.ret (v := .b true) (EV.cast (EV.andB (c1 := true) (c2 := true) (by walk_at "P v") (fun _ => EV.cast (by walk_at "P v") (by simp))) rfl) rfl
theorem gf_198 : GF (Str.ofString "is_plain") 198 := ⟨fun _ => rfl, fun _ => rfl⟩
theorem wx_len {pl r c e : Int} (hp : 0 ≤ pl) (hp2 : pl ≤ 10) (hr : 0 ≤ r) (hr2 : r ≤ 10) (hU : 0 ≤ wxU pl r c e) (hU2 : figs (wxU pl r c e) ≤ 50) (hL : (wxL pl r c e).natAbs ≤ 100) :
    (St (wx1 pl r c e)).length ≤ 101 ∧ (St (wx2 pl r c e)).length ≤ 101 ∧ (St (wx3 pl r c e)).length ≤ 103 := by
  have h1 : (padL (wxU pl r c e) (pl + r) []).length ≤ 50 := padL_le hU hU2 (by omega)
  have h2 : (padL ((wxL pl r c e).natAbs : Int) 2 []).length ≤ 50 := padL_le (by omega) (figs_le (k := 50) (by decide) (by omega)) (by decide)
  refine ⟨?_, ?_, ?_⟩
  · show (wx1 pl r c e).length ≤ 101
    unfold wx1; split
    · rw [List.length_replicate]; omega
    · rw [List.length_take]; omega
  · show (wx2 pl r c e).length ≤ 101
    unfold wx2; split
    · rw [List.length_replicate]; omega
    · rw [List.length_drop]; omega
  · show (wx3 pl r c e).length ≤ 103
    unfold wx3; split
    · decide
    · rw [List.length_append, List.length_append]
      have : (if wxL pl r c e < 0 then [45] else [43] : List Nat).length = 1 := by split <;> rfl
      rw [this]
      simp only [List.length_cons, List.length_nil]
      omega
theorem wx_len' {pl r c e : Int} (hp : 0 ≤ pl) (hp2 : pl ≤ 10) (hr : 0 ≤ r) (hr2 : r ≤ 10) (h0 : 0 ≤ c) (hc : c < 10 ^ 12) (he : -20 ≤ e) (he2 : e ≤ 20) :
    (wx1 pl r c e).length ≤ 60 ∧ (wx2 pl r c e).length ≤ 60 ∧ (wx3 pl r c e).length ≤ 103 := by
  have hf := figs_le (n := c) (k := 12) (by decide) hc
  have hf0 := figs_pos c
  have hu : 0 ≤ wxU pl r c e ∧ figs (wxU pl r c e) ≤ 50 := by
    unfold wxU; split <;> exact scl_bd h0 hc (by omega)
  have hw : -30 ≤ wxL pl r c e ∧ wxL pl r c e ≤ 40 := by unfold wxL; split <;> omega
  have hn := (wx_len (pl := pl) hp hp2 hr hr2 hu.1 hu.2 (by omega)).2.2
  have h1 : (padL (wxU pl r c e) (pl + r) []).length ≤ 50 := padL_le hu.1 hu.2 (by omega)
  refine ⟨?_, ?_, hn⟩
  · unfold wx1; split
    · rw [List.length_replicate]; omega
    · rw [List.length_take]; omega
  · unfold wx2; split
    · rw [List.length_replicate]; omega
    · rw [List.length_drop]; omega
theorem nb_shw (p : Pic) (c e : Int) (v : PV) (hv : (v = .i c ∧ e = 0) ∨ v = .t2 (.i c) (.i e)) (hp : GP p) (hc : (c.natAbs : Int) < 10 ^ 12) (he : -20 ≤ e) (he2 : e ≤ 20) : PF 184 5 [.pc p, v] (.s (St (shw p c e))) := by
  rcases hp with ⟨h1, h2, h3, h4, h5⟩ | ⟨h0, h1, h2, h3, h4, h5, h6⟩
  · rw [show shw p c e = _ from if_neg (by rw [h1]; simp)]
    have hb := scl_bd (c := c.natAbs) (e := e) (p := p.right) (by omega) hc (by omega)
    have hpl := padL_le (k := p.right + 1) hb.1 hb.2 (by omega)
    exact number_by_pf p v c e _ _ _ hv hc he he2 h2 h3 h4 h5 (fun h => by rw [h1] at h; cases h) (fun _ => ⟨rfl, rfl, rfl⟩) (Nat.le_trans (List.length_take_le _ _) (Nat.le_trans (Nat.sub_le _ _) (Nat.le_trans hpl (by decide)))) (by rw [List.length_drop]; exact Nat.le_trans (Nat.sub_le _ _) (Nat.le_trans hpl (by decide))) (by decide)
  · rw [show shw p c e = _ from if_pos h1]
    have hl := wx_len' (pl := max (p.left - 1) 0) (r := p.right) (c := c.natAbs) (e := e) (by omega) (by omega) h5 h6 (by omega) hc he he2
    exact number_by_pf p v c e _ _ _ hv hc he he2 (by omega) (by omega) h5 h6 (fun _ => ⟨h0, h2, h3, h4, rfl, rfl, rfl⟩) (fun h => by rw [h1] at h; cases h) hl.1 (Nat.le_trans hl.2.1 (by decide)) hl.2.2
theorem value_by_pf (p : Pic) (c e : Int) (v : PV) (hv : (v = .i c ∧ e = 0) ∨ v = .t2 (.i c) (.i e)) (hp : GP p) (hc : (c.natAbs : Int) < 10 ^ 12) (he : -20 ≤ e) (he2 : e ≤ 20) : PF 191 6 [.pc p, v] (.s (St (shw p c e))) := by
  (k_dflt (refine pf_in2 (F := ⟨_, _⟩) (fun _ => by rfl) (fun _ => by rfl) (fun _ _ => by rfl) (by rfl) (by rfl) ⟨rfl, rfl, rfl, by decide⟩ (by rfl) fun Cx => ?_); (try dsimp only))
  refine SS.ifT (EB.call (EV.isiPP (EA.cons (by walk_at "P v") (EA.cons (EV.gl gv_pic (by rfl) (by decide)) .nil (by rfl)) (by rfl)) (by rfl) (by rfl) (by rfl))) ?_
  refine SS.ifF ?_ (SS.nil ?_)
  · rcases hv with ⟨rfl, rfl⟩ | rfl
    · walk_at "P b"
    · walk_at "P b"
  show SS _ _ _ _ _
  have hm : isMu v = false := by rcases hv with ⟨rfl, rfl⟩ | rfl <;> rfl
  exact SS.ret (EV.call gf_184 (EA.cons (by walk_at "P v") (EA.cons (EV.nm (by rfl) (by rfl) (by decide) hm) .nil (by rfl)) (by rfl)) (nb_shw p c e v hv hp hc he he2) (by decide) (by rfl) (by decide) (by rfl) (by rfl)) rfl
theorem gf_191 : GF (Str.ofString "value_by") 191 := ⟨fun _ => rfl, fun _ => rfl⟩

-- piece 124
-- needs: 104
theorem EB.cast {F : FI} {C : Fx} {ρ ρ1 : Nms} {e : PySem.Expr} {b b' : Bool} (h : EC F C ρ e b ρ1) (he : b = b') : EC F C ρ e b' ρ1 := he ▸ h
/-- no thing that may change but the one of zn -/
def one (zn : Str) (ρ : Nms) : Bool := ρ.all fun x => !isMu x.2 || x.1 == zn
theorem one_eq {zn x : Str} {ρ : Nms} {y : PV} (h : one zn ρ = true) (hx : ρ.lookup x = some y) (hm : isMu y = true) : x = zn := by
  induction ρ with
  | nil => cases hx
  | cons q r ih =>
    unfold one at h
    rw [List.all_cons, Bool.and_eq_true] at h
    obtain ⟨k, u⟩ := q
    rw [List.lookup_cons] at hx
    cases hz : (x == k) with
    | true =>
      rw [hz] at hx
      obtain rfl := Option.some.inj hx
      obtain rfl := eq_of_beq hz
      have h1 := h.1
      simp only [hm, Bool.not_true, Bool.false_or] at h1
      exact eq_of_beq h1
    | false => rw [hz] at hx; exact ih h.2 hx
theorem updX_app_left {d : Addr} {o o' : Obj} {z l l' : List (Addr × Obj)} (h : ∀ p ∈ z, @Ne Nat p.1 d) (u : Upd d o o' l l') : Upd d o o' (z ++ l) (z ++ l') := by
  induction z with
  | nil => exact u
  | cons q r ih => exact .tail (h _ (.head _)) (ih fun p hp => h p (.tail _ hp))
theorem updX_app_right {d : Addr} {o o' : Obj} {l l' cl : List (Addr × Obj)} (h : ∀ p ∈ cl, @Ne Nat p.1 d) (u : Upd d o o' l l') : Upd d o o' (l ++ cl) (l' ++ cl) := by
  induction u with
  | head k => exact .head fun p hp => (List.mem_append.mp hp).elim (k p) (h p)
  | tail k _ ih => exact .tail k ih
theorem updX_mem {d : Addr} {o o' : Obj} {l l' : List (Addr × Obj)} (u : Upd d o o' l l') : (d, o) ∈ l := by
  induction u with
  | head _ => exact .head _
  | tail _ _ ih => exact .tail _ ih
theorem updX_keys {d : Addr} {o o' : Obj} {l l' : List (Addr × Obj)} (u : Upd d o o' l l') : ∀ q ∈ l', ∃ p ∈ l, q.1 = p.1 := by
  induction u with
  | head _ =>
    intro q hq
    rcases List.mem_cons.mp hq with rfl | hq
    · exact ⟨_, .head _, rfl⟩
    · exact ⟨q, .tail _ hq, rfl⟩
  | tail _ _ ih =>
    intro q hq
    rcases List.mem_cons.mp hq with rfl | hq
    · exact ⟨_, .head _, rfl⟩
    · obtain ⟨p, hp, e⟩ := ih q hq
      exact ⟨p, .tail _ hp, e⟩
section
variable {F : FI} {C : Fx} {ρ ρ1 ρ2 ρ3 : Nms} {s s' : Shared} {nl nl' : LG} {e e1 e2 e3 : PySem.Expr} {a b n : Int} {x y : PySem.Str} {p p1 p2 p3 : Pos} {u v v1 v2 v3 c c' : PV} {rest body orelse : List Stmt} {K : Out → Prop} {D : Addr} {zn z : Str} {m : Str → Option Value} {l' : List (Addr × Obj)}
theorem PSt.upd_l (P : PSt F C ρ nl s) {d : Addr} {o o' : Obj} (u : Upd d o o' nl.l l') : Upd d o o' (nl.z ++ (nl.l ++ C.ml)) (nl.z ++ (l' ++ C.ml)) :=
  updX_app_left (fun p hp => P.off p hp _ (List.mem_append_left _ (updX_mem u))) (updX_app_right (fun p hp => (P.offl _ (updX_mem u) p hp).symm) u)
/-- the thing of zn now holds c' -/
theorem PSt.chg (P : PSt F C ρ nl s) (hz : ρ.lookup zn = some (.mu D c)) (h1 : one zn ρ = true) (hR : REnv C nl ρ m) (hF : Fr C.g C.L s'.heap m) (N' : News C.g C.L s'.heap (nl.z ++ (l' ++ C.ml))) (hM : MAt C.w.params nl.z l' D c') (hk : ∀ q ∈ l', ∃ p ∈ nl.l, q.1 = p.1) :
    PSt F C ((zn, .mu D c') :: ρ) ⟨nl.z, l'⟩ s' := by
  refine ⟨P.ok, ⟨m, hF, fun x w hx => ?_⟩, N', fun p hp q hq => ?_, fun q hq r hr => ?_, P.sub⟩
  · rw [List.lookup_cons] at hx
    cases hq : (x == zn) with
    | true =>
      rw [hq] at hx
      obtain rfl := Option.some.inj hx
      obtain rfl := eq_of_beq hq
      obtain ⟨y, hy, r⟩ := hR x _ hz
      exact ⟨y, hy, r.1, hM⟩
    | false =>
      rw [hq] at hx
      obtain ⟨y, hy, r⟩ := hR x w hx
      cases hm : isMu w with
      | true => rw [one_eq h1 hx hm] at hq; simp at hq
      | false => exact ⟨y, hy, .of (r.out hm)⟩
  · rcases List.mem_append.mp hq with hq | hq
    · obtain ⟨t, ht, e⟩ := hk q hq
      rw [e]; exact P.off p hp t (List.mem_append_left _ ht)
    · exact P.off p hp q (List.mem_append_right _ hq)
  · obtain ⟨t, ht, e⟩ := hk q hq
    rw [e]; exact P.offl t ht r hr
/-- what it holds -/
theorem PSt.at (P : PSt F C ρ nl s) (hz : ρ.lookup zn = some (.mu D c)) : MAt C.w.params nl.z nl.l D c := by
  obtain ⟨m, _, hR⟩ := P.F
  obtain ⟨y, _, r⟩ := hR zn _ hz
  exact r.2
/-- z := v in a thing that holds c makes it hold c' -/
structure PU (z : Str) (c v c' : PV) : Prop where
  go : ∀ P z' l D, MAt P z' l D c → ∃ dx es n, l = [(D, instObj 82 dx), (dx, dictOf es n)] ∧ es.length ≤ 500 ∧ (getL z es).isSome = true ∧
    ∀ y tk nl, RV1 P nl v y → MAt P z' [(D, instObj 82 dx), (dx, dictOf (putL z (PyData.keyHash P z) (.str z tk) y es) (putN z es n))] D c' ∧ (putL z (PyData.keyHash P z) (.str z tk) y es).length ≤ 1000
  g1 : ∀ P, takerIn (hd.heap_1 P) 82 z = some none
theorem PSt.setAttr {y : Value} {Q : Unit → Shared → Prop} {E : Value → Shared → Prop} (P : PSt F C ρ nl s) (hz : ρ.lookup zn = some (.mu D c)) (h1 : one zn ρ = true) (hu : PU z c v c') (r : RV1 C.w.params nl.z v y)
    (k : ∀ h tk l', PSt F C ((zn, .mu D c') :: ρ) ⟨nl.z, l'⟩ { s with heap := h, toks := tk } → Q () { s with heap := h, toks := tk }) : wpAny (PM C) C.A (setAttr (.ref D) z y) Q E s := by
  obtain ⟨m, hF, hR⟩ := P.F
  obtain ⟨dx, es, n, e, hl1, hl, hgo⟩ := hu.go _ _ _ _ (P.at hz)
  have m1 : (D, instObj 82 dx) ∈ nl.l := by rw [e]; exact .head _
  have m2 : (dx, dictOf es n) ∈ nl.l := by rw [e]; exact .tail _ (.head _)
  have hne : @Ne Nat D dx := News.ne_of_cls P.N (q := (D, instObj 82 dx)) (p := (dx, dictOf es n)) (P.mel m1) (P.mel m2) (fun h => by cases h)
  obtain ⟨h2, h3⟩ := hgo y (s.toks + 1) nl.z r
  have U : Upd dx (dictOf es n) (dictOf (putL z (PyData.keyHash C.w.params z) (.str z (s.toks + 1)) y es) (putN z es n)) nl.l [(D, instObj 82 dx), (dx, dictOf (putL z (PyData.keyHash C.w.params z) (.str z (s.toks + 1)) y es) (putN z es n))] := by
    rw [e]; exact .tail hne (.head fun _ h => nomatch h)
  exact set_dict hF P.ok.X P.N (InstAt.of_news P.N (P.mel m1) (P.mel m2)) rfl (by rfl) (by rfl) (hu.g1 _) (by rfl) hl rfl (P.upd_l U) h3 fun h' F' N' => k h' _ _ (P.chg hz h1 hR F' N' h2 (updX_keys U))
/-- the target t takes v -/
structure AT (F : FI) (C : Fx) (ρ : Nms) (t : PySem.Expr) (v : PV) (ρ' : Nms) : Prop where
  go : ∀ (s : Shared) (nl : LG) (y : Value) (Q : Unit → Shared → Prop) (E : Value → Shared → Prop), PSt F C ρ nl s → RV1 C.w.params nl.z v y →
    (∀ h tk nl', PSt F C ρ' nl' { s with heap := h, toks := tk } → (∀ p ∈ nl.z, p ∈ nl'.z) → Q () { s with heap := h, toks := tk }) → wpAny (PM C) C.A (assign t C.env y) Q E s
theorem AT.nm (hx : F.sc.names.lookup z = some .local) : AT F C ρ (.Name z p) v ((z, v) :: ρ) := ⟨fun s nl y Q E P r q => assign_Name (P.store r hx fun h tk P' => q h tk nl P' fun _ h => h)⟩
theorem AT.attr (hz : ρ.lookup zn = some (.mu D c)) (h1 : one zn ρ = true) (hu : PU z c v c') (hx : F.sc.names.lookup zn = some .local) (hd : (zn == Str.ofString "__debug__") = false) : AT F C ρ (.Attribute (.Name zn p1) z p) v ((zn, .mu D c') :: ρ) :=
  ⟨fun s nl y Q E P r q => kas_attr ((EV.nmM hz hx hd).go s nl _ _ P fun y1 h tk nl1 P1 s1 r1 => by
    have e : y1 = .ref D := r1
    subst e
    exact P1.setAttr hz h1 hu (r.mono s1) fun h tk l' P2 => q h tk _ P2 s1)⟩
/-- t1, t2 = a pair -/
theorem SS.asgT2 {t1 t2 : PySem.Expr} {k : Nat} (he : EM F C ρ e (.t2 v1 v2) ρ1) (a1 : AT F C ρ1 t1 v1 ρ2) (a2 : AT F C ρ2 t2 v2 ρ3) (hsw : ∀ cn L a ccd cl, swapsWithSole [.Tuple [t1, t2] k p3] e p.line (envX cn F.sc L a ccd cl) = pure false)
    (hss : ∀ cn L a ccd cl, swappedStores [.Tuple [t1, t2] k p3] e (envX cn F.sc L a ccd cl) = pure none) (hea : assignEach [t1, t2] C.env = [(false, assign t1 C.env), (false, assign t2 C.env)]) (hr : SS F C ρ3 rest K) : SS F C ρ (.Assign [.Tuple [t1, t2] k p3] e p :: rest) K :=
  ⟨fun s nl Q E P O kn kr => wpAny_execs_cons (Assign_Tuple (he.go s nl _ _ P fun y _ _ nl1 P1 s1 r => by
    obtain ⟨D, w1, w2, rfl, hm, r1, r2⟩ := r
    obtain ⟨m, hF, hR⟩ := P1.F
    refine unpackN_ hF P1.N (isTup2 P1 hm) rfl (by rw [hea]; rfl) (by rw [hea]; rfl) fun h' F' N' => ?_
    rw [hea]
    refine assignInOrder_cons (a1.go _ nl1 _ _ _ (P1.upd ⟨m, F', hR⟩ N') r1 fun h tk nl2 P2 s2 => assignInOrder_cons (a2.go _ nl2 _ _ _ P2 (r2.mono s2) fun h tk nl3 P3 s3 => assignInOrder_nil ?_))
    exact hr.go _ nl3 Q E P3 O (fun ρ' h tk nl' k P' s' => kn ρ' h tk nl' k P' fun p hp => s' p (s3 p (s2 p (s1 p hp)))) fun v y h tk nl' k P' s' r => kr v y h tk nl' k P' (fun p hp => s' p (s3 p (s2 p (s1 p hp)))) r) (by have := hsw C.cn C.L C.a C.ccd C.cl; rw [← P.ok.sc] at this; exact this) (by have := hss C.cn C.L C.a C.ccd C.cl; rw [← P.ok.sc] at this; exact this))⟩
theorem SS.asgT3 {t1 t2 t3 : PySem.Expr} {k : Nat} {ρ4 : Nms} (he : EM F C ρ e (.t3 v1 v2 v3) ρ1) (a1 : AT F C ρ1 t1 v1 ρ2) (a2 : AT F C ρ2 t2 v2 ρ3) (a3 : AT F C ρ3 t3 v3 ρ4) (hsw : ∀ cn L a ccd cl, swapsWithSole [.Tuple [t1, t2, t3] k p3] e p.line (envX cn F.sc L a ccd cl) = pure false)
    (hss : ∀ cn L a ccd cl, swappedStores [.Tuple [t1, t2, t3] k p3] e (envX cn F.sc L a ccd cl) = pure none) (hea : assignEach [t1, t2, t3] C.env = [(false, assign t1 C.env), (false, assign t2 C.env), (false, assign t3 C.env)]) (hr : SS F C ρ4 rest K) : SS F C ρ (.Assign [.Tuple [t1, t2, t3] k p3] e p :: rest) K :=
  ⟨fun s nl Q E P O kn kr => wpAny_execs_cons (Assign_Tuple (he.go s nl _ _ P fun y _ _ nl1 P1 s1 r => by
    obtain ⟨D, w1, w2, w3, rfl, hm, r1, r2, r3⟩ := r
    obtain ⟨m, hF, hR⟩ := P1.F
    refine unpackN_ hF P1.N (isTup2 P1 hm) rfl (by rw [hea]; rfl) (by rw [hea]; rfl) fun h' F' N' => ?_
    rw [hea]
    refine assignInOrder_cons (a1.go _ nl1 _ _ _ (P1.upd ⟨m, F', hR⟩ N') r1 fun h tk nl2 P2 s2 => assignInOrder_cons (a2.go _ nl2 _ _ _ P2 (r2.mono s2) fun h tk nl3 P3 s3 => assignInOrder_cons (a3.go _ nl3 _ _ _ P3 ((r3.mono s2).mono s3) fun h tk nl4 P4 s4 => assignInOrder_nil ?_)))
    exact hr.go _ nl4 Q E P4 O (fun ρ' h tk nl' k P' s' => kn ρ' h tk nl' k P' fun p hp => s' p (s4 p (s3 p (s2 p (s1 p hp))))) fun v y h tk nl' k P' s' r => kr v y h tk nl' k P' (fun p hp => s' p (s4 p (s3 p (s2 p (s1 p hp))))) r) (by have := hsw C.cn C.L C.a C.ccd C.cl; rw [← P.ok.sc] at this; exact this) (by have := hss C.cn C.L C.a C.ccd C.cl; rw [← P.ok.sc] at this; exact this))⟩
/-- picture.z = e -/
theorem SS.asgA (he : EM F C ρ e v ρ1) (hz : ρ1.lookup zn = some (.mu D c)) (h1 : one zn ρ1 = true) (hu : PU z c v c') (hx : F.sc.names.lookup zn = some .local) (hd : (zn == Str.ofString "__debug__") = false) (hsw : ∀ cn L a ccd cl, swapsWith e (some (.Attribute (.Name zn p2) z p1)) p.line (envX cn F.sc L a ccd cl) = pure false)
    (hr : SS F C ((zn, .mu D c') :: ρ1) rest K) : SS F C ρ (.Assign [.Attribute (.Name zn p2) z p1] e p :: rest) K :=
  ⟨fun s nl Q E P O kn kr => wpAny_execs_cons (plainObj_wpAny_Assign_Attribute (he.go s nl _ _ P fun y _ _ nl1 P1 s1 r => (EV.nmM hz hx hd).go _ nl1 _ _ P1 fun y1 h tk nl2 P2 s2 r1 => by
    have e : y1 = .ref D := r1
    subst e
    exact P2.setAttr hz h1 hu (r.mono s2) fun h tk l' P3 => hr.go _ _ Q E P3 O (fun ρ' h tk nl' k P' s' => kn ρ' h tk nl' k P' fun p hp => s' p (s2 p (s1 p hp))) fun v y h tk nl' k P' s' r => kr v y h tk nl' k P' (fun p hp => s' p (s2 p (s1 p hp))) r) (by have := hsw C.cn C.L C.a C.ccd C.cl; rw [← P.ok.sc] at this; exact this))⟩
/-- picture.z, the picture under way -/
theorem EV.attrM {q : Pic} (hz : ρ.lookup zn = some (.mu D (.pc q))) (hx : F.sc.names.lookup zn = some .local) (hd : (zn == Str.ofString "__debug__") = false) (hp : PA z q v) : EV F C ρ (.Attribute (.Name zn p1) z p) v := ⟨fun s nl Q E P k => Attribute_Name_ ((EV.nmM hz hx hd).go s nl _ _ P fun y hh tk nl1 P1 s1 r => by
  have e : y = .ref D := r
  subst e
  obtain ⟨dx, kk, n, el⟩ := P1.at hz
  obtain ⟨m, hF, hR⟩ := P1.F
  obtain ⟨y, e1, e2, e3⟩ := hp.go C.w.params kk nl1.z
  obtain ⟨a, f1, f2⟩ := hp.g2 C.w.params
  have m1 : (D, instObj 82 dx) ∈ nl1.l := by rw [el]; exact .head _
  have m2 : (dx, dictOf (picEs C.w.params q kk) n) ∈ nl1.l := by rw [el]; exact .tail _ (.head _)
  exact get_own (s := { s with heap := hh, toks := tk }) hF P1.ok.X (InstAt.of_news P1.N (P1.mel m1) (P1.mel m2)) (hp.g1 _) (by rfl) f1 f2 e1 e3 (k y _ _ nl1 P1.tk s1 e2))⟩
/-- a call that may change the thing -/
theorem EV.callM {f : Addr} {d : Nat} {es : List PySem.Expr} {vs : List PV} (hg : GF z f) (ha : EAM F C ρ (e :: es) (.f D :: vs) ρ1) (hz : ρ1.lookup zn = some (.mu D c)) (h1 : one zn ρ1 = true) (hf : PC f d D c vs v c') (hle : d ≤ F.k) (hx : F.sc.names.lookup z = some .globalImplicit) (hdb : (z == Str.ofString "__debug__") = false)
    (hst : starEach (e :: es) C.env = (false, eval e C.env) :: starEach es C.env) (hany : ((backTo p (starEach es C.env)).any fun x => x.1) = false) : EM F C ρ (.Call (.Name z p1) (e :: es) [] p) v ((zn, .mu D c') :: ρ1) := ⟨fun s nl Q E P q => by
  obtain ⟨m, hF, hR⟩ := P.F
  have hkd : C.cs.kind = .function := by rw [P.ok.sc]; exact P.ok.fn
  refine Call_ (nameX_K (K := hd.heap_1 C.w.params) hF P.ok.X (topRead_of P.ok.T) (hg.hn _) ?_ hkd (by show C.cs.names.lookup z = _; rw [P.ok.sc]; exact hx) hdb)
  refine callWith_K P.ok.X (hg.hk _) (ha.go s nl p _ _ P fun ys h tk nl1 P1 s1 r1 => ⟨P1.ok.X.keeps (Fr.keep P1.F.choose_spec.1), ?_⟩) hst hany
  obtain ⟨m1, hF1, hR1⟩ := P1.F
  obtain _ | ⟨r0, r1⟩ := r1
  rename_i y0 ys
  have e0 : y0 = .ref D := r0
  subst e0
  refine con_use (hf.go ys nl1.z nl1.l C.ml P1.off P1.offl) P1.ok.B hF1 P1.ok.X P1.N P1.ok.T hkd ⟨rfl, P1.at hz, r1⟩ (by have := P.ok.hd; omega) (by have := P.ok.hu; omega) fun y nx h' tk' hr F' N' => ?_
  obtain ⟨z', l', rfl, hs, ho, ho2, hM, r⟩ := hr
  refine q y h' tk' ⟨z', l'⟩ ⟨P1.ok, ⟨m1, F', fun x w hx => ?_⟩, N', ho, ho2, fun p hp => hs p (P1.sub p hp)⟩ (fun p hp => hs p (s1 p hp)) r
  rw [List.lookup_cons] at hx
  cases hq : (x == zn) with
  | true =>
    rw [hq] at hx
    obtain rfl := Option.some.inj hx
    obtain rfl := eq_of_beq hq
    obtain ⟨y, hy, r⟩ := hR1 x _ hz
    exact ⟨y, hy.mono hs, r.1, hM⟩
  | false =>
    rw [hq] at hx
    obtain ⟨y, hy, r⟩ := hR1 x w hx
    cases hm : isMu w with
    | true => rw [one_eq h1 hx hm] at hq; simp at hq
    | false => exact ⟨y, hy.mono hs, .of ((r.out hm).mono hs)⟩⟩
/-- what comes back of a def that changes a thing -/
theorem SS.retM (he : EM F C ρ e v ρ1) (hz : ρ1.lookup zn = some (.mu D c)) (hk : K (.rt (.w zn v D c))) : SS F C ρ (.Return (some e) p :: rest) K :=
  ⟨fun s nl Q E P O kn kr => wpAny_execs_cons (wpAny_Return_some (he.go s nl _ _ P fun y h tk nl1 P1 s1 r => kr (.w zn v D c) y h tk nl1 hk (P1.env (.cons hz .nil)) s1 r))⟩
/-- what may stand beside it unchanged from now on -/
def isFz : PV → Bool
  | .pc _ | .l0 | .l1 _ | .l2 _ _ | .l3 _ _ _ => true
  | _ => false
def Frz (ρ' ρ : Nms) : Prop := ∀ x y, ρ'.lookup x = some y → (ρ.lookup x = some y ∧ isMu y = false) ∨ ∃ D, ρ.lookup x = some (.mu D y) ∧ isFz y = true
theorem Frz.nil : Frz [] ρ := fun _ _ h => nomatch h
theorem Frz.cons {ρ' : Nms} (h : ρ.lookup z = some v) (hs : Frz ρ' ρ) (hm : isMu v = false := by rfl) : Frz ((z, v) :: ρ') ρ := fun x y hx => by
  rw [List.lookup_cons] at hx
  cases hz : (x == z) with
  | true => rw [hz] at hx; obtain rfl := eq_of_beq hz; obtain rfl := Option.some.inj hx; exact .inl ⟨h, hm⟩
  | false => rw [hz] at hx; exact hs x y hx
theorem Frz.mu {ρ' : Nms} (h : ρ.lookup z = some (.mu D v)) (hs : Frz ρ' ρ) (hm : isFz v = true := by rfl) : Frz ((z, v) :: ρ') ρ := fun x y hx => by
  rw [List.lookup_cons] at hx
  cases hz : (x == z) with
  | true => rw [hz] at hx; obtain rfl := eq_of_beq hz; obtain rfl := Option.some.inj hx; exact .inr ⟨D, h, hm⟩
  | false => rw [hz] at hx; exact hs x y hx
theorem MAt.frz {P : Params} {z' l : List (Addr × Obj)} (h : MAt P z' l D c) (hm : isFz c = true) : RV1 P (l ++ z') c (.ref D) := by
  cases c <;> first | cases hm; done | skip
  · obtain ⟨dx, k, n, rfl⟩ := h
    exact ⟨D, rfl, dx, k, n, .head _, .tail _ (.head _)⟩
  · obtain ⟨n, rfl⟩ := h
    exact ⟨D, n, rfl, .head _⟩
  · obtain ⟨n, v1, rfl, r⟩ := h
    exact ⟨D, v1, n, rfl, .head _, r.mono fun _ h => .tail _ h⟩
  · obtain ⟨n, v1, v2, rfl, r1, r2⟩ := h
    exact ⟨D, v1, v2, n, rfl, .head _, r1.mono fun _ h => .tail _ h, r2.mono fun _ h => .tail _ h⟩
  · obtain ⟨n, v1, v2, v3, rfl, r1, r2, r3⟩ := h
    exact ⟨D, v1, v2, v3, n, rfl, .head _, r1.mono fun _ h => .tail _ h, r2.mono fun _ h => .tail _ h, r3.mono fun _ h => .tail _ h⟩
/-- the thing stays as it is from now on -/
theorem PSt.frz {ρ' : Nms} (P : PSt F C ρ nl s) (hf : Frz ρ' ρ) : PSt F C ρ' ⟨nl.l ++ nl.z, []⟩ s := by
  obtain ⟨m, hF, hR⟩ := P.F
  refine ⟨P.ok, ⟨m, hF, fun x w hx => ?_⟩, fun p hp => P.N p ?_, fun p hp q hq => ?_, (fun _ h => nomatch h), fun p hp => List.mem_append_right _ (P.sub p hp)⟩
  · rcases hf x w hx with ⟨h1, h2⟩ | ⟨D, h1, h2⟩
    · obtain ⟨y, hy, r⟩ := hR x w h1
      exact ⟨y, hy.mono fun p hp => List.mem_append_right _ hp, .of ((r.out h2).mono fun p hp => List.mem_append_right _ hp)⟩
    · obtain ⟨y, hy, r⟩ := hR x _ h1
      obtain ⟨rfl, r⟩ := r
      exact ⟨_, hy.mono fun p hp => List.mem_append_right _ hp, .of (r.frz h2)⟩
  · rcases List.mem_append.mp hp with hp | hp
    · rcases List.mem_append.mp hp with hp | hp
      · exact P.mel hp
      · exact P.mem hp
    · exact List.mem_append_right _ (List.mem_append_right _ hp)
  · rcases List.mem_append.mp hp with hp | hp
    · exact P.offl p hp q hq
    · exact P.off p hp q (List.mem_append_right _ hq)
theorem SS.frz {ρ' : Nms} {b : List Stmt} (h : Frz ρ' ρ) (hb : SS F C ρ' b K) : SS F C ρ b K := ⟨fun s nl Q E P O kn kr => hb.go s _ Q E (P.frz h) O (fun ρ' h tk nl' k P' s' => kn ρ' h tk nl' k P' fun p hp => s' p (List.mem_append_right _ hp)) fun v y h tk nl' k P' s' r => kr v y h tk nl' k P' (fun p hp => s' p (List.mem_append_right _ hp)) r⟩
/-- a new thing that may change -/
theorem PSt.fresh (P : PSt F C ρ nl s) (hn : ρ.all (fun x => !isMu x.2) = true) (hR : REnv C nl ρ m) (hF : Fr C.g C.L s'.heap m) (N' : News C.g C.L s'.heap (l' ++ (nl.z ++ (nl.l ++ C.ml)))) (hl : ∀ p ∈ nl.z ++ (nl.l ++ C.ml), ∀ q ∈ l', @Ne Nat p.1 q.1) : PSt F C ρ ⟨nl.l ++ nl.z, l'⟩ s' := by
  have hno : ∀ x w, ρ.lookup x = some w → isMu w = false := fun x w hx => by
    cases hm : isMu w with
    | false => rfl
    | true =>
      have h1 : ∀ zn, one zn ρ = true := fun zn => by
        unfold one
        rw [List.all_eq_true] at hn ⊢
        intro q hq
        rw [hn q hq]; rfl
      have e1 := one_eq (h1 (Str.ofString "")) hx hm
      have e2 := one_eq (h1 (Str.ofString "x")) hx hm
      rw [e1] at e2
      exact absurd e2 (by decide)
  refine ⟨P.ok, ⟨m, hF, fun x w hx => ?_⟩, fun p hp => N' p ?_, fun p hp q hq => ?_, fun q hq p hp => ?_, fun p hp => List.mem_append_right _ (P.sub p hp)⟩
  · obtain ⟨y, hy, r⟩ := hR x w hx
    exact ⟨y, hy.mono fun p hp => List.mem_append_right _ hp, .of ((r.out (hno x w hx)).mono fun p hp => List.mem_append_right _ hp)⟩
  · rcases List.mem_append.mp hp with hp | hp
    · rcases List.mem_append.mp hp with hp | hp
      · exact List.mem_append_right _ (P.mel hp)
      · exact List.mem_append_right _ (P.mem hp)
    · rcases List.mem_append.mp hp with hp | hp
      · exact List.mem_append_left _ hp
      · exact List.mem_append_right _ (List.mem_append_right _ (List.mem_append_right _ hp))
  · rcases List.mem_append.mp hq with hq | hq
    · rcases List.mem_append.mp hp with hp | hp
      · exact hl p (P.mel hp) q hq
      · exact hl p (P.mem hp) q hq
    · rcases List.mem_append.mp hp with hp | hp
      · exact P.offl p hp q hq
      · exact P.off p hp q (List.mem_append_right _ hq)
  · exact (hl p (List.mem_append_right _ (List.mem_append_right _ hp)) q hq).symm
end

-- piece 125
-- needs: 124
/-- the items of a short list -/
def its : PV → Option (List PV)
  | .l0 => some []
  | .l1 x => some [x]
  | .l2 x y => some [x, y]
  | .l3 x y z => some [x, y, z]
  | _ => none
theorem its_of {P : Params} {nl : List (Addr × Obj)} {v : PV} {vs : List PV} {y : Value} (h : its v = some vs) (r : RV1 P nl v y) : ∃ D ys n, y = .ref D ∧ (D, listOf (List.toArray ys) n) ∈ nl ∧ RL P nl vs ys := by
  cases v <;> cases h
  · obtain ⟨D, n, e, m⟩ := r; exact ⟨D, [], n, e, m, .nil⟩
  · obtain ⟨D, v1, n, e, m, r1⟩ := r; exact ⟨D, [v1], n, e, m, .cons r1 .nil⟩
  · obtain ⟨D, v1, v2, n, e, m, r1, r2⟩ := r; exact ⟨D, [v1, v2], n, e, m, .cons r1 (.cons r2 .nil)⟩
  · obtain ⟨D, v1, v2, v3, n, e, m, r1, r2, r3⟩ := r; exact ⟨D, [v1, v2, v3], n, e, m, .cons r1 (.cons r2 (.cons r3 .nil))⟩
theorem its_to {P : Params} {nl : List (Addr × Obj)} {v : PV} {vs : List PV} {D : Addr} {ys : List Value} {n : Nat} (h : its v = some vs) (m : (D, listOf (List.toArray ys) n) ∈ nl) (r : RL P nl vs ys) : RV1 P nl v (.ref D) := by
  cases v <;> cases h
  · obtain _ | _ := r; exact ⟨D, n, rfl, m⟩
  · obtain _ | ⟨r1, r⟩ := r; obtain _ | _ := r; exact ⟨D, _, n, rfl, m, r1⟩
  · obtain _ | ⟨r1, r⟩ := r; obtain _ | ⟨r2, r⟩ := r; obtain _ | _ := r; exact ⟨D, _, _, n, rfl, m, r1, r2⟩
  · obtain _ | ⟨r1, r⟩ := r; obtain _ | ⟨r2, r⟩ := r; obtain _ | ⟨r3, r⟩ := r; obtain _ | _ := r; exact ⟨D, _, _, _, n, rfl, m, r1, r2, r3⟩
theorem its_mat {P : Params} {z l : List (Addr × Obj)} {D : Addr} {c : PV} {vs : List PV} (h : its c = some vs) : MAt P z l D c ↔ ∃ n ys, l = [(D, listOf (List.toArray ys) n)] ∧ RL P z vs ys := by
  cases c <;> cases h
  · exact ⟨fun ⟨n, e⟩ => ⟨n, [], e, .nil⟩, fun ⟨n, ys, e, r⟩ => by obtain _ | _ := r; exact ⟨n, e⟩⟩
  · exact ⟨fun ⟨n, v1, e, r1⟩ => ⟨n, [v1], e, .cons r1 .nil⟩, fun ⟨n, ys, e, r⟩ => by obtain _ | ⟨r1, r⟩ := r; obtain _ | _ := r; exact ⟨n, _, e, r1⟩⟩
  · exact ⟨fun ⟨n, v1, v2, e, r1, r2⟩ => ⟨n, [v1, v2], e, .cons r1 (.cons r2 .nil)⟩, fun ⟨n, ys, e, r⟩ => by obtain _ | ⟨r1, r⟩ := r; obtain _ | ⟨r2, r⟩ := r; obtain _ | _ := r; exact ⟨n, _, _, e, r1, r2⟩⟩
  · exact ⟨fun ⟨n, v1, v2, v3, e, r1, r2, r3⟩ => ⟨n, [v1, v2, v3], e, .cons r1 (.cons r2 (.cons r3 .nil))⟩, fun ⟨n, ys, e, r⟩ => by obtain _ | ⟨r1, r⟩ := r; obtain _ | ⟨r2, r⟩ := r; obtain _ | ⟨r3, r⟩ := r; obtain _ | _ := r; exact ⟨n, _, _, _, e, r1, r2, r3⟩⟩
theorem RL.len {P : Params} {nl : List (Addr × Obj)} {vs : List PV} {ys : List Value} (r : RL P nl vs ys) : ys.length = vs.length := by
  induction r with
  | nil => rfl
  | cons _ _ ih => rw [List.length_cons, List.length_cons, ih]
theorem RL.app {P : Params} {nl : List (Addr × Obj)} {vs ws : List PV} {ys zs : List Value} (r : RL P nl vs ys) (q : RL P nl ws zs) : RL P nl (vs ++ ws) (ys ++ zs) := by
  induction r with
  | nil => exact q
  | cons r _ ih => exact .cons r ih
theorem RL.at {P : Params} {nl : List (Addr × Obj)} {vs : List PV} {ys : List Value} (r : RL P nl vs ys) : ∀ {k : Nat} {w : PV}, vs[k]? = some w → ∃ y, ys[k]? = some y ∧ RV1 P nl w y := by
  induction r with
  | nil => intro k w h; cases h
  | cons r _ ih =>
    intro k w h
    cases k with
    | zero => obtain rfl := Option.some.inj h; exact ⟨_, rfl, r⟩
    | succ k => exact ih h
theorem its_len {v : PV} {vs : List PV} (h : its v = some vs) : vs.length ≤ 3 := by
  cases v <;> cases h <;> simp
theorem tooLong {b : Bool} {n : Nat} (h : n ≤ 16) : ¬(b && Builtin.List.listTooLong n) = true := by
  have : Builtin.List.listTooLong n = false := by
    unfold Builtin.List.listTooLong; exact decide_eq_false (Nat.not_lt.mpr (by rw [PySem.sizeLine_eq]; omega))
  rw [this, Bool.and_false]; decide
section
variable {F : FI} {C : Fx} {ρ ρ1 ρ2 ρe : Nms} {s s' : Shared} {nl nl' : LG} {e e1 e2 e3 : PySem.Expr} {es : List PySem.Expr} {a b n : Int} {x y : PySem.Str} {p p1 p2 p3 : Pos} {u v v1 v2 v3 c c' : PV} {vs ws : List PV} {rest body orelse : List Stmt} {K : Out → Prop} {D : Addr} {zn z : Str} {m : Str → Option Value} {l' : List (Addr × Obj)}
theorem sz3 {n : Nat} (h : n ≤ 16) : n ≤ PySem.sizeLine := by rw [PySem.sizeLine_eq]; omega
/-- a new list -/
theorem EV.lst (ha : EAM F C ρ es vs ρ1) (hi : its v = some vs) : EM F C ρ (.List es p) v ρ1 := ⟨fun s nl Q E P q => List_ (ha.go s nl _ _ _ P fun ys h tk nl1 P1 s1 r1 => by
  obtain ⟨m, hF, hR⟩ := P1.F
  have hl3 := its_len hi
  refine newList_K hF P1.N (fun D h' F' N' hl => ?_) (sz3 (by rw [r1.len]; omega))
  exact q _ h' _ _ (P1.more hR F' N' hl) (fun p hp => .tail _ (s1 p hp)) (its_to hi (.head _) (r1.mono fun _ hp => .tail _ hp)))⟩
theorem EV.lenL (h1 : EV F C ρ e v) (hi : its v = some vs) (hx : F.sc.names.lookup (Str.ofString "len") = some .globalImplicit) (hst : starEach [e] C.env = [(false, eval e C.env)]) : EV F C ρ (.Call (.Name (Str.ofString "len") p1) [e] [] p) (.i vs.length) :=
  EV.bi1 (fun _ => by rfl) (by rfl) (by decide) hx (by decide) h1 hst fun s nl _ _ _ P r q => by
    obtain ⟨D, ys, n, rfl, hm, r⟩ := its_of hi r
    have hl3 := its_len hi
    have hl := r.len
    exact lenLit (News.isList P.N (P.mem hm)) (by rw [List.size_toArray, hl]) (by omega) (q _ _ ⟨_, rfl⟩)
/-- an item at a known place -/
theorem EV.itL {k : Nat} (h1 : EV F C ρ e1 v) (hi : its v = some vs) (h2 : EM F C ρ e2 (.i a) ρ1) (ha : a = k) (hk : vs[k]? = some u) (hs : ∀ D u, subscripted e2 false (.ref D) (.int a u) = operate [.ref D, .int a u] (getItem (.ref D) (.int a u))) (ht : ∀ t r, letTemporaryGo e1 (.ref t) r = pure ()) : EM F C ρ (.Subscript e1 e2 p) u ρ1 :=
  ⟨fun s nl _ _ P q => Subscript_ (h1.go s nl _ _ P fun y1 _ _ nl1 P1 s1 r1 => h2.go _ nl1 _ _ P1 fun y2 hh tk nl2 P2 s2 r2 => by
    obtain ⟨D, ys, n, rfl, hm, r⟩ := its_of hi (r1.mono s2)
    obtain ⟨t, rfl⟩ := r2
    obtain ⟨y, hy, ry⟩ := r.at hk
    have hl3 := its_len hi
    have hk2 : k < vs.length := (List.getElem?_eq_some_iff.mp hk).1
    exact item_listL (s := { s with heap := hh, toks := tk }) (News.isList P2.N (P2.mem hm)) (by omega) (by omega) (by rw [ha]; exact hy) (q _ _ _ nl2 P2 (fun p hp => s2 p (s1 p hp)) ry) (hs D t) (ht D))⟩
/-- two lists, one behind the other -/
theorem EV.addL (h1 : EV F C ρ e1 v1) (h2 : EV F C ρ e2 v2) (i1 : its v1 = some vs) (i2 : its v2 = some ws) (hi : its v = some (vs ++ ws)) : EV F C ρ (.BinOp e1 .Add e2 p) v := ⟨fun s nl _ _ P q => wpAny_BinOp (h1.go s nl _ _ P fun y1 _ _ nl1 P1 s1 r1 => h2.go _ nl1 _ _ P1 fun y2 hh tk nl2 P2 s2 r2 => by
  obtain ⟨D1, ys, n1, rfl, hm1, r1⟩ := its_of i1 (r1.mono s2)
  obtain ⟨D2, zs, n2, rfl, hm2, r2⟩ := its_of i2 r2
  obtain ⟨m, hF, hR⟩ := P2.F
  have hl1 := its_len i1
  have hl2 := its_len i2
  refine kmk_add_lit hF P2.N (News.isList P2.N (P2.mem hm1)) (News.isList P2.N (P2.mem hm2)) rfl (fun D h' F' N' hl => ?_) (sz3 (by rw [List.toList_toArray, List.toList_toArray, r1.len, r2.len]; omega))
  refine q _ h' _ ⟨(D, listOf (List.toArray (ys ++ zs)) 0) :: nl2.z, nl2.l⟩ (P2.more hR F' ?_ hl) (fun p hp => .tail _ (s2 p (s1 p hp))) (its_to hi (.head _) ((r1.app r2).mono fun _ hp => .tail _ hp))
  rw [List.toList_toArray, List.toList_toArray] at N'
  exact N')⟩
/-- z = [] -/
theorem SS.newL (hx : F.sc.names.lookup z = some .local) (hn : ρ.all (fun x => !isMu x.2) = true) (hsw : ∀ cn L a ccd cl, swapsWith (.List [] p2) (some (.Name z p1)) p.line (envX cn F.sc L a ccd cl) = pure false) (hr : ∀ D, SS F C ((z, .mu D .l0) :: ρ) rest K) : SS F C ρ (.Assign [.Name z p1] (.List [] p2) p :: rest) K :=
  ⟨fun s nl Q E P O kn kr => wpAny_execs_cons (wpAny_Assign_Name (List_ (args_nil (by
    obtain ⟨m, hF, hR⟩ := P.F
    refine newList_K hF P.N (fun D h' F' N' hl => ?_) (sz3 (by decide))
    have P' : PSt F C ρ ⟨nl.l ++ nl.z, [(D, listOf #[] 0)]⟩ { s with heap := h' } := P.fresh hn hR F' N' fun p hp q hq => by rw [List.mem_singleton.mp hq]; exact Nat.ne_of_lt (hl p hp)
    exact P'.storeM (v := .mu D .l0) ⟨rfl, 0, rfl⟩ hx fun h tk P2 => (hr D).go _ _ Q E P2 O (fun ρ' h tk nl' k P3 s3 => kn ρ' h tk nl' k P3 fun p hp => s3 p (List.mem_append_right _ hp)) fun v y h tk nl' k P3 s3 r => kr v y h tk nl' k P3 (fun p hp => s3 p (List.mem_append_right _ hp)) r)))
    (by have := hsw C.cn C.L C.a C.ccd C.cl; rw [← P.ok.sc] at this; exact this))⟩
/-- x, y, w = [], '..', 0 -/
theorem SS.newL3 {z1 z2 z3 : Str} {p4 p5 p6 p7 p8 : Pos} {k k1 k2 k3 : Nat} (hn : ρ.all (fun x => !isMu x.2) = true) (hx1 : F.sc.names.lookup z1 = some .local) (hx2 : F.sc.names.lookup z2 = some .local) (hx3 : F.sc.names.lookup z3 = some .local)
    (hsw : ∀ cn L b ccd cl, swapsWithSole [.Tuple [.Name z1 p1, .Name z2 p2, .Name z3 p4] k p3] (.Tuple [.List [] p5, .Constant (.str x) k1 p6, .Constant (.int a) k2 p7] k3 p8) p.line (envX cn F.sc L b ccd cl) = pure false)
    (hss : ∀ cn L b ccd cl, swappedStores [.Tuple [.Name z1 p1, .Name z2 p2, .Name z3 p4] k p3] (.Tuple [.List [] p5, .Constant (.str x) k1 p6, .Constant (.int a) k2 p7] k3 p8) (envX cn F.sc L b ccd cl) = pure (some [z1, z2, z3])) (hr : ∀ D, SS F C ((z1, .mu D .l0) :: (z2, .s x) :: (z3, .i a) :: ρ) rest K) :
    SS F C ρ (.Assign [.Tuple [.Name z1 p1, .Name z2 p2, .Name z3 p4] k p3] (.Tuple [.List [] p5, .Constant (.str x) k1 p6, .Constant (.int a) k2 p7] k3 p8) p :: rest) K :=
  ⟨fun s nl Q E P O kn kr => wpAny_execs_cons (Assign_Tuple_swapped (names := [z1, z2, z3]) (Tuple_ (args_cons (List_ (args_nil (by
    obtain ⟨m, hF, hR⟩ := P.F
    refine newList_K hF P.N (fun D h' F' N' hl => ?_) (sz3 (by decide))
    have P' : PSt F C ρ ⟨nl.l ++ nl.z, [(D, listOf #[] 0)]⟩ { s with heap := h' } := P.fresh hn hR F' N' fun p hp q hq => by rw [List.mem_singleton.mp hq]; exact Nat.ne_of_lt (hl p hp)
    refine args_cons (Calls.Constant_str (args_cons (wpAny_Constant_int (args_nil ?_)) rfl)) rfl
    obtain ⟨m2, hF2, hR2⟩ := P'.F
    refine kup_newTuple (s := ⟨_, _, _, _, _⟩) hF2 P'.N (fun T h2 F2 N2 hl2 => ?_) (sz3 (show 3 ≤ 16 by decide))
    have P2 : PSt F C ρ ⟨(T, tupO [.ref D, .str x s.toks, .int a (s.toks + 1)]) :: (nl.l ++ nl.z), [(D, listOf #[] 0)]⟩ ⟨h2, s.gens, s.drawn, s.toks + 1 + 1, s.os⟩ := P'.more (s' := ⟨h2, s.gens, s.drawn, s.toks + 1 + 1, s.os⟩) hR2 F2 N2 hl2
    obtain ⟨m3, hF3, hR3⟩ := P2.F
    refine unpackItemsN_ hF3 P2.N (isTup2 P2 (.inl (.head _))) rfl rfl fun h3 F3 N3 => ?_
    refine assignInOrder_cons (bindName_ ((P2.upd ⟨m3, F3, hR3⟩ N3 : PSt F C ρ _ _).store (v := .i a) ⟨_, rfl⟩ hx3 fun h tk P3 => assignInOrder_cons (bindName_ (P3.store (v := .s x) ⟨_, rfl⟩ hx2 fun h tk P4 => assignInOrder_cons (bindName_ (P4.storeM (v := .mu D .l0) ⟨rfl, 0, rfl⟩ hx1 fun h tk P5 => assignInOrder_nil ?_))))))
    exact (hr D).go _ _ Q E P5 O (fun ρ' h tk nl' k P3 s3 => kn ρ' h tk nl' k P3 fun p hp => s3 p (.tail _ (List.mem_append_right _ hp))) fun v y h tk nl' k P3 s3 r => kr v y h tk nl' k P3 (fun p hp => s3 p (.tail _ (List.mem_append_right _ hp))) r))) rfl)) (by have := hsw C.cn C.L C.a C.ccd C.cl; rw [← P.ok.sc] at this; exact this) (by have := hss C.cn C.L C.a C.ccd C.cl; rw [← P.ok.sc] at this; exact this))⟩
/-- the thing becomes a list of other items -/
theorem PSt.chgL {ws' : List PV} {zs : List Value} {k k' : Nat} {ys : List Value} (P : PSt F C ρ nl s) (hz : ρ.lookup z = some (.mu D c)) (h1 : one z ρ = true) (hR : REnv C nl ρ m) (hF : Fr C.g C.L s'.heap m) (el : nl.l = [(D, listOf (List.toArray ys) k)]) (N' : News C.g C.L s'.heap (nl.z ++ ([(D, listOf (List.toArray zs) k')] ++ C.ml))) (hi' : its c' = some ws') (r : RL C.w.params nl.z ws' zs) :
    PSt F C ((z, .mu D c') :: ρ) ⟨nl.z, [(D, listOf (List.toArray zs) k')]⟩ s' :=
  P.chg hz h1 hR hF N' ((its_mat hi').mpr ⟨_, _, rfl, r⟩) fun q hq => ⟨(D, listOf (List.toArray ys) k), by rw [el]; exact .head _, by rw [List.mem_singleton.mp hq]⟩
theorem PSt.updL {zs ys : List Value} {k k' : Nat} (P : PSt F C ρ nl s) (el : nl.l = [(D, listOf (List.toArray ys) k)]) : Upd D (listOf (List.toArray ys) k) (listOf (List.toArray zs) k') (nl.z ++ (nl.l ++ C.ml)) (nl.z ++ ([(D, listOf (List.toArray zs) k')] ++ C.ml)) := P.upd_l (by rw [el]; exact .head fun _ h => nomatch h)
/-- z.append(e) -/
theorem SS.append {pl : Sem Bool} {c0 : PV} {us : List PV} (hz0 : ρ.lookup z = some (.mu D c0)) (hi0 : its c0 = some us) (he : EM F C ρ e v ρ1) (hz : ρ1.lookup z = some (.mu D c)) (h1 : one z ρ1 = true) (hx : F.sc.names.lookup z = some .local) (hd : (z == Str.ofString "__debug__") = false) (hi : its c = some vs) (hi' : its c' = some (vs ++ [v]))
    (hst : starEach [e] C.env = [(false, eval e C.env)]) (hsw : ∀ cn L a ccd cl, swapsWith (.Call (.Attribute (.Name z p1) (Str.ofString "append") p2) [e] [] p3) none p.line (envX cn F.sc L a ccd cl) = pure false)
    (hmc : eval (.Call (.Attribute (.Name z p1) (Str.ofString "append") p2) [e] [] p3) C.env = (do
      let ov ← eval (.Name z p1) C.env
      standAt p2.atName
      let (f, first) ← holding [ov] (getMethod ov (Str.ofString "append") pl)
      callWith p3 f first (backTo p3 (starEach [e] C.env)) []))
    (hr : SS F C ((z, .mu D c') :: ρ1) rest K) : SS F C ρ (.Expr (.Call (.Attribute (.Name z p1) (Str.ofString "append") p2) [e] [] p3) p :: rest) K :=
  ⟨fun s nl Q E P O kn kr => wpAny_execs_cons (wpAny_Expr (MethodCall_ ((EV.nmM hz0 hx hd).go s nl _ _ P fun y hh tk nl1 P1 s1 r => by
    have e : y = .ref D := r
    subst e
    obtain ⟨k0, ys0, el0, _⟩ := (its_mat hi0).mp (P1.at hz0)
    refine listMethod_K P1.N (P1.mel (by rw [el0]; exact .head _)) PySem.F.slot_list_append PySem.F.type_list_append ?_
    refine callWith_method1 (args_cons (he.go _ nl1 _ _ P1 fun y h2 tk2 nl2 P2 s2 r2 => args_nil ?_) hst) hst
    obtain ⟨k, ys, el, ry⟩ := (its_mat hi).mp (P2.at hz)
    obtain ⟨m, hF, hR⟩ := P2.F
    have hl3 := its_len hi
    have hlen := ry.len
    have U := P2.updL (zs := ys ++ [y]) (k' := k + 1) el
    rw [← List.push_toArray] at U
    refine append_K (s := ⟨_, _, _, _, _⟩) hF P2.N U (fun h3 F3 N3 => ?_) (by rw [List.size_toArray]; exact sz3 (by omega))
    rw [List.push_toArray] at N3
    exact hr.go _ _ Q E (P2.chgL (s' := ⟨h3, _, _, tk2, _⟩) hz h1 hR F3 el N3 hi' (ry.app (.cons r2 .nil))) O (fun ρ' h tk nl' k P3 s3 => kn ρ' h tk nl' k P3 fun p hp => s3 p (s2 p (s1 p hp))) fun v y h tk nl' k P3 s3 r => kr v y h tk nl' k P3 (fun p hp => s3 p (s2 p (s1 p hp))) r) hmc) (by show (C.cs.kind == .module && _) = false; rw [P.ok.sc, P.ok.fn]; rfl) (by have := hsw C.cn C.L C.a C.ccd C.cl; rw [← P.ok.sc] at this; exact this))⟩
/-- z.extend(e) -/
theorem SS.extend {pl : Sem Bool} {c0 : PV} {us : List PV} (hz0 : ρ.lookup z = some (.mu D c0)) (hi0 : its c0 = some us) (he : EM F C ρ e v ρ1) (hiv : its v = some ws) (hz : ρ1.lookup z = some (.mu D c)) (h1 : one z ρ1 = true) (hx : F.sc.names.lookup z = some .local) (hd : (z == Str.ofString "__debug__") = false) (hi : its c = some vs) (hi' : its c' = some (vs ++ ws))
    (hst : starEach [e] C.env = [(false, eval e C.env)]) (hsw : ∀ cn L a ccd cl, swapsWith (.Call (.Attribute (.Name z p1) (Str.ofString "extend") p2) [e] [] p3) none p.line (envX cn F.sc L a ccd cl) = pure false)
    (hmc : eval (.Call (.Attribute (.Name z p1) (Str.ofString "extend") p2) [e] [] p3) C.env = (do
      let ov ← eval (.Name z p1) C.env
      standAt p2.atName
      let (f, first) ← holding [ov] (getMethod ov (Str.ofString "extend") pl)
      callWith p3 f first (backTo p3 (starEach [e] C.env)) []))
    (hr : SS F C ((z, .mu D c') :: ρ1) rest K) : SS F C ρ (.Expr (.Call (.Attribute (.Name z p1) (Str.ofString "extend") p2) [e] [] p3) p :: rest) K :=
  ⟨fun s nl Q E P O kn kr => wpAny_execs_cons (wpAny_Expr (MethodCall_ ((EV.nmM hz0 hx hd).go s nl _ _ P fun y hh tk nl1 P1 s1 r => by
    have e : y = .ref D := r
    subst e
    obtain ⟨k0, ys0, el0, _⟩ := (its_mat hi0).mp (P1.at hz0)
    refine listMethod_K P1.N (P1.mel (by rw [el0]; exact .head _)) PySem.F.slot_list_extend PySem.F.type_list_extend ?_
    refine callWith_method1 (args_cons (he.go _ nl1 _ _ P1 fun y h2 tk2 nl2 P2 s2 r2 => args_nil ?_) hst) hst
    obtain ⟨k, ys, el, ry⟩ := (its_mat hi).mp (P2.at hz)
    obtain ⟨D2, zs, k2, rfl, m2, rz⟩ := its_of hiv r2
    obtain ⟨m, hF, hR⟩ := P2.F
    have hl3 := its_len hi
    have hl4 := its_len hiv
    have hlen := ry.len
    have hlen2 := rz.len
    have go : ∀ h3 k', Fr C.g C.L h3 m → News C.g C.L h3 (nl2.z ++ ([(D, listOf (List.toArray (ys ++ zs)) k')] ++ C.ml)) → wpAny (PM C) C.A (execs rest C.env) Q E { s with heap := h3, toks := tk2 } := fun h3 k' F3 N3 =>
      hr.go _ _ Q E (P2.chgL (s' := ⟨h3, _, _, tk2, _⟩) hz h1 hR F3 el N3 hi' (ry.app rz)) O (fun ρ' h tk nl' k P3 s3 => kn ρ' h tk nl' k P3 fun p hp => s3 p (s2 p (s1 p hp))) fun v y h tk nl' k P3 s3 r => kr v y h tk nl' k P3 (fun p hp => s3 p (s2 p (s1 p hp))) r
    by_cases hz0 : zs = []
    · subst hz0
      rw [List.append_nil] at go
      exact kxn_extend (s := ⟨_, _, _, _, _⟩) hF P2.N (P2.mem m2) rfl (P2.updL (zs := ys) (k' := k) el) (tooLong (by simp; omega)) (by rw [List.toList_toArray]; exact sz3 (by omega)) (by rw [List.size_toArray, List.size_toArray]; exact Nat.le_succ_of_le (sz3 (by omega))) fun h3 F3 N3 => go h3 _ F3 N3
    · exact kl_extend (s := ⟨_, _, _, _, _⟩) hF P2.N (P2.mem m2) (by rw [List.toList_toArray, List.toList_toArray]) (by rw [List.toList_toArray]; exact fun h => hz0 (List.length_eq_zero_iff.mp h)) (P2.updL (zs := ys ++ zs) (k' := k + 1) el) (tooLong (by simp; omega)) (by rw [List.toList_toArray]; exact sz3 (by omega)) (by rw [List.size_toArray, List.size_toArray]; exact Nat.le_succ_of_le (sz3 (by omega))) fun h3 F3 N3 => go h3 _ F3 N3) hmc) (by show (C.cs.kind == .module && _) = false; rw [P.ok.sc, P.ok.fn]; rfl) (by have := hsw C.cn C.L C.a C.ccd C.cl; rw [← P.ok.sc] at this; exact this))⟩
/-- with another live rest -/
abbrev Fx.wl (C : Fx) (ml : List (Addr × Obj)) : Fx := { C with ml := ml }
/-- the turns over vs lead from ρ to ρe -/
def ForB (F : FI) (C : Fx) (z : Str) (body : List Stmt) (K : Out → Prop) : List PV → Nms → Nms → Prop
  | [], ρ, ρe => Sub ρe ρ
  | v :: r, ρ, ρe => ∃ ρ1, (∀ ml, SS F (C.wl ml) ((z, v) :: ρ) body (KJ ρ1 K)) ∧ ForB F C z body K r ρ1 ρe
theorem for_rest {Q : Flow → Shared → Prop} {E : Value → Shared → Prop} {I : Addr} {lp : Addr × Obj} {nl0 : LG} (hok : C.Ok F) (hlz : C.cl.lookup z = none) (O : PassesOwn (PM C) C.A C.env E) (hlp : lp ∈ nl0.z)
    (kr : ∀ v y h tk nl', K (.rt v) → PSt F C (retE v) nl' { s with heap := h, toks := tk } → (∀ p ∈ nl0.z, p ∈ nl'.z) → RV1 C.w.params nl'.z (retV v) y → Q (.ret y) { s with heap := h, toks := tk })
    (kn : ∀ h tk nl', PSt F C ρe nl' { s with heap := h, toks := tk } → (∀ p ∈ nl0.z, p ∈ nl'.z) → Q .next { s with heap := h, toks := tk }) :
    ∀ (vs : List PV) (ys : List Value) (ρ : Nms), RL C.w.params nl0.z vs ys → ForB F C z body K vs ρ ρe → ∀ (nl : LG) (m : Str → Option Value), (∀ p ∈ nl0.z, p ∈ nl.z) → REnv C nl ρ m → Off nl.z (nl.l ++ C.ml) → Off nl.l C.ml → (∀ p ∈ C.nw, p ∈ nl.z) → (∀ p ∈ nl.z ++ (nl.l ++ C.ml), p.1 ≠ I) →
      ListRest PySem.Challenge.rw_sa0063_01.row.prog C.w C.A E C.g C.env z body Q s I lp ys m (nl.z ++ (nl.l ++ C.ml)) := by
  intro vs ys ρ r
  induction r generalizing ρ with
  | nil =>
    intro hb nl m hs hR ho hol hsub hI
    exact ListRest.zero fun h tk F' N' => kn h tk nl (PSt.env ⟨hok, ⟨m, F', hR⟩, N', ho, hol, hsub⟩ hb) hs
  | @cons v0 _ _ _ rv _ ih =>
    intro hb nl m hs hR ho hol hsub hI
    obtain ⟨ρ1, hb1, hb2⟩ := hb
    refine ListRest.succ fun it h tk hc F' N' => ?_
    have P : PSt F (C.wl ((I, it) :: C.ml)) ((z, v0) :: ρ) nl { s with heap := h, toks := tk } := by
      refine ⟨⟨hok.B, hok.X, hok.T, hok.sc, hok.fn, hok.hd, hok.hu, hok.lo⟩, ⟨_, F', fun x w hx => ?_⟩, fun p hp => N' p ?_, fun p hp q hq => ?_, fun p hp q hq => ?_, hsub⟩
      · rw [List.lookup_cons] at hx
        cases hz : (x == z) with
        | true => rw [hz] at hx; obtain rfl := Option.some.inj hx; exact ⟨_, .inl ⟨by rw [eq_of_beq hz]; exact hlz, if_pos (eq_of_beq hz)⟩, .of (rv.mono hs)⟩
        | false =>
          rw [hz] at hx
          obtain ⟨u, hu, ru⟩ := hR x w hx
          exact ⟨u, hu.push hz, ru⟩
      · rcases List.mem_append.mp hp with hp | hp
        · exact .tail _ (List.mem_append_left _ hp)
        · rcases List.mem_append.mp hp with hp | hp
          · exact .tail _ (List.mem_append_right _ (List.mem_append_left _ hp))
          · rcases List.mem_cons.mp hp with rfl | hp
            · exact .head _
            · exact .tail _ (List.mem_append_right _ (List.mem_append_right _ hp))
      · rcases List.mem_append.mp hq with hq | hq
        · exact ho p hp q (List.mem_append_left _ hq)
        · rcases List.mem_cons.mp hq with rfl | hq
          · exact hI p (List.mem_append_left _ hp)
          · exact ho p hp q (List.mem_append_right _ hq)
      · rcases List.mem_cons.mp hq with rfl | hq
        · exact hI p (List.mem_append_right _ (List.mem_append_left _ hp))
        · exact hol p hp q hq
    have back : ∀ {ρ' : Nms} {nl' : LG} {s' : Shared}, PSt F (C.wl ((I, it) :: C.ml)) ρ' nl' s' → PSt F C ρ' nl' s' := fun P' => ⟨hok, P'.F, fun p hp => P'.N p (by
        rcases List.mem_append.mp hp with hp | hp
        · exact List.mem_append_left _ hp
        · rcases List.mem_append.mp hp with hp | hp
          · exact List.mem_append_right _ (List.mem_append_left _ hp)
          · exact List.mem_append_right _ (List.mem_append_right _ (.tail _ hp))), fun p hp q hq => P'.off p hp q (by
        rcases List.mem_append.mp hq with hq | hq
        · exact List.mem_append_left _ hq
        · exact List.mem_append_right _ (.tail _ hq)), fun p hp q hq => P'.offl p hp q (.tail _ hq), P'.sub⟩
    refine (hb1 ((I, it) :: C.ml)).go _ nl _ E P O (fun ρ' h' tk' nl' k P' s' => ?_) (fun v y h' tk' nl' k P' s' r => kr v y h' tk' nl' k (back P') (fun p hp => s' p (hs p hp)) r)
    have offI : ∀ p ∈ nl'.z ++ (nl'.l ++ C.ml), p.1 ≠ I := fun p hp => by
      rcases List.mem_append.mp hp with hp | hp
      · exact P'.off p hp (I, it) (List.mem_append_right _ (.head _))
      · rcases List.mem_append.mp hp with hp | hp
        · exact P'.offl p hp (I, it) (.head _)
        · exact hI p (List.mem_append_right _ (List.mem_append_right _ hp))
    have P1 := back (P'.env k)
    obtain ⟨m', F2, R2⟩ := P1.F
    refine UnrEnd.intro F2 P'.N (nl'.z ++ (nl'.l ++ C.ml)) (fun p hp => ?_) (fun p hp => ?_) ⟨List.mem_append_left _ (s' _ (hs _ hlp)), ih ρ1 hb2 nl' m' (fun p hp => s' p (hs p hp)) R2 P1.off P1.offl P1.sub ?_⟩
    · rcases List.mem_cons.mp hp with rfl | hp
      · exact List.mem_append_right _ (List.mem_append_right _ (.head _))
      · rcases List.mem_append.mp hp with hp | hp
        · exact List.mem_append_left _ hp
        · rcases List.mem_append.mp hp with hp | hp
          · exact List.mem_append_right _ (List.mem_append_left _ hp)
          · exact List.mem_append_right _ (List.mem_append_right _ (.tail _ hp))
    · exact offI p hp
    · exact offI
/-- for z in e -/
theorem SS.for (he : EV F C ρ e v) (hi : its v = some vs) (hb : ForB F C z body K vs ρ ρe) (hx : F.sc.names.lookup z = some .local) (hr : SS F C ρe rest K) (hf : ∀ x, foldedSetIterable e C.env x = pure x) : SS F C ρ (.For (.Name z p1) e body [] p :: rest) K :=
  ⟨fun s nl Q E P O kn kr => wpAny_execs_cons (by
    obtain ⟨m0, hF0, _⟩ := P.F
    refine For_invVF hF0 (by show C.cs.names.lookup z = _; rw [P.ok.sc]; exact hx) (by show (C.cs.kind == .class || (C.cs.kind == .module && _)) = false; rw [P.ok.sc, P.ok.fn]; rfl) (he.go s nl _ _ P fun y h tk nl1 P1 s1 r => ?_) hf O
    obtain ⟨D, ys, n, rfl, hm, ry⟩ := its_of hi r
    obtain ⟨m, hF, hR⟩ := P1.F
    refine iter_listUnr (by rfl) hF P1.N (P1.mem hm) rfl rfl fun I hI => ?_
    exact for_rest (s := { s with heap := h, toks := tk }) (Q := fun f s' => match f with | .next => wpAny (PM C) C.A (execs rest C.env) Q E s' | f => Q f s') P1.ok (P1.ok.lo z hx) O hm (fun v y h tk nl' k P' s' r => kr v y h tk nl' k P' (fun p hp => s' p (s1 p hp)) r)
      (fun h tk nl' P' s' => hr.go _ nl' Q E P' O (fun ρ' h tk nl'' k P3 s3 => kn ρ' h tk nl'' k P3 fun p hp => s3 p (s' p (s1 p hp))) fun v y h tk nl'' k P3 s3 r => kr v y h tk nl'' k P3 (fun p hp => s3 p (s' p (s1 p hp))) r)
      vs ys ρ ry hb nl1 m (fun _ h => h) hR P1.off P1.offl P1.sub fun p hp => Nat.ne_of_lt (hI p hp))⟩
end

-- piece 131
-- needs: 124 09
section
variable {q : Pic} {F : FI} {C : Fx} {ρ : Nms} {p : Pos}
theorem EV.bool {c : Bool} {k : Nat} : EV F C ρ (.Constant (.bool c) k p) (.b c) := ⟨fun s nl _ _ P q => Constant_bool (q _ _ _ nl P.tk (fun _ h => h) rfl)⟩
theorem pu_left {n : Int} : PU (Str.ofString "left") (.pc q) (.i n) (.pc { q with left := n }) :=
  ⟨fun P _ _ _ ⟨dx, k, n0, e⟩ => ⟨dx, _, n0, e, by show 8 ≤ 500; decide, rfl, fun y _ _ ⟨t, r⟩ => by subst r; exact ⟨⟨dx, { k with vl := t }, _, rfl⟩, by show 8 ≤ 1000; decide⟩⟩, fun _ => rfl⟩
theorem pu_right {n : Int} : PU (Str.ofString "right") (.pc q) (.i n) (.pc { q with right := n }) :=
  ⟨fun P _ _ _ ⟨dx, k, n0, e⟩ => ⟨dx, _, n0, e, by show 8 ≤ 500; decide, rfl, fun y _ _ ⟨t, r⟩ => by subst r; exact ⟨⟨dx, { k with vr := t }, _, rfl⟩, by show 8 ≤ 1000; decide⟩⟩, fun _ => rfl⟩
theorem pu_sign {x : PySem.Str} : PU (Str.ofString "sign") (.pc q) (.s x) (.pc { q with sign := x }) :=
  ⟨fun P _ _ _ ⟨dx, k, n0, e⟩ => ⟨dx, _, n0, e, by show 8 ≤ 500; decide, rfl, fun y _ _ ⟨t, r⟩ => by subst r; exact ⟨⟨dx, { k with vs := t }, _, rfl⟩, by show 8 ≤ 1000; decide⟩⟩, fun _ => rfl⟩
theorem pu_point {c : Bool} : PU (Str.ofString "has_point") (.pc q) (.b c) (.pc { q with point := c }) :=
  ⟨fun P _ _ _ ⟨dx, k, n0, e⟩ => ⟨dx, _, n0, e, by show 8 ≤ 500; decide, rfl, fun y _ _ r => by have r : y = .bool c := r; subst r; exact ⟨⟨dx, k, _, rfl⟩, by show 8 ≤ 1000; decide⟩⟩, fun _ => rfl⟩
theorem pu_star {c : Bool} : PU (Str.ofString "has_star") (.pc q) (.b c) (.pc { q with star := c }) :=
  ⟨fun P _ _ _ ⟨dx, k, n0, e⟩ => ⟨dx, _, n0, e, by show 8 ≤ 500; decide, rfl, fun y _ _ r => by have r : y = .bool c := r; subst r; exact ⟨⟨dx, k, _, rfl⟩, by show 8 ≤ 1000; decide⟩⟩, fun _ => rfl⟩
theorem pu_dollar {c : Bool} : PU (Str.ofString "has_dollar") (.pc q) (.b c) (.pc { q with dollar := c }) :=
  ⟨fun P _ _ _ ⟨dx, k, n0, e⟩ => ⟨dx, _, n0, e, by show 8 ≤ 500; decide, rfl, fun y _ _ r => by have r : y = .bool c := r; subst r; exact ⟨⟨dx, k, _, rfl⟩, by show 8 ≤ 1000; decide⟩⟩, fun _ => rfl⟩
theorem pu_comma {c : Bool} : PU (Str.ofString "has_comma") (.pc q) (.b c) (.pc { q with comma := c }) :=
  ⟨fun P _ _ _ ⟨dx, k, n0, e⟩ => ⟨dx, _, n0, e, by show 8 ≤ 500; decide, rfl, fun y _ _ r => by have r : y = .bool c := r; subst r; exact ⟨⟨dx, k, _, rfl⟩, by show 8 ≤ 1000; decide⟩⟩, fun _ => rfl⟩
theorem pu_expo {c : Bool} : PU (Str.ofString "has_exponent") (.pc q) (.b c) (.pc { q with expo := c }) :=
  ⟨fun P _ _ _ ⟨dx, k, n0, e⟩ => ⟨dx, _, n0, e, by show 8 ≤ 500; decide, rfl, fun y _ _ r => by have r : y = .bool c := r; subst r; exact ⟨⟨dx, k, _, rfl⟩, by show 8 ≤ 1000; decide⟩⟩, fun _ => rfl⟩
end
-- @use
local macro_rules | `(tactic| walk_at "P pu") => `(tactic| first | exact pu_left | exact pu_right | exact pu_sign | exact pu_point | exact pu_star | exact pu_dollar | exact pu_comma | exact pu_expo)
local macro_rules | `(tactic| walk_at "P at") => `(tactic| first | exact AT.nm (by rfl) | (refine' AT.attr (by rfl) (by rfl) ?hu (by rfl) (by decide); (case hu => walk_at "P pu")))
local macro_rules | `(tactic| walk_at "P s") => `(tactic| (first
  | (refine' SS.asgT2 ?h1 ?h2 ?h3 (by intros; with_unfolding_all rfl) (by intros; with_unfolding_all rfl) (by rfl) ?_; (case h1 => walk_at "P v"); (case h2 => walk_at "P at"); (case h3 => walk_at "P at"))
  | (refine' SS.asgT3 ?h1 ?h2 ?h3 ?h4 (by intros; with_unfolding_all rfl) (by intros; with_unfolding_all rfl) (by rfl) ?_; (case h1 => walk_at "P v"); (case h2 => walk_at "P at"); (case h3 => walk_at "P at"); (case h4 => walk_at "P at"))
  | (refine' SS.asgA ?h1 ?h3 ?h4 ?h2 (by rfl) (by decide) (by intros; with_unfolding_all rfl) ?_; (case h1 => walk_at "P v"); (case h3 => rfl); (case h4 => rfl); (case h2 => walk_at "P pu"))))
local macro_rules | `(tactic| walk_at "P w") => `(tactic| (first
  | exact EV.bool
  | exact EV.nmM (by rfl) (by rfl) (by decide)
  | (refine' EV.attrM (by rfl) (by rfl) (by decide) ?h2; (case h2 => first | exact pa_left | exact pa_right | exact pa_sign | exact pa_point | exact pa_star | exact pa_dollar | exact pa_comma | exact pa_expo))))
local macro_rules | `(tactic| walk_at "P retM") => `(tactic| (refine' SS.retM (zn := Str.ofString "picture") ?h1 ?h2 ?_; (case h1 => walk_at "P v"); (case h2 => rfl); (try repeat refine is_i ?_); (try (show PV.w _ _ _ _ = PV.w _ _ _ _))))
-- @end
theorem w_eq {z : Str} {X : Addr} {u u' : Int} {r r' : Pic} (h : u = u') (h2 : r = r') : PV.w z (.i u) X (.pc r) = PV.w z (.i u') X (.pc r') := by rw [h, h2]
theorem gf_100 : GF (Str.ofString "read_ahead") 100 := ⟨fun _ => rfl, fun _ => rfl⟩
theorem read_ahead_pc (x : PySem.Str) (a : Int) (X : Addr) (hx : x.length ≤ 100) (h0 : 0 ≤ a) (h1 : a ≤ x.length) : PC 100 1 X (.pc pic0) [.s x, .i a] (.i (a + (aheadL pic0 (suf x a)).2)) (.pc (aheadL pic0 (suf x a)).1) := by
  (k_dflt (refine pc_in3 (F := ⟨_, _⟩) (fun _ => by rfl) (fun _ => by rfl) (fun _ _ _ => by rfl) (by rfl) (by rfl) (by rfl) ⟨rfl, rfl, rfl, by decide⟩ fun Cx => ?_); (try dsimp only))
  obtain ⟨s, hs⟩ : ∃ s, s = decide ((suf x a).take 1 = [43]) := ⟨_, rfl⟩
  obtain ⟨q, hq⟩ : ∃ q : Pic, q = if s = true then { pic0 with sign := PySem.Str.ofString "+ahead" } else pic0 := ⟨_, rfl⟩
  obtain ⟨k, hk⟩ : ∃ k : Nat, k = if s = true then 1 else 0 := ⟨_, rfl⟩
  have hA : aheadL pic0 (suf x a) = if (suf x (a + k)).take 2 = [42, 42] then (if ((suf x (a + k)).drop 2).take 1 = [36] then ({ q with star := true, left := 3, dollar := true }, k + 3) else ({ q with star := true, left := 2 }, k + 2))
      else if (suf x (a + k)).take 2 = [36, 36] then ({ q with dollar := true, left := 2 }, k + 2) else (q, k) := by
    have e : suf x (a + k) = if s = true then (suf x a).drop 1 else suf x a := by rw [suf_add _ h0, hk]; split <;> rfl
    unfold aheadL
    rw [e, hq, hk, hs]
  rw [hA]
  refine SS.itej [(Str.ofString "at", .i (a + k)), (Str.ofString "picture", .mu X (.pc q)), (Str.ofString "text", .s x)] (by walk_at "P b") ?_ ?_ ?_
  · intro h
    rw [suf_is1 h0 o_plus, ← hs] at h
    rw [if_pos h] at hq hk
    walk_at "P s"
    walk_at "P s"
    rw [hq, hk]
    exact .cons rfl (.cons rfl (.cons rfl .nil))
  · intro h
    rw [suf_is1 h0 o_plus, ← hs] at h
    rw [if_neg (by rw [h]; decide)] at hq hk
    walk_at "P s"
    rw [hq, hk]
    exact .cons (by show some _ = some _; simp) (.cons rfl (.cons rfl .nil))
  have hk0 : 0 ≤ a + (k : Int) := by omega
  refine SS.ite (by walk_at "P b") ?_ ?_
  · intro h
    rw [suf_is2 hk0 o_ss, decide_eq_true_eq] at h
    rw [if_pos h]
    walk_at "P s"
    refine SS.ite (by walk_at "P b") ?_ ?_
    · intro h2
      rw [suf_is1 (by omega) o_dollar, suf_add2 hk0, decide_eq_true_eq] at h2
      rw [if_pos h2]
      walk_at "P s"
      walk_at "P s"
      walk_at "P s"
      walk_at "P retM"
      exact w_eq (by show _ = a + ((k + 3 : Nat) : Int); omega) rfl
    · intro h2
      rw [suf_is1 (by omega) o_dollar, suf_add2 hk0, decide_eq_false_iff_not] at h2
      rw [if_neg h2]
      walk_at "P s"
      walk_at "P s"
      walk_at "P retM"
      exact w_eq (by show _ = a + ((k + 2 : Nat) : Int); omega) rfl
  · intro h
    rw [suf_is2 hk0 o_ss, decide_eq_false_iff_not] at h
    rw [if_neg h]
    refine SS.ite (by walk_at "P b") ?_ ?_
    · intro h2
      rw [suf_is2 hk0 o_dd, decide_eq_true_eq] at h2
      rw [if_pos h2]
      walk_at "P s"
      walk_at "P s"
      walk_at "P s"
      walk_at "P retM"
      exact w_eq (by show _ = a + ((k + 2 : Nat) : Int); omega) rfl
    · intro h2
      rw [suf_is2 hk0 o_dd, decide_eq_false_iff_not] at h2
      rw [if_neg h2]
      walk_at "P s"
      walk_at "P s"
      walk_at "P retM"
      exact w_eq rfl rfl
-- @use
local macro_rules | `(tactic| walk_at "P call") => `(tactic| (refine' EV.callM (zn := Str.ofString "picture") (d := 1) gf_100 ?h1 ?h3 ?h7 (read_ahead_pc _ _ _ ?h4 ?h5 ?h6) (by decide) (by rfl) (by decide) (by rfl) (by rfl); (case h1 => walk_at "P a"); (case h3 => rfl); (case h7 => rfl); (case h4 => omega); (case h5 => omega); (case h6 => omega)))
-- @end
theorem gf_107 : GF (Str.ofString "read_places") 107 := ⟨fun _ => rfl, fun _ => rfl⟩
/-- the picture within the loops -/
abbrev pcW (p : Pic) (cm : Bool) (l : Int) : Pic := { p with comma := cm, left := l }
abbrev pcH (p : Pic) (cm : Bool) (l r : Int) : Pic := { p with comma := cm, left := l, point := true, right := r }
theorem read_places_pc (x : PySem.Str) (a : Int) (p : Pic) (X : Addr) (hx : x.length ≤ 100) (h0 : 0 ≤ a) (h1 : a ≤ x.length) : PC 107 1 X (.pc p) [.s x, .i a] (.i (a + (placesL p (suf x a)).2)) (.pc (placesL p (suf x a)).1) := by
  (k_dflt (refine pc_in3 (F := ⟨_, _⟩) (fun _ => by rfl) (fun _ => by rfl) (fun _ _ _ => by rfl) (by rfl) (by rfl) (by rfl) ⟨rfl, rfl, rfl, by decide⟩ fun Cx => ?_); (try dsimp only))
  refine SS.whl (α := Bool × Int × Int) (fun y => 0 ≤ y.2.2 ∧ y.2.2 ≤ x.length ∧ PlW x a p y.1 y.2.1 y.2.2) (fun y => [(Str.ofString "at", .i y.2.2), (Str.ofString "picture", .mu X (.pc (pcW p y.1 y.2.1))), (Str.ofString "text", .s x)])
    (fun y => ([PySem.Str.ofString "#", PySem.Str.ofString ","].any fun z => z == Txt.slice x (some y.2.2) (some (y.2.2 + 1))) && (decide (y.2.2 < x.length) && true)) (fun y => ((x.length : Int) - y.2.2).toNat) (p.comma, p.left, a) (plW0 h0 h1) (.cons rfl (.cons rfl (.cons rfl .nil))) (fun y hy => by walk_at "P b") ?_ ?_
  · rintro ⟨cm, l, b⟩ ⟨g1, g2, g3⟩ hb
    simp only [Bool.and_eq_true, Bool.and_true, decide_eq_true_eq] at hb
    have h3 := plW1 g3 g1 hb.2 hb.1
    refine SS.asgA (v := .b (cm || (Txt.item x b == PySem.Str.ofString ","))) (EV.orB (by walk_at "P v") fun _ => by walk_at "P v") (by rfl) (by rfl) pu_comma (by rfl) (by decide) (by intros; with_unfolding_all rfl) ?_
    walk_at "P s"
    refine SS.nil ⟨(cm || (Txt.item x b == PySem.Str.ofString ","), l + 1, b + 1), h3, ?_, .cons rfl (.cons rfl (.cons rfl .nil))⟩
    show ((x.length : Int) - (b + 1)).toNat < ((x.length : Int) - b).toNat
    omega
  · rintro ⟨cm, l, b⟩ ⟨g1, g2, g3⟩ hb
    have ht : ([PySem.Str.ofString "#", PySem.Str.ofString ","].any fun z => z == Txt.slice x (some b) (some (b + 1))) = false := by
      cases h : ([PySem.Str.ofString "#", PySem.Str.ofString ","].any fun z => z == Txt.slice x (some b) (some (b + 1))) with
      | false => rfl
      | true =>
        simp only [h, Bool.true_and, Bool.and_true, decide_eq_false_iff_not] at hb
        exact (any_lt h hb g1).elim
    refine SS.ite (by walk_at "P b") ?_ ?_
    · intro h
      walk_at "P s"
      refine SS.whl (α := Int × Int) (fun y => 0 ≤ y.2 ∧ y.2 ≤ x.length ∧ HsW x (b + 1) p y.1 y.2) (fun y => [(Str.ofString "at", .i y.2), (Str.ofString "picture", .mu X (.pc (pcH p cm l y.1))), (Str.ofString "text", .s x)])
        (fun y => Txt.slice x (some y.2) (some (y.2 + 1)) == PySem.Str.ofString "#") (fun y => ((x.length : Int) - y.2).toNat) (p.right, b + 1) (hsW0 g1 h) (.cons rfl (.cons rfl (.cons rfl .nil))) (fun y hy => by walk_at "P b") ?_ ?_
      · rintro ⟨r, b'⟩ ⟨k1, k2, k3⟩ hb'
        walk_at "P s"
        exact SS.nil ⟨(r + 1, b' + 1), hsW1 k3 k1 hb', hsW_lt k1 hb', .cons rfl (.cons rfl (.cons rfl .nil))⟩
      · rintro ⟨r, b'⟩ ⟨k1, k2, k3⟩ hb'
        obtain ⟨e1, e2⟩ := places_pt h0 g3 g1 ht h k3 k1 hb'
        walk_at "P s"
        walk_at "P retM"
        rw [e1, ← e2]
    · intro h
      obtain ⟨e1, e2⟩ := places_np h0 g3 g1 ht h
      walk_at "P s"
      walk_at "P retM"
      rw [e1, ← e2]
-- @use
local macro_rules | `(tactic| walk_at "P call") => `(tactic| (refine' EV.callM (zn := Str.ofString "picture") (d := 1) gf_107 ?h1 ?h3 ?h7 (read_places_pc _ _ _ _ ?h4 ?h5 ?h6) (by decide) (by rfl) (by decide) (by rfl) (by rfl); (case h1 => walk_at "P a"); (case h3 => rfl); (case h7 => rfl); (case h4 => omega); (case h5 => omega); (case h6 => omega)))
-- @end

-- piece 132
-- needs: 131
theorem pi_0 : PU (Str.ofString "left") (.pp 0) (.i 0) (.pp 1) := ⟨fun P _ _ _ ⟨dx, k, n0, e⟩ => ⟨dx, _, n0, e, by show 0 ≤ 500; decide, rfl, fun y tk _ ⟨t, r⟩ => by subst r; exact ⟨⟨dx, { k with k1 := tk, vl := t }, _, rfl⟩, by show 1 ≤ 1000; decide⟩⟩, fun _ => rfl⟩
theorem pi_1 : PU (Str.ofString "right") (.pp 1) (.i 0) (.pp 2) := ⟨fun P _ _ _ ⟨dx, k, n0, e⟩ => ⟨dx, _, n0, e, by show 1 ≤ 500; decide, rfl, fun y tk _ ⟨t, r⟩ => by subst r; exact ⟨⟨dx, { k with k2 := tk, vr := t }, _, rfl⟩, by show 2 ≤ 1000; decide⟩⟩, fun _ => rfl⟩
theorem pi_2 : PU (Str.ofString "has_point") (.pp 2) (.b false) (.pp 3) := ⟨fun P _ _ _ ⟨dx, k, n0, e⟩ => ⟨dx, _, n0, e, by show 2 ≤ 500; decide, rfl, fun y tk _ r => by have r : y = .bool false := r; subst r; exact ⟨⟨dx, { k with k3 := tk }, _, rfl⟩, by show 3 ≤ 1000; decide⟩⟩, fun _ => rfl⟩
theorem pi_3 : PU (Str.ofString "has_star") (.pp 3) (.b false) (.pp 4) := ⟨fun P _ _ _ ⟨dx, k, n0, e⟩ => ⟨dx, _, n0, e, by show 3 ≤ 500; decide, rfl, fun y tk _ r => by have r : y = .bool false := r; subst r; exact ⟨⟨dx, { k with k4 := tk }, _, rfl⟩, by show 4 ≤ 1000; decide⟩⟩, fun _ => rfl⟩
theorem pi_4 : PU (Str.ofString "has_dollar") (.pp 4) (.b false) (.pp 5) := ⟨fun P _ _ _ ⟨dx, k, n0, e⟩ => ⟨dx, _, n0, e, by show 4 ≤ 500; decide, rfl, fun y tk _ r => by have r : y = .bool false := r; subst r; exact ⟨⟨dx, { k with k5 := tk }, _, rfl⟩, by show 5 ≤ 1000; decide⟩⟩, fun _ => rfl⟩
theorem pi_5 : PU (Str.ofString "has_comma") (.pp 5) (.b false) (.pp 6) := ⟨fun P _ _ _ ⟨dx, k, n0, e⟩ => ⟨dx, _, n0, e, by show 5 ≤ 500; decide, rfl, fun y tk _ r => by have r : y = .bool false := r; subst r; exact ⟨⟨dx, { k with k6 := tk }, _, rfl⟩, by show 6 ≤ 1000; decide⟩⟩, fun _ => rfl⟩
theorem pi_6 : PU (Str.ofString "has_exponent") (.pp 6) (.b false) (.pp 7) := ⟨fun P _ _ _ ⟨dx, k, n0, e⟩ => ⟨dx, _, n0, e, by show 6 ≤ 500; decide, rfl, fun y tk _ r => by have r : y = .bool false := r; subst r; exact ⟨⟨dx, { k with k7 := tk }, _, rfl⟩, by show 7 ≤ 1000; decide⟩⟩, fun _ => rfl⟩
theorem pi_7 : PU (Str.ofString "sign") (.pp 7) (.s (Str.ofString "")) (.pp 8) := ⟨fun P _ _ _ ⟨dx, k, n0, e⟩ => ⟨dx, _, n0, e, by show 7 ≤ 500; decide, rfl, fun y tk _ ⟨t, r⟩ => by subst r; exact ⟨⟨dx, { k with k8 := tk, vs := t }, _, rfl⟩, by show 8 ≤ 1000; decide⟩⟩, fun _ => rfl⟩
/-- the way through __init__ -/
def KI (X : Addr) : Out → Prop
  | .nx ρ => ρ.lookup (Str.ofString "self") = some (.mu X (.pp 8))
  | .rt _ => False
theorem pic_new {F Fi : FI} {C : Fx} {ρ : Nms} {nl : LG} {s : Shared} {Q E : Value → Shared → Prop} {f : Addr} {body : List Stmt} {name qual : Str} {params : Arguments} {dV kV doc pm cdv ct oc : Value} {an od : Option Addr} {osl : Array (Option Value)}
    (hi : ∀ P, findIn (hd.heap_1 P) (.ref 82) "__init__" = some (some (.ref f))) (hfn : ∀ P, isFn (hd.heap_1 P) (.ref f) = true)
    (hl : ∀ P, (hd.heap_1 P).lookup f = some { cls := oc, dict := od, data := .func (fnOf name qual params body Fi.sc dV kV doc pm an cdv ct), slots := osl }) (hc : ∀ P, codeIn (hd.heap_1 P) cdv qual = true)
    (hb : ∀ y1 : Value, bindArgs (fnOf name qual params body Fi.sc dV kV doc pm an cdv ct) { pos := [y1], kw := [] } = pure [(Str.ofString "self", y1)]) (hx1 : Fi.sc.names.lookup (Str.ofString "self") = some .local)
    (hsc : Fi.sc.isCoroutine = false ∧ Fi.sc.isGenerator = false ∧ Fi.sc.kind = .function ∧ ∀ x ∈ Fi.sc.names, x.2 ≠ .cell) (hS : ∀ (C : Fx) (X : Addr), SS Fi C [(Str.ofString "self", .mu X (.pp 0))] body (KI X)) (hk : Fi.k + 2 ≤ F.k)
    (P : PSt F C ρ nl s) (hn : ρ.all (fun x => !isMu x.2) = true)
    (k : ∀ X h tk nl', PSt F C ρ nl' { s with heap := h, toks := tk } → MAt C.w.params nl'.z nl'.l X (.pc pic0) → (∀ p ∈ nl.z, p ∈ nl'.z) → Q (.ref X) { s with heap := h, toks := tk }) : wpAny (PM C) C.A (PySem.call (.ref 82) []) Q E s := by
  obtain ⟨m, hF, hR⟩ := P.F
  have hkd : C.cs.kind = .function := by rw [P.ok.sc]; exact P.ok.fn
  have hd0 := P.ok.hd
  have hu0 := P.ok.hu
  refine call_cls hF P.ok.X P.N (by rfl) (hi _) (hfn _) fun x dx h' F1 N1 l1 l2 => ?_
  refine code_def P.ok.B F1 P.ok.X N1 P.ok.T rfl rfl hkd (hl _) (hc _) (by show C.dp + 1 < recursionLimit; omega) (BindsTo.of_eq (hb _)) (fun y hy => by simp only [List.mem_cons, List.not_mem_nil, or_false] at hy; rcases hy with rfl; assumption) (fun g L' h₁ FG F' N' B' X' T' => ?_) hsc.1 hsc.2.1 hsc.2.2.1 hsc.2.2.2
  let C' : Fx := ⟨C.w, C.mean, C.mg, C.mb, C.dp + 1 + 1, C.un + 1 + 3, ((C.A.under (.builtin "type.__call__" ⟨[.ref 82], []⟩)).deeper (envOf qual Fi.sc L' f cdv)).guards,
    qual, Fi.sc, L', f, cdv, [], C.env :: C.outer, C.A.under (.builtin "type.__call__" ⟨[.ref 82], []⟩), C.base, g, nl.z ++ (nl.l ++ C.ml), []⟩
  have O : Off (nl.z ++ (nl.l ++ C.ml)) ([(x, instObj 82 dx), (dx, dictOf [] 0)] ++ []) := fun p hp q hq => by
    rcases List.mem_cons.mp hq with rfl | hq
    · exact Nat.ne_of_lt (Nat.lt_trans (l1 p hp) l2)
    · rcases List.mem_cons.mp hq with rfl | hq
      · exact Nat.ne_of_lt (l1 p hp)
      · cases hq
  have hE0 : RVm C.w.params ⟨nl.z ++ (nl.l ++ C.ml), [(x, instObj 82 dx), (dx, dictOf [] 0)]⟩ (.mu x (.pp 0)) (.ref x) := ⟨rfl, dx, ⟨0, 0, 0, 0, 0, 0, 0, 0, 0, 0, 0⟩, 0, rfl⟩
  have P' : PSt Fi C' [(Str.ofString "self", .mu x (.pp 0))] ⟨nl.z ++ (nl.l ++ C.ml), [(x, instObj 82 dx), (dx, dictOf [] 0)]⟩ { s with heap := h₁, toks := s.toks + 1 } :=
    ⟨⟨B', X', T', rfl, hsc.2.2.1, by show C.dp + 1 + 1 + Fi.k < _; omega, by show C.un + 1 + 3 + 8 * Fi.k < _; omega, fun _ _ => rfl⟩,
      ⟨_, F', fun x9 y9 hx9 => (RB.env (.cons hE0 .nil) x9 y9 hx9).imp fun _ h => ⟨.inl ⟨rfl, h.1⟩, h.2⟩⟩,
      fun p hp => N' p (by
        rcases List.mem_append.mp hp with hp | hp
        · exact .tail _ (.tail _ hp)
        · rcases List.mem_cons.mp hp with rfl | hp
          · exact .head _
          · rcases List.mem_cons.mp hp with rfl | hp
            · exact .tail _ (.head _)
            · cases hp), O, (fun _ _ _ h => nomatch h), fun _ h => h⟩
  refine (hS C' x).go _ _ _ _ P' PassesOwn.leaving (fun ρ' h tk nl' kk P2 s2 => ?_) (fun v y h tk nl' kk => kk.elim)
  obtain ⟨m2, F2, R2⟩ := P2.F
  obtain ⟨dx', k', n', e⟩ := P2.at kk
  exact leaveK_ F2 P2.N fun F3 N3 => ⟨rfl, k x h tk ⟨nl.l ++ nl.z, nl'.l⟩ (P.fresh hn hR F3 (fun p hp => N3 p (by
    rcases List.mem_append.mp hp with hp | hp
    · exact List.mem_append_right _ (List.mem_append_left _ hp)
    · exact List.mem_append_left _ (s2 p hp))) fun p hp q hq => P2.off p (s2 p hp) q (List.mem_append_left _ hq)) ⟨dx', k', n', e⟩ fun p hp => List.mem_append_right _ hp⟩
structure PN (F : FI) : Prop where
  go : ∀ (C : Fx) (ρ : Nms) (nl : LG) (s : Shared) (Q E : Value → Shared → Prop), PSt F C ρ nl s → ρ.all (fun x => !isMu x.2) = true →
    (∀ X h tk nl', PSt F C ρ nl' { s with heap := h, toks := tk } → MAt C.w.params nl'.z nl'.l X (.pc pic0) → (∀ p ∈ nl.z, p ∈ nl'.z) → Q (.ref X) { s with heap := h, toks := tk }) → wpAny (PM C) C.A (PySem.call (.ref 82) []) Q E s
section
local macro_rules | `(tactic| walk_at "P pu") => `(tactic| first | exact pi_0 | exact pi_1 | exact pi_2 | exact pi_3 | exact pi_4 | exact pi_5 | exact pi_6 | exact pi_7)
theorem pn {F : FI} (hk : 2 ≤ F.k) : PN F := ⟨fun C ρ nl s Q E P hn k => by
  k_dflt (refine pic_new (Fi := ⟨_, 0⟩) (fun _ => by rfl) (fun _ => by rfl) (fun _ => by rfl) (fun _ => by rfl) (fun _ => by rfl) (by rfl) ⟨rfl, rfl, rfl, by decide⟩ (fun C X => ?_) hk P hn k)
  walk_at "P s"
  walk_at "P s"
  walk_at "P s"
  walk_at "P s"
  walk_at "P s"
  walk_at "P s"
  walk_at "P s"
  walk_at "P s"
  exact SS.nil rfl⟩
end
section
variable {F : FI} {C : Fx} {ρ : Nms} {p p1 p2 : Pos} {rest : List Stmt} {K : Out → Prop}
theorem SS.newPic {z : Str} {p3 : Pos} (hN : PN F) (hn : ρ.all (fun x => !isMu x.2) = true) (hx : F.sc.names.lookup z = some .local) (hxp : F.sc.names.lookup (Str.ofString "Picture") = some .globalImplicit)
    (hsw : ∀ cn L a ccd cl, swapsWith (.Call (.Name (Str.ofString "Picture") p2) [] [] p1) (some (.Name z p3)) p.line (envX cn F.sc L a ccd cl) = pure false)
    (hr : ∀ X, SS F C ((z, .mu X (.pc pic0)) :: ρ) rest K) : SS F C ρ (.Assign [.Name z p3] (.Call (.Name (Str.ofString "Picture") p2) [] [] p1) p :: rest) K :=
  ⟨fun s nl Q E P O kn kr => wpAny_execs_cons (wpAny_Assign_Name (by
    obtain ⟨m, hF, hR⟩ := P.F
    have hkd : C.cs.kind = .function := by rw [P.ok.sc]; exact P.ok.fn
    refine Call_ (nameX_K (K := hd.heap_1 C.w.params) hF P.ok.X (topRead_of P.ok.T) (show nsIn (hd.heap_1 C.w.params) mainGlobals (Str.ofString "Picture") = some (some (.ref 82)) from by rfl) ?_ hkd (by show C.cs.names.lookup _ = _; rw [P.ok.sc]; exact hxp) (by decide))
    refine callWith_K0 (P.ok.X.keeps (Fr.keep hF)) (by rfl) ?_
    refine hN.go C ρ nl s _ _ P hn fun X h tk nl' P' M s' => ?_
    obtain ⟨m', hF', hR'⟩ := P'.F
    exact P'.storeM (v := .mu X (.pc pic0)) ⟨rfl, M⟩ hx fun h tk P2 => (hr X).go _ nl' Q E P2 O (fun ρ' h tk nl' k P3 s3 => kn ρ' h tk nl' k P3 fun p hp => s3 p (s' p hp)) fun v y h tk nl' k P3 s3 r => kr v y h tk nl' k P3 (fun p hp => s3 p (s' p hp)) r)
    (by have := hsw C.cn C.L C.a C.ccd C.cl; rw [← P.ok.sc] at this; exact this))⟩
end

-- piece 133
-- needs: 132
theorem gf_114 : GF (Str.ofString "read_picture") 114 := ⟨fun _ => rfl, fun _ => rfl⟩
theorem rd_yes {x : PySem.Str} {a : Int} {w : Pic × Nat} (h0 : 0 ≤ a) (hw : rdL (suf x a) = if (w.1.sign == PySem.Str.ofString "") = true ∧ ((suf x (a + w.2)).take 1 = [43] ∨ (suf x (a + w.2)).take 1 = [45]) then ({ w.1 with sign := if (suf x (a + w.2)).take 1 = [43] then PySem.Str.ofString "+behind" else PySem.Str.ofString "-behind" }, w.2 + 1) else w)
    (h : ((w.1.sign == PySem.Str.ofString "") && (([PySem.Str.ofString "+", PySem.Str.ofString "-"].any fun y => y == Txt.slice x (some (a + w.2)) (some (a + w.2 + 1))) && (decide (a + w.2 < x.length) && true))) = true) :
    rdL (suf x a) = ({ w.1 with sign := Txt.item x (a + w.2) ++ PySem.Str.ofString "behind" }, w.2 + 1) := by
  simp only [Bool.and_eq_true, Bool.and_true] at h
  rw [hw, if_pos ⟨h.1, (iff_of_eq (pm_of (by omega) h.2.1)).mpr rfl⟩, pm_item h.2.1 (by omega)]
theorem rd_no {x : PySem.Str} {a : Int} {w : Pic × Nat} (h0 : 0 ≤ a) (hw : rdL (suf x a) = if (w.1.sign == PySem.Str.ofString "") = true ∧ ((suf x (a + w.2)).take 1 = [43] ∨ (suf x (a + w.2)).take 1 = [45]) then ({ w.1 with sign := if (suf x (a + w.2)).take 1 = [43] then PySem.Str.ofString "+behind" else PySem.Str.ofString "-behind" }, w.2 + 1) else w)
    (h : ((w.1.sign == PySem.Str.ofString "") && (([PySem.Str.ofString "+", PySem.Str.ofString "-"].any fun y => y == Txt.slice x (some (a + w.2)) (some (a + w.2 + 1))) && (decide (a + w.2 < x.length) && true))) = false) :
    rdL (suf x a) = w := by
  rw [hw, if_neg]
  rintro ⟨h1, h2⟩
  have h3 := (iff_of_eq (pm_of (x := x) (b := a + w.2) (by omega) rfl)).mp h2
  rw [h1, h3] at h
  simp only [Bool.true_and, Bool.and_true, decide_eq_false_iff_not] at h
  exact pm_lt h3 h (by omega)
theorem read_picture_pf (x : PySem.Str) (a : Int) (hx : x.length ≤ 100) (h0 : 0 ≤ a) (h1 : a ≤ x.length) : PF 114 3 [.s x, .i a] (.t2 (.pc (rdL (suf x a)).1) (.i (a + (rdL (suf x a)).2))) := by
  obtain ⟨q1, q2, q3, q4⟩ := ahead_bd (suf x a)
  have q5 := places_le (aheadL pic0 (suf x a)).1 (suf x (a + (aheadL pic0 (suf x a)).2))
  rw [suf_len] at q4 q5
  (k_dflt (refine pf_in2 (F := ⟨_, _⟩) (fun _ => by rfl) (fun _ => by rfl) (fun _ _ => by rfl) (by rfl) (by rfl) ⟨rfl, rfl, rfl, by decide⟩ (by rfl) fun Cx => ?_); (try dsimp only))
  refine SS.newPic (pn (by decide)) (by rfl) (by rfl) (by rfl) (by intros; with_unfolding_all rfl) fun X => ?_
  walk_at "P s"
  obtain ⟨w, hw⟩ : ∃ w : Pic × Nat, w = if (suf x (bA x a)).take 4 = [94, 94, 94, 94] then ({ (vA x a).1 with expo := true }, (uA x a).2 + (vA x a).2 + 4) else ((vA x a).1, (uA x a).2 + (vA x a).2) := ⟨_, rfl⟩
  have hb : bA x a = a + (uA x a).2 + (vA x a).2 := rfl
  have hb0 : 0 ≤ bA x a := by omega
  refine SS.itej [(Str.ofString "at", .i (a + w.2)), (Str.ofString "picture", .mu X (.pc w.1)), (Str.ofString "text", .s x)] (by walk_at "P b") ?_ ?_ ?_
  · intro h
    rw [suf_is4 hb0 o_cc, decide_eq_true_eq] at h
    rw [if_pos h] at hw
    walk_at "P s"
    walk_at "P s"
    rw [hw]
    refine .cons (congrArg (fun z => some (PV.i z)) ?_) (.cons rfl (.cons rfl .nil))
    show bA x a + 4 = a + (((uA x a).2 + (vA x a).2 + 4 : Nat) : Int)
    omega
  · intro h
    rw [suf_is4 hb0 o_cc, decide_eq_false_iff_not] at h
    rw [if_neg h] at hw
    walk_at "P s"
    rw [hw]
    refine .cons (congrArg (fun z => some (PV.i z)) ?_) (.cons rfl (.cons rfl .nil))
    show bA x a = a + (((uA x a).2 + (vA x a).2 : Nat) : Int)
    omega
  have hr : rdL (suf x a) = if (w.1.sign == PySem.Str.ofString "") = true ∧ ((suf x (a + w.2)).take 1 = [43] ∨ (suf x (a + w.2)).take 1 = [45]) then ({ w.1 with sign := if (suf x (a + w.2)).take 1 = [43] then PySem.Str.ofString "+behind" else PySem.Str.ofString "-behind" }, w.2 + 1) else w := by
    rw [rdL_eq h0, suf_add _ h0, hw]
  clear hw hb q1 q2 q3 q4 q5 hb0
  refine SS.ite (by walk_at "P b") ?_ ?_
  · intro h
    rw [rd_yes h0 hr h]
    simp only [Bool.and_eq_true, Bool.and_true, decide_eq_true_eq] at h
    obtain ⟨_, _, h⟩ := h
    have hi : (Txt.item x (a + w.2)).length = 1 := by
      obtain ⟨c, _, e, _⟩ := suf_cons (b := a + w.2) (by omega) h
      rw [e]; rfl
    have hj : (PySem.Str.ofString "behind").length = 6 := by rw [o_behind]; rfl
    walk_at "P s"
    walk_at "P s"
    refine SS.frz (ρ' := [(Str.ofString "picture", .pc { w.1 with sign := Txt.item x (a + w.2) ++ PySem.Str.ofString "behind" }), (Str.ofString "at", .i (a + w.2 + 1))]) (.mu rfl (.cons rfl .nil)) ?_
    walk_at "P s"
    show PV.t2 _ _ = PV.t2 _ _
    exact congrArg (fun z => PV.t2 _ (.i z)) (by show a + (w.2 : Int) + 1 = a + ((w.2 + 1 : Nat) : Int); omega)
  · intro h
    rw [rd_no h0 hr h]
    walk_at "P s"
    refine SS.frz (ρ' := [(Str.ofString "picture", .pc w.1), (Str.ofString "at", .i (a + w.2))]) (.mu rfl (.cons rfl .nil)) ?_
    walk_at "P s"
    exact rfl

-- piece 134
-- needs: 133 122
section
variable {F : FI} {C : Fx} {ρ : Nms} {p : Pos}
theorem EV.nonE {k : Nat} : EV F C ρ (.Constant .none k p) .nn := ⟨fun s nl _ _ P q => Constant_none (q _ _ _ nl P.tk (fun _ h => h) rfl)⟩
end
-- @use
local macro_rules | `(tactic| walk_at "P w") => `(tactic| exact EV.nonE)
-- @end
theorem gf_128 : GF (Str.ofString "piece_at") 128 := ⟨fun _ => rfl, fun _ => rfl⟩
theorem piece_pic_pf (x : PySem.Str) (a : Int) (p : Pic) (n : Nat) (hR : rdL (suf x a) = (p, n)) (hB : bgnL (suf x a) = true) (hx : x.length ≤ 100) (h0 : 0 ≤ a) (h1 : a < x.length) : PF 128 4 [.s x, .i a] (.t2 (.pc p) (.i (a + n))) := by
  have hr := read_picture_pf x a hx h0 (by omega)
  rw [hR] at hr
  have hb := begins_number_pf x a hx h0 (by omega)
  rw [hB] at hb
  (k_dflt (refine pf_in2 (F := ⟨_, _⟩) (fun _ => by rfl) (fun _ => by rfl) (fun _ _ => by rfl) (by rfl) (by rfl) ⟨rfl, rfl, rfl, by decide⟩ (by rfl) fun Cx => ?_); (try dsimp only))
  walk_at "P s"
  refine SS.ifT (EB.call (EV.call gf_93 (by walk_at "P a") hb (by decide) (by rfl) (by decide) (by rfl) (by rfl))) ?_
  exact SS.ret (EV.call gf_114 (by walk_at "P a") hr (by decide) (by rfl) (by decide) (by rfl) (by rfl)) rfl
theorem piece_chr_pf (x : PySem.Str) (a : Int) (hx : x.length ≤ 100) (h0 : 0 ≤ a) (h1 : a < x.length) (hB : bgnL (suf x a) = false)
    (g1 : (Txt.item x a == PySem.Str.ofString "!") = false) (g2 : (Txt.item x a == PySem.Str.ofString "&") = false) (g3 : (Txt.item x a == PySem.Str.ofString "_") = false) (g4 : (Txt.item x a == PySem.Str.ofString "\\") = false) : PF 128 4 [.s x, .i a] (.t2 .nn (.i (a + 1))) := by
  have hb := begins_number_pf x a hx h0 (by omega)
  rw [hB] at hb
  (k_dflt (refine pf_in2 (F := ⟨_, _⟩) (fun _ => by rfl) (fun _ => by rfl) (fun _ _ => by rfl) (by rfl) (by rfl) ⟨rfl, rfl, rfl, by decide⟩ (by rfl) fun Cx => ?_); (try dsimp only))
  walk_at "P s"
  refine SS.ifF (EB.call (EV.call gf_93 (by walk_at "P a") hb (by decide) (by rfl) (by decide) (by rfl) (by rfl))) (SS.nil ?_)
  show SS _ _ _ _ _
  refine SS.ifF (EB.cast (by walk_at "P b") g1) (SS.nil ?_)
  show SS _ _ _ _ _
  refine SS.ifF (EB.cast (by walk_at "P b") g2) (SS.nil ?_)
  show SS _ _ _ _ _
  refine SS.ifF (EB.cast (by walk_at "P b") (by rw [g3]; rfl)) (SS.nil ?_)
  show SS _ _ _ _ _
  walk_at "P s"
  refine SS.whl (α := Unit) (fun _ => True) (fun _ => [(Str.ofString "end", .i (a + 1)), (Str.ofString "sign", .s (Txt.item x a)), (Str.ofString "at", .i a), (Str.ofString "text", .s x)]) (fun _ => false) (fun _ => 0) () trivial (.cons rfl (.cons rfl (.cons rfl (.cons rfl .nil)))) (fun _ _ => EB.cast (by walk_at "P b") (by rw [g4]; rfl)) (fun _ _ h => nomatch h) fun _ _ _ => ?_
  refine SS.ifF (EB.cast (by walk_at "P b") (by rw [g4]; rfl)) (SS.nil ?_)
  show SS _ _ _ _ _
  walk_at "P s"
  exact rfl

-- piece 135
-- needs: 134 125
section
variable {F : FI} {C : Fx} {ρ : Nms} {e1 : PySem.Expr} {q : Pic} {p p1 : Pos} {k : Nat}
theorem EB.isN (h1 : EV F C ρ e1 .nn) (hm : behindInMarks .Is (.Constant .none k p1) = false) : EB F C ρ (.Compare e1 [.Is] [.Constant .none k p1] p) true := EB.cmp h1 EV.nonE hm fun _ _ _ _ _ _ _ r1 r2 q => by
  have r1 : _ = Value.none := r1
  have r2 : _ = Value.none := r2
  subst r1; subst r2; exact is_none_none q
theorem EB.isNp (h1 : EV F C ρ e1 (.pc q)) (hm : behindInMarks .Is (.Constant .none k p1) = false) : EB F C ρ (.Compare e1 [.Is] [.Constant .none k p1] p) false := EB.cmp h1 EV.nonE hm fun _ _ _ _ _ _ _ ⟨_, r1, _⟩ r2 q => by
  have r2 : _ = Value.none := r2
  subst r1; subst r2; exact is_ref_none q
end
theorem gf_121 : GF (Str.ofString "read_pieces") 121 := ⟨fun _ => rfl, fun _ => rfl⟩
theorem o_ne0 : (PySem.Str.ofString "" != PySem.Str.ofString "") = false := by decide
theorem read_pieces1_pf (x : PySem.Str) (p : Pic) (n : Nat) (hR : rdL (suf x 0) = (p, n)) (hB : bgnL (suf x 0) = true) (hx : x.length ≤ 100) (hn : (n : Int) = x.length) (h1 : 0 < (x.length : Int)) : PF 121 5 [.s x] (.l1 (.pc p)) := by
  (k_dflt (refine pf_in1 (F := ⟨_, _⟩) (fun _ => by rfl) (fun _ => by rfl) (fun _ => by rfl) (by rfl) ⟨rfl, rfl, rfl, by decide⟩ (by rfl) fun Cx => ?_); (try dsimp only))
  refine SS.newL3 (by rfl) (by rfl) (by rfl) (by rfl) (by intros; with_unfolding_all rfl) (by intros; with_unfolding_all rfl) fun D => ?_
  refine SS.whl (α := Bool) (fun _ => True) (fun c => match c with
      | false => [(Str.ofString "found", .mu D .l0), (Str.ofString "plain", .s (Str.ofString "")), (Str.ofString "at", .i 0), (Str.ofString "text", .s x)]
      | true => [(Str.ofString "found", .mu D (.l1 (.pc p))), (Str.ofString "plain", .s (Str.ofString "")), (Str.ofString "at", .i n), (Str.ofString "text", .s x)])
    (fun c => !c) (fun c => if c then 0 else 1) false trivial (.cons rfl (.cons rfl (.cons rfl (.cons rfl .nil)))) ?_ ?_ ?_
  · intro c _
    cases c with
    | false => exact EB.cast (by walk_at "P b") (decide_eq_true h1)
    | true => exact EB.cast (by walk_at "P b") (decide_eq_false (by omega))
  · intro c _ hc
    cases c with
    | true => cases hc
    | false =>
      refine SS.asg2 (ρ1 := [(Str.ofString "found", .mu D .l0), (Str.ofString "plain", .s (Str.ofString "")), (Str.ofString "at", .i 0), (Str.ofString "text", .s x)]) (EV.call gf_128 (by walk_at "P a") (piece_pic_pf x 0 p n hR hB hx (by decide) (by omega)) (by decide) (by rfl) (by decide) (by rfl) (by rfl)) (by rfl) (by rfl) (by intros; with_unfolding_all rfl) (by intros; with_unfolding_all rfl) ?_
      refine SS.ifF (EB.isNp (by walk_at "P v") (by rfl)) ?_
      refine SS.extend (c' := .l0) (v := .l0) (ws := []) rfl rfl (?_ : EV _ _ _ _ _) rfl rfl (by rfl) (by rfl) (by decide) rfl rfl (by rfl) (by intros; with_unfolding_all rfl) (by rfl) ?_
      · exact EV.ifF (EB.cast (by walk_at "P b") o_ne0) (EV.lst EA.nil rfl)
      refine SS.append (c' := .l1 (.pc p)) (v := .pc p) rfl rfl (?_ : EV _ _ _ _ _) rfl (by rfl) (by rfl) (by decide) rfl rfl (by rfl) (by intros; with_unfolding_all rfl) (by rfl) ?_
      · walk_at "P v"
      walk_at "P s"
      walk_at "P s"
      walk_at "P s"
      walk_at "P s"
      refine ⟨true, trivial, by decide, .cons rfl (.cons rfl (.cons (by show some (PV.i (0 + n)) = some (PV.i n); rw [Int.zero_add]) (.cons rfl .nil)))⟩
  · intro c _ hc
    cases c with
    | false => cases hc
    | true =>
      refine SS.frz (ρ' := [(Str.ofString "found", .l1 (.pc p)), (Str.ofString "plain", .s (Str.ofString ""))]) (.mu rfl (.cons rfl .nil)) ?_
      exact SS.ret (EV.addL (by walk_at "P v") (EV.ifF (EB.cast (by walk_at "P b") o_ne0) (EV.lst (v := .l0) EA.nil rfl)) rfl rfl rfl) rfl
theorem read_pieces3_pf (x : PySem.Str) (p : Pic) (n : Nat) (a b : PySem.Str) (hR : rdL (suf x (0 + 1)) = (p, n)) (hB0 : bgnL (suf x 0) = false) (hB : bgnL (suf x (0 + 1)) = true) (hB2 : bgnL (suf x (0 + 1 + n)) = false)
    (g1 : (Txt.item x 0 == PySem.Str.ofString "!") = false) (g2 : (Txt.item x 0 == PySem.Str.ofString "&") = false) (g3 : (Txt.item x 0 == PySem.Str.ofString "_") = false) (g4 : (Txt.item x 0 == PySem.Str.ofString "\\") = false)
    (g5 : (Txt.item x (0 + 1 + n) == PySem.Str.ofString "!") = false) (g6 : (Txt.item x (0 + 1 + n) == PySem.Str.ofString "&") = false) (g7 : (Txt.item x (0 + 1 + n) == PySem.Str.ofString "_") = false) (g8 : (Txt.item x (0 + 1 + n) == PySem.Str.ofString "\\") = false)
    (p1 : ((PySem.Str.ofString "" ++ Txt.item x (0 + 1 - 1)) != PySem.Str.ofString "") = true) (p2 : ((PySem.Str.ofString "" ++ Txt.item x (0 + 1 + n + 1 - 1)) != PySem.Str.ofString "") = true)
    (ha : PySem.Str.ofString "" ++ Txt.item x (0 + 1 - 1) = a) (hb : PySem.Str.ofString "" ++ Txt.item x (0 + 1 + n + 1 - 1) = b)
    (hal : a.length = 1) (hbl : b.length = 1) (hx : x.length ≤ 100) (hn : (0 + 1 + n + 1 : Int) = x.length) :
    PF 121 5 [.s x] (.l3 (.t2 (.s (Str.ofString "plain")) (.s a)) (.pc p) (.t2 (.s (Str.ofString "plain")) (.s b))) := by
  have ea : (Txt.item x (0 + 1 - 1)).length ≤ 1 := by rw [← ha, PySem.Str.length_append] at hal; omega
  have eb : (Txt.item x (0 + 1 + n + 1 - 1)).length ≤ 1 := by rw [← hb, PySem.Str.length_append] at hbl; omega
  have e0 : (PySem.Str.ofString "").length = 0 := rfl
  rw [ha] at p1
  rw [hb] at p2
  (k_dflt (refine pf_in1 (F := ⟨_, _⟩) (fun _ => by rfl) (fun _ => by rfl) (fun _ => by rfl) (by rfl) ⟨rfl, rfl, rfl, by decide⟩ (by rfl) fun Cx => ?_); (try dsimp only))
  refine SS.newL3 (by rfl) (by rfl) (by rfl) (by rfl) (by intros; with_unfolding_all rfl) (by intros; with_unfolding_all rfl) fun D => ?_
  refine SS.whl (α := Fin 4) (fun _ => True) (fun c => match c with
      | 0 => [(Str.ofString "found", .mu D .l0), (Str.ofString "plain", .s (Str.ofString "")), (Str.ofString "at", .i 0), (Str.ofString "text", .s x)]
      | 1 => [(Str.ofString "found", .mu D .l0), (Str.ofString "plain", .s a), (Str.ofString "at", .i (0 + 1)), (Str.ofString "text", .s x)]
      | 2 => [(Str.ofString "found", .mu D (.l2 (.t2 (.s (Str.ofString "plain")) (.s a)) (.pc p))), (Str.ofString "plain", .s (Str.ofString "")), (Str.ofString "at", .i (0 + 1 + n)), (Str.ofString "text", .s x)]
      | 3 => [(Str.ofString "found", .mu D (.l2 (.t2 (.s (Str.ofString "plain")) (.s a)) (.pc p))), (Str.ofString "plain", .s b), (Str.ofString "at", .i (0 + 1 + n + 1)), (Str.ofString "text", .s x)])
    (fun c => match c with | 3 => false | _ => true) (fun c => 3 - c.val) 0 trivial (.cons rfl (.cons rfl (.cons rfl (.cons rfl .nil)))) ?_ ?_ ?_
  · intro c _
    match c with
    | 0 => exact EB.cast (by walk_at "P b") (decide_eq_true (by omega))
    | 1 => exact EB.cast (by walk_at "P b") (decide_eq_true (by omega))
    | 2 => exact EB.cast (by walk_at "P b") (decide_eq_true (by omega))
    | 3 => exact EB.cast (by walk_at "P b") (decide_eq_false (by omega))
  · intro c _ hc
    match c with
    | 3 => cases hc
    | 0 =>
      refine SS.asg2 (ρ1 := [(Str.ofString "found", .mu D .l0), (Str.ofString "plain", .s (Str.ofString "")), (Str.ofString "at", .i 0), (Str.ofString "text", .s x)]) (EV.call gf_128 (by walk_at "P a") (piece_chr_pf x 0 hx (by decide) (by omega) hB0 g1 g2 g3 g4) (by decide) (by rfl) (by decide) (by rfl) (by rfl)) (by rfl) (by rfl) (by intros; with_unfolding_all rfl) (by intros; with_unfolding_all rfl) ?_
      refine SS.ifT (EB.isN (by walk_at "P v") (by rfl)) ?_
      walk_at "P s"
      walk_at "P s"
      walk_at "P s"
      walk_at "P s"
      rw [ha]
      exact ⟨1, trivial, by decide, .cons rfl (.cons rfl (.cons rfl (.cons rfl .nil)))⟩
    | 1 =>
      refine SS.asg2 (ρ1 := [(Str.ofString "found", .mu D .l0), (Str.ofString "plain", .s a), (Str.ofString "at", .i (0 + 1)), (Str.ofString "text", .s x)]) (EV.call gf_128 (by walk_at "P a") (piece_pic_pf x (0 + 1) p n hR hB hx (by decide) (by omega)) (by decide) (by rfl) (by decide) (by rfl) (by rfl)) (by rfl) (by rfl) (by intros; with_unfolding_all rfl) (by intros; with_unfolding_all rfl) ?_
      refine SS.ifF (EB.isNp (by walk_at "P v") (by rfl)) ?_
      refine SS.extend (c' := .l1 (.t2 (.s (Str.ofString "plain")) (.s a))) (v := .l1 (.t2 (.s (Str.ofString "plain")) (.s a))) rfl rfl (?_ : EV _ _ _ _ _) rfl rfl (by rfl) (by rfl) (by decide) rfl rfl (by rfl) (by intros; with_unfolding_all rfl) (by rfl) ?_
      · exact EV.ifT (EB.cast (by walk_at "P b") p1) (EV.lst (by walk_at "P a") rfl)
      refine SS.append (c' := .l2 (.t2 (.s (Str.ofString "plain")) (.s a)) (.pc p)) (v := .pc p) rfl rfl (?_ : EV _ _ _ _ _) rfl (by rfl) (by rfl) (by decide) rfl rfl (by rfl) (by intros; with_unfolding_all rfl) (by rfl) ?_
      · walk_at "P v"
      walk_at "P s"
      walk_at "P s"
      walk_at "P s"
      walk_at "P s"
      exact ⟨2, trivial, by decide, .cons rfl (.cons rfl (.cons rfl (.cons rfl .nil)))⟩
    | 2 =>
      refine SS.asg2 (ρ1 := [(Str.ofString "found", .mu D (.l2 (.t2 (.s (Str.ofString "plain")) (.s a)) (.pc p))), (Str.ofString "plain", .s (Str.ofString "")), (Str.ofString "at", .i (0 + 1 + n)), (Str.ofString "text", .s x)]) (EV.call gf_128 (by walk_at "P a") (piece_chr_pf x (0 + 1 + n) hx (by omega) (by omega) hB2 g5 g6 g7 g8) (by decide) (by rfl) (by decide) (by rfl) (by rfl)) (by rfl) (by rfl) (by intros; with_unfolding_all rfl) (by intros; with_unfolding_all rfl) ?_
      refine SS.ifT (EB.isN (by walk_at "P v") (by rfl)) ?_
      walk_at "P s"
      walk_at "P s"
      walk_at "P s"
      walk_at "P s"
      rw [hb]
      exact ⟨3, trivial, by decide, .cons rfl (.cons rfl (.cons rfl (.cons rfl .nil)))⟩
  · intro c _ hc
    match c with
    | 0 => cases hc
    | 1 => cases hc
    | 2 => cases hc
    | 3 =>
      refine SS.frz (ρ' := [(Str.ofString "found", .l2 (.t2 (.s (Str.ofString "plain")) (.s a)) (.pc p)), (Str.ofString "plain", .s b)]) (.mu rfl (.cons rfl .nil)) ?_
      exact SS.ret (EV.addL (v2 := .l1 (.t2 (.s (Str.ofString "plain")) (.s b))) (by walk_at "P v") (EV.ifT (EB.cast (by walk_at "P b") p2) (EV.lst (by walk_at "P a") rfl)) rfl rfl rfl) rfl

-- piece 136
-- needs: 125
/-- the state of a frame whose names are m -/
structure PSm (F : FI) (C : Fx) (m : Str → Option Value) (nl : LG) (s : Shared) : Prop where
  ok : C.Ok F
  F : Fr C.g C.L s.heap m
  N : News C.g C.L s.heap (nl.z ++ (nl.l ++ C.ml))
  off : Off nl.z (nl.l ++ C.ml)
  offl : Off nl.l C.ml
  sub : ∀ p ∈ C.nw, p ∈ nl.z
section
variable {F : FI} {C : Fx} {ρ ρ1 ρ2 ρe : Nms} {s s' : Shared} {nl nl' : LG} {e e1 e2 e3 : PySem.Expr} {es : List PySem.Expr} {u v v' v1 v2 v3 c c' : PV} {vs ws : List PV} {D : Addr} {m : Str → Option Value} {X : List (Addr × Obj)}
theorem PSt.toM (P : PSt F C ρ nl s) : ∃ m, PSm F C m nl s ∧ REnv C nl ρ m := P.F.imp fun _ h => ⟨⟨P.ok, h.1, P.N, P.off, P.offl, P.sub⟩, h.2⟩
theorem PSm.t (P : PSm F C m nl s) (h : REnv C nl ρ m) : PSt F C ρ nl s := ⟨P.ok, ⟨m, P.F, h⟩, P.N, P.off, P.offl, P.sub⟩
theorem PSm.tk (P : PSm F C m nl s) {k : Nat} : PSm F C m nl { s with toks := k } := ⟨P.ok, P.F, P.N, P.off, P.offl, P.sub⟩
theorem PSm.mem (_ : PSm F C m nl s) {p : Addr × Obj} (h : p ∈ nl.z) : p ∈ nl.z ++ (nl.l ++ C.ml) := List.mem_append_left _ h
theorem PSm.mel (_ : PSm F C m nl s) {p : Addr × Obj} (h : p ∈ nl.l) : p ∈ nl.z ++ (nl.l ++ C.ml) := List.mem_append_right _ (List.mem_append_left _ h)
/-- more that is live around -/
theorem PSm.addl (P : PSm F C m nl s) {s' : Shared} (F' : Fr C.g C.L s'.heap m) (N : News C.g C.L s'.heap (X ++ (nl.z ++ (nl.l ++ C.ml)))) (hX : ∀ p ∈ nl.z ++ (nl.l ++ C.ml), ∀ q ∈ X, @Ne Nat p.1 q.1) : PSm F (C.wl (X ++ C.ml)) m nl s' := by
  refine ⟨⟨P.ok.B, P.ok.X, P.ok.T, P.ok.sc, P.ok.fn, P.ok.hd, P.ok.hu, P.ok.lo⟩, F', fun p hp => N p ?_, fun p hp q hq => ?_, fun p hp q hq => ?_, P.sub⟩
  · rcases List.mem_append.mp hp with hp | hp
    · exact List.mem_append_right _ (List.mem_append_left _ hp)
    · rcases List.mem_append.mp hp with hp | hp
      · exact List.mem_append_right _ (List.mem_append_right _ (List.mem_append_left _ hp))
      · rcases List.mem_append.mp hp with hp | hp
        · exact List.mem_append_left _ hp
        · exact List.mem_append_right _ (List.mem_append_right _ (List.mem_append_right _ hp))
  · rcases List.mem_append.mp hq with hq | hq
    · exact P.off p hp q (List.mem_append_left _ hq)
    · rcases List.mem_append.mp hq with hq | hq
      · exact hX p (P.mem hp) q hq
      · exact P.off p hp q (List.mem_append_right _ hq)
  · rcases List.mem_append.mp hq with hq | hq
    · exact hX p (P.mel hp) q hq
    · exact P.offl p hp q hq
theorem PSm.dropl (P : PSm F (C.wl (X ++ C.ml)) m nl s) : PSm F C m nl s := by
  refine ⟨⟨P.ok.B, P.ok.X, P.ok.T, P.ok.sc, P.ok.fn, P.ok.hd, P.ok.hu, P.ok.lo⟩, P.F, fun p hp => P.N p ?_, fun p hp q hq => P.off p hp q ?_, fun p hp q hq => P.offl p hp q (List.mem_append_right _ hq), P.sub⟩
  · rcases List.mem_append.mp hp with hp | hp
    · exact List.mem_append_left _ hp
    · rcases List.mem_append.mp hp with hp | hp
      · exact List.mem_append_right _ (List.mem_append_left _ hp)
      · exact List.mem_append_right _ (List.mem_append_right _ (List.mem_append_right _ hp))
  · rcases List.mem_append.mp hq with hq | hq
    · exact List.mem_append_left _ hq
    · exact List.mem_append_right _ (List.mem_append_right _ hq)
theorem PSm.offX (P : PSm F (C.wl (X ++ C.ml)) m nl s) (h : ∀ p ∈ C.ml, ∀ q ∈ X, @Ne Nat p.1 q.1) : ∀ p ∈ nl.z ++ (nl.l ++ C.ml), ∀ q ∈ X, @Ne Nat p.1 q.1 := fun p hp q hq => by
  rcases List.mem_append.mp hp with hp | hp
  · exact P.off p hp q (List.mem_append_right _ (List.mem_append_left _ hq))
  · rcases List.mem_append.mp hp with hp | hp
    · exact P.offl p hp q (List.mem_append_left _ hq)
    · exact h p hp q hq
/-- a call of a def -/
theorem PSm.call (P : PSm F C m nl s) {f : Addr} {d : Nat} {ys : List Value} {Q E : Value → Shared → Prop} (hf : PF f d vs v) (hle : d ≤ F.k) (r : RL C.w.params nl.z vs ys)
    (k : ∀ y h tk nl', PSm F C m nl' { s with heap := h, toks := tk } → nl'.l = nl.l → (∀ p ∈ nl.z, p ∈ nl'.z) → RV1 C.w.params nl'.z v y → Q y { s with heap := h, toks := tk }) : wpAny (PM C) C.A (PySem.call (.ref f) ys) Q E s := by
  have hkd : C.cs.kind = .function := by rw [P.ok.sc]; exact P.ok.fn
  refine con_use (hf.go ys nl.z (nl.l ++ C.ml) P.off) P.ok.B P.F P.ok.X P.N P.ok.T hkd ⟨rfl, r⟩ (by have := P.ok.hd; omega) (by have := P.ok.hu; omega) fun y nx h' tk' hr F' N' => ?_
  obtain ⟨z', rfl, hs, ho, r⟩ := hr
  exact k y h' tk' ⟨z', nl.l⟩ ⟨P.ok, F', N', ho, P.offl, fun p hp => hs p (P.sub p hp)⟩ rfl hs r
theorem PSm.callC (P : PSm F C m nl s) {f : Addr} {d : Nat} {ys : List Value} {Q E : Value → Shared → Prop} (hf : PC f d D c vs v c') (hle : d ≤ F.k) (hM : MAt C.w.params nl.z nl.l D c) (r : RL C.w.params nl.z vs ys)
    (k : ∀ y h tk nl', PSm F C m nl' { s with heap := h, toks := tk } → MAt C.w.params nl'.z nl'.l D c' → (∀ p ∈ nl.z, p ∈ nl'.z) → RV1 C.w.params nl'.z v y → Q y { s with heap := h, toks := tk }) : wpAny (PM C) C.A (PySem.call (.ref f) (.ref D :: ys)) Q E s := by
  have hkd : C.cs.kind = .function := by rw [P.ok.sc]; exact P.ok.fn
  refine con_use (hf.go ys nl.z nl.l C.ml P.off P.offl) P.ok.B P.F P.ok.X P.N P.ok.T hkd ⟨rfl, hM, r⟩ (by have := P.ok.hd; omega) (by have := P.ok.hu; omega) fun y nx h' tk' hr F' N' => ?_
  obtain ⟨z', l', rfl, hs, ho, ho2, hM', r⟩ := hr
  exact k y h' tk' ⟨z', l'⟩ ⟨P.ok, F', N', ho, ho2, fun p hp => hs p (P.sub p hp)⟩ hM' hs r
end
section
open PyProof.Rows.LCg PyProof.Rows.LCt
variable {F : FI} {C : Fx} {ρ : Nms} {ct iter : PySem.Expr} {x : Str} {px pe pos : Pos} {scope : Scope} {clC : List (Str × Addr)} {v v' : PV} {vs : List PV} {keep : PV → Bool}
theorem off3_X {I Cc D : Addr} {oI oC oD : Obj} {l : List (Addr × Obj)} (h : Off3 I Cc D l) : ∀ p ∈ l, ∀ q ∈ [(I, oI), (Cc, oC), (D, oD)], @Ne Nat p.1 q.1 := fun p hp q hq => by
  obtain ⟨h1, h2, h3⟩ := h.mem p hp
  rcases List.mem_cons.mp hq with rfl | hq
  · exact h1
  · rcases List.mem_cons.mp hq with rfl | hq
    · exact h2
    · rw [List.mem_singleton.mp hq]; exact h3
theorem off3_of {I Cc D : Addr} {oI oC oD : Obj} {l : List (Addr × Obj)} (h : ∀ p ∈ l, ∀ q ∈ [(I, oI), (Cc, oC), (D, oD)], @Ne Nat p.1 q.1) : Off3 I Cc D l := Off3.of fun p hp => ⟨h p hp _ (.head _), h p hp _ (.tail _ (.head _)), h p hp _ (.tail _ (.tail _ (.head _)))⟩
theorem PSm.name {s : Shared} {nl : LG} {m : Str → Option Value} {z : Str} {p : Pos} {y : Value} {Q E : Value → Shared → Prop} (P : PSm F C m nl s) (hy : m z = some y) (hx : F.sc.names.lookup z = some .local) (hd : (z == Str.ofString "__debug__") = false) (q : Q y s) : wpAny (PM C) C.A (eval (.Name z p) C.env) Q E s := by
  refine wpAny_Name (wpAny_loadName_local (by show C.cs.kind = _; rw [P.ok.sc]; exact P.ok.fn) ?_ P.F.ns hy q) hd
  show C.cs.names.lookup z = _
  rw [P.ok.sc]; exact hx
theorem off1_ne {D : Addr} : ∀ {l : List (Addr × Obj)}, Off1 D l → ∀ p ∈ l, @Ne Nat p.1 D
  | [], _, _, h => nomatch h
  | _ :: _, x, p, h => by
    rcases List.mem_cons.mp h with rfl | h
    · exact x.1
    · exact off1_ne x.2 p h
theorem PSm.fin {s s' : Shared} {nl nl1 : LG} {m : Str → Option Value} {D : Addr} {o : Obj} (P : PSm F C m nl s) (F' : Fr C.g C.L s'.heap m) (N : News C.g C.L s'.heap ((D, o) :: (nl1.z ++ (nl1.l ++ C.ml)))) (o1 : Off1 D (nl1.z ++ (nl1.l ++ C.ml))) (ho : Off nl1.z (nl1.l ++ C.ml)) (hol : Off nl1.l C.ml) (hsub : ∀ p ∈ C.nw, p ∈ nl1.z) : PSm F C m ⟨(D, o) :: nl1.z, nl1.l⟩ s' :=
  ⟨P.ok, F', N, fun p hp q hq => by
    rcases List.mem_cons.mp hp with rfl | hp
    · exact (off1_ne o1 q (List.mem_append_right _ hq)).symm
    · exact ho p hp q hq, hol, fun p hp => .tail _ (hsub p hp)⟩
theorem sub3 {I Cc D : Addr} {oI oC oD : Obj} {z l c : List (Addr × Obj)} : ∀ p ∈ (I, oI) :: (Cc, oC) :: (D, oD) :: (z ++ (l ++ c)), p ∈ z ++ (l ++ ([(I, oI), (Cc, oC), (D, oD)] ++ c)) := by
  intro p hp
  simp only [List.mem_cons, List.mem_append] at hp ⊢
  rcases hp with h | h | h | h | h | h <;> simp [h]
/-- [x for x in z if test] -/
theorem EV.lcT {z : Str} {pz : Pos} (hz : ρ.lookup z = some v) (hzx : F.sc.names.lookup z = some .local) (hzd : (z == Str.ofString "__debug__") = false) (hi : its v = some vs) (hclos : closureFor scope C.env = pure clC) (hcell : ∀ y ∈ scope.names, y.2 ≠ .cell) (hkind : scope.kind = .function) (hnames : ∀ y ∈ scope.names, y.2 = .local → scope.names.lookup y.1 = some .local) (hx : scope.names.lookup x = some .local) (hdb : (x == Str.ofString "__debug__") = false)
    (hk2 : ∀ Cc, (compEnvC scope clC Cc C.env).scope.kind = .function) (hl2 : ∀ Cc, (compEnvC scope clC Cc C.env).kindOf x = some .local) (hs : ∀ x, foldedSetIterable (.Name z pz) C.env x = pure x)
    (hT : ∀ u ∈ vs, ∀ (ml : List (Addr × Obj)) (m : Str → Option Value) (Cc : Addr) (oC : Obj) (m₂ : Str → Option Value) (y : Value) (s : Shared) (nl : LG) (Q : Bool → Shared → Prop) (E : Value → Shared → Prop), (Cc, oC) ∈ ml → NsObj oC m₂ → m₂ x = some y → PSm F (C.wl ml) m nl s → RV1 C.w.params nl.z u y →
      (∀ h tk nl', PSm F (C.wl ml) m nl' { s with heap := h, toks := tk } → nl'.l = nl.l → (∀ p ∈ nl.z, p ∈ nl'.z) → Q (keep u) { s with heap := h, toks := tk }) →
      wpAny (PM C) C.A (isTrue ct (compEnvC scope clC Cc C.env) (eval ct (compEnvC scope clC Cc C.env))) Q E s)
    (hv' : its v' = some (vs.filter keep)) : EV F C ρ (.ListComp (.Name x pe) [⟨.Name x px, .Name z pz, [ct], 0⟩] scope pos) v' := ⟨fun s nl Q E P q => by
  obtain ⟨m, Pm, hR⟩ := P.toM
  obtain ⟨y, hy, r⟩ := hR z v hz
  have hy := hy.loc (P.ok.lo z hzx)
  obtain ⟨D0, ys0, n0, rfl, hm0, r0⟩ := its_of hi (r.out (by cases v <;> first | rfl | cases hi))
  have hl0 := r0.len
  have hl3 := its_len hi
  refine ListComp_T Pm.F hclos hcell hkind hnames hx (Pm.name hy hzx hzd ?_) hs
  refine CompSrcT.ledger (by rfl) Pm.F Pm.N (Pm.mem hm0) (sz3 (by rw [List.size_toArray]; omega)) fun g => ?_
  rw [List.size_toArray]
  have go : ∀ (k i : Nat) (ys : List Value) (nl1 : LG), i + k = ys0.length → RL C.w.params nl1.z ((vs.take i).filter keep) ys → nl1.l = nl.l → (∀ p ∈ nl.z, p ∈ nl1.z) → Off nl1.z (nl1.l ++ C.ml) → (∀ p ∈ C.nw, p ∈ nl1.z) →
      CompRestT PySem.Challenge.rw_sa0063_01.row.prog C.w C.A C.g C.L m C.env ct (.Name x pe) x scope clC { s with heap := g } (SrcAt C.g D0 (List.toArray ys0)) (fun i v => (List.toArray ys0)[i]? = some v) (FinE C.g C.L m { s with heap := g } Q) k i ys (nl1.z ++ (nl1.l ++ C.ml)) := by
    intro k
    induction k with
    | zero =>
      intro i ys nl1 hik hy1 hl1 hs1 ho1 hsub1
      refine CompRestT.zero fun D h tk F' N' o1 => ?_
      rw [List.take_of_length_le (by omega)] at hy1
      have Pm' : PSm F C m ⟨(D, LCg.lst ys) :: nl1.z, nl1.l⟩ { s with heap := h, toks := tk } := by
        exact Pm.fin F' N' o1 ho1 (by rw [hl1]; exact Pm.offl) hsub1
      exact q (.ref D) h tk ⟨(D, LCg.lst ys) :: nl1.z, nl1.l⟩ (Pm'.t (hR.mono (fun p hp => .tail _ (hs1 p hp)) hl1)) (fun p hp => .tail _ (hs1 p hp)) (its_to hv' (.head _) (hy1.mono fun _ hp => .tail _ hp))
    | succ k ih =>
      intro i ys nl1 hik hy1 hl1 hs1 ho1 hsub1
      refine CompRestT.succ ?_
      intro vv I oI Cc oC D m₂ h tk E' hv hN hxv F1 N1 off ne
      have hol1 : Off nl1.l C.ml := by rw [hl1]; exact Pm.offl
      have Pt : PSm F (C.wl ([(I, oI), (Cc, oC), (D, LCg.lst ys)] ++ C.ml)) m nl1 { s with heap := h, toks := tk } := PSm.addl (s := { s with heap := h, toks := tk }) ⟨Pm.ok, F1, fun p hp => N1 p (.tail _ (.tail _ (.tail _ hp))), ho1, hol1, hsub1⟩ F1 N1 (off3_X off)
      have hi' : i < vs.length := by omega
      obtain ⟨u, hu⟩ : ∃ u, vs[i]? = some u := ⟨_, List.getElem?_eq_getElem hi'⟩
      obtain ⟨y, hy', ru⟩ := r0.at hu
      have hv : ys0[i]? = some vv := by simpa using hv
      obtain rfl : y = vv := by rw [hv] at hy'; exact (Option.some.inj hy').symm
      have htake : vs.take (i + 1) = vs.take i ++ [u] := by rw [List.take_add_one, hu]; rfl
      refine hT u (List.mem_of_getElem? hu) _ m Cc oC m₂ y _ nl1 _ _ (.tail _ (.head _)) hN hxv Pt (ru.mono hs1) fun h2 tk2 nl2 P2 hl2' hs2 => ?_
      have hS : SrcAt C.g D0 (List.toArray ys0) (nl2.z ++ (nl2.l ++ C.ml)) := .inr ⟨_, List.mem_append_left _ (hs2 _ (hs1 _ hm0)), rfl, _, rfl⟩
      have hoff := off3_of (PSm.offX (C := C) (X := [(I, oI), (Cc, oC), (D, LCg.lst ys)]) P2 fun p hp => off3_X off p (List.mem_append_right _ (List.mem_append_right _ hp)))
      have P3 := PSm.dropl (C := C) (X := [(I, oI), (Cc, oC), (D, LCg.lst ys)]) P2
      cases hk : keep u with
      | true =>
        rw [if_pos rfl]
        refine LCgL.ld_own P2.N (List.mem_append_right _ (List.mem_append_right _ (.tail _ (.head _)))) hN hxv ?_ (hk2 Cc) (hl2 Cc) hdb
        refine CompEnd.intro P2.F P2.N (nl2.z ++ (nl2.l ++ C.ml)) sub3 hoff hS (ih (i + 1) _ nl2 (by omega) ?_ (hl2'.trans hl1) (fun p hp => hs2 p (hs1 p hp)) P3.off P3.sub)
        rw [htake, List.filter_append, show List.filter keep [u] = [u] by simp [hk]]
        exact (hy1.mono hs2).app (.cons ((ru.mono hs1).mono hs2) .nil)
      | false =>
        rw [if_neg (by simp)]
        refine CompEnd.intro P2.F P2.N (nl2.z ++ (nl2.l ++ C.ml)) sub3 hoff hS (ih (i + 1) _ nl2 (by omega) ?_ (hl2'.trans hl1) (fun p hp => hs2 p (hs1 p hp)) P3.off P3.sub)
        rw [htake, List.filter_append, show List.filter keep [u] = [] by simp [hk], List.append_nil]
        exact hy1.mono hs2
  exact go ys0.length 0 [] nl (Nat.zero_add _) .nil rfl (fun _ h => h) Pm.off Pm.sub⟩
end

-- piece 137
-- needs: 136 135 123
theorem shw_len (p : Pic) (c e : Int) (hp : GP p) (hc : (c.natAbs : Int) < 10 ^ 12) (he : -20 ≤ e) (he2 : e ≤ 20) : (St (shw p c e)).length ≤ 400 := by
  rcases hp with ⟨h1, h2, h3, h4, h5⟩ | ⟨h0, h1, h2, h3, h4, h5, h6⟩
  · rw [show shw p c e = _ from if_neg (by rw [h1]; simp)]
    have hb := scl_bd (c := c.natAbs) (e := e) (p := p.right) (by omega) hc (by omega)
    have hpl := padL_le (k := p.right + 1) hb.1 hb.2 (by omega)
    exact nbO_len h3 (Nat.le_trans (List.length_take_le _ _) (Nat.le_trans (Nat.sub_le _ _) (Nat.le_trans hpl (by decide)))) (by rw [List.length_drop]; exact Nat.le_trans (Nat.sub_le _ _) (Nat.le_trans hpl (by decide))) (by decide)
  · rw [show shw p c e = _ from if_pos h1]
    have hl := wx_len' (pl := max (p.left - 1) 0) (r := p.right) (c := c.natAbs) (e := e) (by omega) (by omega) h5 h6 (by omega) hc he he2
    exact nbO_len (by omega) hl.1 (Nat.le_trans hl.2.1 (by decide)) hl.2.2
section
open PyProof.Rows.LCg
variable {F : FI} {C : Fx} {ρ : Nms} {ml : List (Addr × Obj)} {m m₂ : Str → Option Value} {s : Shared} {nl : LG} {u : PV} {y : Value} {b : Bool} {Cc : Addr} {oC : Obj} {scope : Scope} {clC : List (Str × Addr)} {p p1 p2 p3 p4 : Pos}
theorem plain_test {Q : Bool → Shared → Prop} {E : Value → Shared → Prop} (P : PSm F (C.wl ml) m nl s) (hf : PF 198 1 [u] (.b b)) (hk : 1 ≤ F.k) (hm : (Cc, oC) ∈ ml) (hN : NsObj oC m₂) (hx : m₂ (Str.ofString "piece") = some y) (r : RV1 C.w.params nl.z u y)
    (hk2 : (compEnvC scope clC Cc C.env).scope.kind = .function) (hl2 : (compEnvC scope clC Cc C.env).kindOf (Str.ofString "piece") = some .local) (hg2 : (compEnvC scope clC Cc C.env).kindOf (Str.ofString "is_plain") = some .globalImplicit)
    (q : ∀ h tk nl', PSm F (C.wl ml) m nl' { s with heap := h, toks := tk } → nl'.l = nl.l → (∀ p ∈ nl.z, p ∈ nl'.z) → Q (!b) { s with heap := h, toks := tk }) :
    wpAny (PM C) C.A (PySem.isTrue (.UnaryOp .Not (.Call (.Name (Str.ofString "is_plain") p1) [.Name (Str.ofString "piece") p2] [] p3) p4) (compEnvC scope clC Cc C.env) (eval (.UnaryOp .Not (.Call (.Name (Str.ofString "is_plain") p1) [.Name (Str.ofString "piece") p2] [] p3) p4) (compEnvC scope clC Cc C.env))) Q E s := by
  refine isTrue_not (isTrue_plain (Call_ (LCgL.ld_global P.F P.ok.X P.ok.T (gf_198.hn _) ?_ rfl hk2 hg2 (by decide))) rfl)
  refine callWith_K P.ok.X (gf_198.hk _) (args_cons (LCgL.ld_own P.N (List.mem_append_right _ (List.mem_append_right _ hm)) hN hx (args_nil ⟨P.ok.X.keeps (Fr.keep P.F), ?_⟩) hk2 hl2 (by decide)) rfl) rfl rfl
  refine P.call hf hk (.cons r .nil) fun y h tk nl' P' hl hs r' => ?_
  have r' : y = .bool b := r'
  subst r'
  exact wpAny_truthy_bool (q h tk nl' P' hl hs)
end
theorem gf_203 : GF (Str.ofString "using_text") 203 := ⟨fun _ => rfl, fun _ => rfl⟩
def pvPic : PV → Bool
  | .pc _ => true
  | _ => false
section
variable {F : FI} {C : Fx} {ρ : Nms} {p p1 p2 : Pos} {k : Nat} {rest body : List Stmt} {K : Out → Prop}
theorem EB.true {k : Nat} : EB F C ρ (.Constant (.bool true) k p) true := ⟨fun s nl _ _ _ P hw q => by
  subst hw
  exact isTrue_plain (Constant_bool (wpAny_truthy_bool (q _ _ nl P fun _ h => h))) rfl⟩
theorem EL.andF {e : PySem.Expr} {es : List PySem.Expr} (h : EB F C ρ e false) : EL F C ρ .And (e :: es) p false := EL.and (c2 := true) h fun h => nomatch h
end
theorem using1_pf (x : PySem.Str) (p : Pic) (n : Nat) (v : PV) (c e : Int) (hR : rdL (suf x 0) = (p, n)) (hB : bgnL (suf x 0) = true) (hx : x.length ≤ 100) (hn : (n : Int) = x.length) (h1 : 0 < (x.length : Int))
    (hv : (v = .i c ∧ e = 0) ∨ v = .t2 (.i c) (.i e)) (hp : GP p) (hc : (c.natAbs : Int) < 10 ^ 12) (he : -20 ≤ e) (he2 : e ≤ 20) : PF 203 10 [.s x, .l1 v] (.s (St (shw p c e))) := by
  have hl := shw_len p c e hp hc he he2
  have e0 : (PySem.Str.ofString "").length = 0 := rfl
  (k_dflt (refine pf_in2 (F := ⟨_, _⟩) (fun _ => by rfl) (fun _ => by rfl) (fun _ _ => by rfl) (by rfl) (by rfl) ⟨rfl, rfl, rfl, by decide⟩ (by rfl) fun Cx => ?_); (try dsimp only))
  refine SS.asg3s (v1 := .l1 (.pc p)) (v2 := .s (Str.ofString "")) (v3 := .i 0) (EV.tup3 (EA.cons (EV.call gf_121 (by walk_at "P a") (read_pieces1_pf x p n hR hB hx hn h1) (by decide) (by rfl) (by decide) (by rfl) (by rfl)) (by walk_at "P a") (by rfl))) (by rfl) (by rfl) (by rfl) (by intros; with_unfolding_all rfl) (by intros; with_unfolding_all rfl) ?_
  refine SS.ifF (EB.cast (b := (false || (false || false))) (EB.row (EL.or (EB.cast (EB.eq (EV.lenL (by walk_at "P v") rfl (by rfl) (by rfl)) (by walk_at "P v") (by rfl)) rfl) fun _ => EL.or (EB.row (EL.andF (EB.cast (EB.eq (EV.lenL (v := .l1 (.pc p)) (EV.lcT (keep := pvPic) (by rfl) (by rfl) (by decide) rfl (by with_unfolding_all rfl) (by decide) (by rfl) (by decide) (by rfl) (by decide) (by intros; rfl) (by intros; rfl) (by intros; rfl) ?_ rfl) rfl (by rfl) (by rfl)) (by walk_at "P v") (by rfl)) rfl))) fun _ => EL.or0)) rfl) (SS.nil ?_)
  · intro u hu ml m Cc oC m₂ y s nl Q E g1 g2 g3 P r q
    obtain rfl := List.mem_singleton.mp hu
    exact plain_test P (is_plain_p_pf p) (by decide) g1 g2 g3 r (by rfl) (by rfl) (by rfl) q
  show SS _ _ _ _ _
  have hmv : isMu v = false := by rcases hv with ⟨rfl, rfl⟩ | rfl <;> rfl
  refine SS.whl (α := Unit) (fun _ => True) (fun _ => [(Str.ofString "pieces", .l1 (.pc p)), (Str.ofString "found", .s (Str.ofString "")), (Str.ofString "at", .i 0), (Str.ofString "values", .l1 v), (Str.ofString "text", .s x)]) (fun _ => true) (fun _ => 0) () trivial (.cons (by rfl) (.cons (by rfl) (.cons (by rfl) (.cons (by rfl) (.cons (by rfl) .nil))))) (fun _ _ => EB.true) (fun _ _ _ => ?_) (fun _ _ h => nomatch h)
  refine SS.for (v := .l1 (.pc p)) (ρe := [(Str.ofString "found", .s (Str.ofString "" ++ St (shw p c e))), (Str.ofString "at", .i (0 + 1)), (Str.ofString "values", .l1 v)]) (by walk_at "P v") rfl ⟨[(Str.ofString "found", .s (Str.ofString "" ++ St (shw p c e))), (Str.ofString "at", .i (0 + 1)), (Str.ofString "values", .l1 v)], fun ml => ?_, fun _ _ h => h⟩ (by rfl) ?_ (by intros; rfl)
  · refine SS.ifF (EB.call (EV.call gf_198 (by walk_at "P a") (is_plain_p_pf p) (by decide) (by rfl) (by decide) (by rfl) (by rfl))) ?_
    refine SS.ifF (EB.cast (EB.eq (by walk_at "P v") (EV.lenL (v := .l1 v) (by walk_at "P v") rfl (by rfl) (by rfl)) (by rfl)) rfl) ?_
    refine SS.asg2s (v1 := .s (Str.ofString "" ++ St (shw p c e))) (v2 := .i (0 + 1)) (EV.tup2 (EA.cons (EV.cat (by walk_at "P v") (EV.call gf_191 (EA.cons (by walk_at "P v") (EA.cons (EV.itL (v := .l1 v) (k := 0) (u := v) (by walk_at "P v") rfl (by walk_at "P v") rfl rfl (by intros; with_unfolding_all rfl) (by intros; with_unfolding_all rfl)) .nil (by rfl)) (by rfl)) (value_by_pf p c e v hv hp hc he he2) (by decide) (by rfl) (by decide) (by rfl) (by rfl)) (by omega)) (by walk_at "P a") (by rfl))) (by rfl) (by rfl) (by intros; with_unfolding_all rfl) (by intros; with_unfolding_all rfl) (SS.nil (SS.nil (SS.nil ?_)))
    exact .cons rfl (.cons rfl (.cons rfl .nil))
  · refine SS.ifT (EB.cast (EB.eq (by walk_at "P v") (EV.lenL (v := .l1 v) (by walk_at "P v") rfl (by rfl) (by rfl)) (by rfl)) rfl) ?_
    refine SS.ret (EV.cast (by walk_at "P v") ?_) rfl
    rw [o_empty, st_append]; rfl
/-- what has been shown behind k values -/
def acc3 (a b : PySem.Str) (S : Nat → PySem.Str) : Nat → PySem.Str
  | 0 => Str.ofString ""
  | k + 1 => acc3 a b S k ++ a ++ S k ++ b
theorem acc3_len {a b : PySem.Str} {S : Nat → PySem.Str} (ha : a.length = 1) (hb : b.length = 1) (hS : ∀ k, (S k).length ≤ 400) : ∀ k, (acc3 a b S k).length ≤ 500 * k
  | 0 => Nat.le_refl _
  | k + 1 => by
    have := acc3_len ha hb hS k
    have := hS k
    unfold acc3
    rw [PySem.Str.length_append, PySem.Str.length_append, PySem.Str.length_append]
    omega
theorem using3_pf (x : PySem.Str) (p : Pic) (n : Nat) (v : Nat → PV) (c e : Nat → Int) (a b : PySem.Str) (hP : PF 121 5 [.s x] (.l3 (.t2 (.s (Str.ofString "plain")) (.s a)) (.pc p) (.t2 (.s (Str.ofString "plain")) (.s b)))) (hal : a.length = 1) (hbl : b.length = 1)
    (hv : ∀ k, (v k = .i (c k) ∧ e k = 0) ∨ v k = .t2 (.i (c k)) (.i (e k))) (hp : GP p) (hc : ∀ k, ((c k).natAbs : Int) < 10 ^ 12) (he : ∀ k, -20 ≤ e k) (he2 : ∀ k, e k ≤ 20) :
    PF 203 10 [.s x, .l3 (v 0) (v 1) (v 2)] (.s (acc3 a b (fun k => St (shw p (c k) (e k))) 3)) := by
  have hl := fun k => shw_len p (c k) (e k) hp (hc k) (he k) (he2 k)
  have hac := acc3_len (S := fun k => St (shw p (c k) (e k))) hal hbl hl
  (k_dflt (refine pf_in2 (F := ⟨_, _⟩) (fun _ => by rfl) (fun _ => by rfl) (fun _ _ => by rfl) (by rfl) (by rfl) ⟨rfl, rfl, rfl, by decide⟩ (by rfl) fun Cx => ?_); (try dsimp only))
  refine SS.asg3s (v1 := .l3 (.t2 (.s (Str.ofString "plain")) (.s a)) (.pc p) (.t2 (.s (Str.ofString "plain")) (.s b))) (v2 := .s (Str.ofString "")) (v3 := .i 0) (EV.tup3 (EA.cons (EV.call gf_121 (by walk_at "P a") hP (by decide) (by rfl) (by decide) (by rfl) (by rfl)) (by walk_at "P a") (by rfl))) (by rfl) (by rfl) (by rfl) (by intros; with_unfolding_all rfl) (by intros; with_unfolding_all rfl) ?_
  refine SS.ifF (EB.cast (b := (false || (false || false))) (EB.row (EL.or (EB.cast (EB.eq (EV.lenL (by walk_at "P v") rfl (by rfl) (by rfl)) (by walk_at "P v") (by rfl)) rfl) fun _ => EL.or (EB.row (EL.andF (EB.cast (EB.eq (EV.lenL (v := .l1 (.pc p)) (EV.lcT (keep := pvPic) (by rfl) (by rfl) (by decide) rfl (by with_unfolding_all rfl) (by decide) (by rfl) (by decide) (by rfl) (by decide) (by intros; rfl) (by intros; rfl) (by intros; rfl) ?_ rfl) rfl (by rfl) (by rfl)) (by walk_at "P v") (by rfl)) rfl))) fun _ => EL.or0)) rfl) (SS.nil ?_)
  · intro u hu ml m Cc oC m₂ y s nl Q E g1 g2 g3 P r q
    simp only [List.mem_cons, List.not_mem_nil, or_false] at hu
    rcases hu with rfl | rfl | rfl
    · exact plain_test P (is_plain_t_pf a) (by decide) g1 g2 g3 r (by rfl) (by rfl) (by rfl) q
    · exact plain_test P (is_plain_p_pf p) (by decide) g1 g2 g3 r (by rfl) (by rfl) (by rfl) q
    · exact plain_test P (is_plain_t_pf b) (by decide) g1 g2 g3 r (by rfl) (by rfl) (by rfl) q
  show SS _ _ _ _ _
  refine SS.whl (α := Fin 3) (fun _ => True) (fun k => [(Str.ofString "pieces", .l3 (.t2 (.s (Str.ofString "plain")) (.s a)) (.pc p) (.t2 (.s (Str.ofString "plain")) (.s b))), (Str.ofString "found", .s (acc3 a b (fun k => St (shw p (c k) (e k))) k.val)), (Str.ofString "at", .i k.val), (Str.ofString "values", .l3 (v 0) (v 1) (v 2)), (Str.ofString "text", .s x)])
    (fun _ => true) (fun k => 3 - k.val) 0 trivial (.cons (by rfl) (.cons (by rfl) (.cons (by rfl) (.cons (by rfl) (.cons (by rfl) .nil))))) (fun _ _ => EB.true) (fun k _ _ => ?_) (fun _ _ h => nomatch h)
  have hk := k.isLt
  have hak := hac k.val
  have hlk := hl k.val
  refine SS.for (v := .l3 (.t2 (.s (Str.ofString "plain")) (.s a)) (.pc p) (.t2 (.s (Str.ofString "plain")) (.s b))) (ρe := [(Str.ofString "pieces", .l3 (.t2 (.s (Str.ofString "plain")) (.s a)) (.pc p) (.t2 (.s (Str.ofString "plain")) (.s b))), (Str.ofString "found", .s (acc3 a b (fun k => St (shw p (c k) (e k))) (k.val + 1))), (Str.ofString "at", .i (k.val + 1)), (Str.ofString "values", .l3 (v 0) (v 1) (v 2)), (Str.ofString "text", .s x)]) (by walk_at "P v") rfl
    ⟨[(Str.ofString "pieces", .l3 (.t2 (.s (Str.ofString "plain")) (.s a)) (.pc p) (.t2 (.s (Str.ofString "plain")) (.s b))), (Str.ofString "found", .s (acc3 a b (fun k => St (shw p (c k) (e k))) k.val ++ a)), (Str.ofString "at", .i k.val), (Str.ofString "values", .l3 (v 0) (v 1) (v 2)), (Str.ofString "text", .s x)], fun ml => ?_,
     [(Str.ofString "pieces", .l3 (.t2 (.s (Str.ofString "plain")) (.s a)) (.pc p) (.t2 (.s (Str.ofString "plain")) (.s b))), (Str.ofString "found", .s (acc3 a b (fun k => St (shw p (c k) (e k))) k.val ++ a ++ St (shw p (c k) (e k)))), (Str.ofString "at", .i (k.val + 1)), (Str.ofString "values", .l3 (v 0) (v 1) (v 2)), (Str.ofString "text", .s x)], fun ml => ?_,
     [(Str.ofString "pieces", .l3 (.t2 (.s (Str.ofString "plain")) (.s a)) (.pc p) (.t2 (.s (Str.ofString "plain")) (.s b))), (Str.ofString "found", .s (acc3 a b (fun k => St (shw p (c k) (e k))) (k.val + 1))), (Str.ofString "at", .i (k.val + 1)), (Str.ofString "values", .l3 (v 0) (v 1) (v 2)), (Str.ofString "text", .s x)], fun ml => ?_, fun _ _ h => h⟩ (by rfl) ?_ (by intros; rfl)
  · refine SS.ifT (EB.call (EV.call gf_198 (by walk_at "P a") (is_plain_t_pf a) (by decide) (by rfl) (by decide) (by rfl) (by rfl))) ?_
    refine SS.asg (EV.cat (by walk_at "P v") (EV.snd (by walk_at "P v")) (by omega)) (by rfl) (by intros; with_unfolding_all rfl) (SS.nil (SS.nil ?_))
    exact .cons rfl (.cons rfl (.cons rfl (.cons rfl (.cons rfl .nil))))
  · have hmv : isMu (v k) = false := by rcases hv k with ⟨h, _⟩ | h <;> rw [h] <;> rfl
    refine SS.ifF (EB.call (EV.call gf_198 (by walk_at "P a") (is_plain_p_pf p) (by decide) (by rfl) (by decide) (by rfl) (by rfl))) ?_
    refine SS.ifF (EB.cast (EB.eq (by walk_at "P v") (EV.lenL (v := .l3 (v 0) (v 1) (v 2)) (by walk_at "P v") rfl (by rfl) (by rfl)) (by rfl)) ?_) ?_
    · show ((k.val : Int) == 3) = false
      rw [beq_eq_false_iff_ne]; omega
    refine SS.asg2s (v1 := .s (acc3 a b (fun k => St (shw p (c k) (e k))) k.val ++ a ++ St (shw p (c k) (e k)))) (v2 := .i (k.val + 1)) (EV.tup2 (EA.cons (EV.cat (by walk_at "P v") (EV.call gf_191 (EA.cons (by walk_at "P v") (EA.cons (EV.itL (v := .l3 (v 0) (v 1) (v 2)) (k := k.val) (u := v k) (by walk_at "P v") rfl (by walk_at "P v") rfl ?_ (by intros; with_unfolding_all rfl) (by intros; with_unfolding_all rfl)) .nil (by rfl)) (by rfl)) (value_by_pf p (c k) (e k) (v k) (hv k) hp (hc k) (he k) (he2 k)) (by decide) (by rfl) (by decide) (by rfl) (by rfl)) (by rw [PySem.Str.length_append]; omega)) (by walk_at "P a") (by rfl))) (by rfl) (by rfl) (by intros; with_unfolding_all rfl) (by intros; with_unfolding_all rfl) (SS.nil (SS.nil (SS.nil ?_)))
    · match k with
      | 0 => rfl
      | 1 => rfl
      | 2 => rfl
    exact .cons rfl (.cons rfl (.cons rfl (.cons rfl (.cons rfl .nil))))
  · refine SS.ifT (EB.call (EV.call gf_198 (by walk_at "P a") (is_plain_t_pf b) (by decide) (by rfl) (by decide) (by rfl) (by rfl))) ?_
    refine SS.asg (EV.cat (by walk_at "P v") (EV.snd (by walk_at "P v")) (by rw [PySem.Str.length_append, PySem.Str.length_append]; omega)) (by rfl) (by intros; with_unfolding_all rfl) (SS.nil (SS.nil ?_))
    exact .cons rfl (.cons rfl (.cons rfl (.cons rfl (.cons rfl .nil))))
  · by_cases h2 : k.val = 2
    · refine SS.ifT (EB.cast (EB.eq (by walk_at "P v") (EV.lenL (v := .l3 (v 0) (v 1) (v 2)) (by walk_at "P v") rfl (by rfl) (by rfl)) (by rfl)) ?_) ?_
      · show ((k.val : Int) + 1 == 3) = true
        rw [beq_iff_eq]; omega
      refine SS.ret (EV.cast (by walk_at "P v") ?_) rfl
      rw [h2]
    · refine SS.ifF (EB.cast (EB.eq (by walk_at "P v") (EV.lenL (v := .l3 (v 0) (v 1) (v 2)) (by walk_at "P v") rfl (by rfl) (by rfl)) (by rfl)) ?_) (SS.nil ?_)
      · show ((k.val : Int) + 1 == 3) = false
        rw [beq_eq_false_iff_ne]; omega
      refine SS.nil ⟨⟨k.val + 1, by omega⟩, trivial, by show 3 - (k.val + 1) < 3 - k.val; omega, .cons rfl (.cons rfl (.cons rfl (.cons rfl (.cons rfl .nil))))⟩

-- piece 138
-- needs: 136 135 118 51 43
theorem d_of_text_pf (x : PySem.Str) (c e n : Int) (hx : x.length ≤ 100) (hA : ∀ c ∈ Lz x, c < 128) (hb : ∀ c, (Lz x)[0]? = some c → c ≠ 32 ∧ c ≠ 9) (hD : DT (Lz x) c e n) :
    PF 253 6 [.s x, .i 9] (.t2 (.t2 (.i (mad c e 9).1) (.i (mad c e 9).2)) (.i n)) := by
  have hs0 : 0 ≤ sg0 (Lz x) := by unfold sg0; split <;> decide
  rcases hD with ⟨a1, a2, f1, f2, ex, h1, h2, h3, h4, h5, h6, h7, h8, h9, h10, h11, h12, h13, h14, h15, h16, h17⟩ | ⟨a1, f1, ex, h1, h2, h4, h5, h6, h7, h8, h9, h10, h11, h12⟩
  · rw [h16, h17]
    rw [lz_length] at h6 h8
    refine d_of_text_pt x _ a1 a2 n f1 f2 ex hx hA hb rfl h1 ?_ h3 h4 hs0 h5 h6 h7 h8 h9 h10 h11 h12 h13 h14 h15
    rw [o_dot, sl1 (by omega), h2]; simp
  · rw [h11, h12]
    rw [lz_length] at h6
    refine d_of_text_np x _ a1 n f1 ex hx hA hb rfl h1 ?_ h4 hs0 h5 h6 h7 h8 h9 h10
    rw [o_dot, sl1 (by omega)]; simpa using h2
section
open PyProof.Rows.LCg PyProof.Rows.LCt
variable {F : FI} {C : Fx} {ρ : Nms} {e1 e2 : PySem.Expr} {a b : Int} {u v : PV} {p p1 p2 p3 : Pos} {k : Nat}
theorem EB.isNt (h1 : EV F C ρ e1 (.t2 u v)) (hm : behindInMarks .Is (.Constant .none k p1) = false) : EB F C ρ (.Compare e1 [.Is] [.Constant .none k p1] p) false := EB.cmp h1 EV.nonE hm fun _ _ _ _ _ _ _ ⟨_, _, _, r1, _⟩ r2 q => by
  have r2 : _ = Value.none := r2
  subst r1; subst r2; exact is_ref_none q
theorem EB.neI (h1 : EV F C ρ e1 (.i a)) (h2 : EV F C ρ e2 (.i b)) (hm : behindInMarks .NotEq e2 = false) : EB F C ρ (.Compare e1 [.NotEq] [e2] p) (a != b) := EB.cmp h1 h2 hm fun _ _ _ _ _ _ _ ⟨_, r1⟩ ⟨_, r2⟩ q => by subst r1; subst r2; exact PySem.P.ne_int q
theorem EV.kept {tx : PySem.Str} {scope : Scope} {clC : List (Str × Addr)} {pl : Sem Bool} {k0 k1 : Nat} {p4 p5 p6 p7 p8 p9 : Pos} (hz : ρ.lookup (Str.ofString "text") = some (.s tx)) (hzx : F.sc.names.lookup (Str.ofString "text") = some .local) (hA : ∀ c ∈ Lz tx, c < 128) (hl : tx.length ≤ 400)
    (hclos : closureFor scope C.env = pure clC) (hcell : ∀ y ∈ scope.names, y.2 ≠ .cell) (hkind : scope.kind = .function) (hnames : ∀ y ∈ scope.names, y.2 = .local → scope.names.lookup y.1 = some .local) (hx : scope.names.lookup (Str.ofString "sign") = some .local)
    (hk2 : ∀ Cc, (compEnvC scope clC Cc C.env).scope.kind = .function) (hl2 : ∀ Cc, (compEnvC scope clC Cc C.env).kindOf (Str.ofString "sign") = some .local) (hs : ∀ x, foldedSetIterable (.Name (Str.ofString "text") p4) C.env x = pure x)
    (hst : starEach [.ListComp (.Name (Str.ofString "sign") p5) [⟨.Name (Str.ofString "sign") p6, .Name (Str.ofString "text") p4, [.Compare (.Name (Str.ofString "sign") p7) [.In] [.Constant (.str (Str.ofString "0123456789.E+-")) k1 p8] p9], 0⟩] scope p] C.env = [(false, eval (.ListComp (.Name (Str.ofString "sign") p5) [⟨.Name (Str.ofString "sign") p6, .Name (Str.ofString "text") p4, [.Compare (.Name (Str.ofString "sign") p7) [.In] [.Constant (.str (Str.ofString "0123456789.E+-")) k1 p8] p9], 0⟩] scope p) C.env)])
    (hmc : eval (.Call (.Attribute (.Constant (.str (Str.ofString "")) k0 p1) (Str.ofString "join") p2) [.ListComp (.Name (Str.ofString "sign") p5) [⟨.Name (Str.ofString "sign") p6, .Name (Str.ofString "text") p4, [.Compare (.Name (Str.ofString "sign") p7) [.In] [.Constant (.str (Str.ofString "0123456789.E+-")) k1 p8] p9], 0⟩] scope p] [] p3) C.env = (do
      let ov ← eval (.Constant (.str (Str.ofString "")) k0 p1) C.env
      standAt p2.atName
      let (f, first) ← holding [ov] (getMethod ov (Str.ofString "join") pl)
      callWith p3 f first (backTo p3 (starEach [.ListComp (.Name (Str.ofString "sign") p5) [⟨.Name (Str.ofString "sign") p6, .Name (Str.ofString "text") p4, [.Compare (.Name (Str.ofString "sign") p7) [.In] [.Constant (.str (Str.ofString "0123456789.E+-")) k1 p8] p9], 0⟩] scope p] C.env)) [])) :
    EV F C ρ (.Call (.Attribute (.Constant (.str (Str.ofString "")) k0 p1) (Str.ofString "join") p2) [.ListComp (.Name (Str.ofString "sign") p5) [⟨.Name (Str.ofString "sign") p6, .Name (Str.ofString "text") p4, [.Compare (.Name (Str.ofString "sign") p7) [.In] [.Constant (.str (Str.ofString "0123456789.E+-")) k1 p8] p9], 0⟩] scope p] [] p3) (.s (St ((Lz tx).filter keepB))) := ⟨fun s nl Q E P q => by
  refine MethodCall_ (pl := pl) (Calls.Constant_str (GM.join (callWith_method1 (args_cons ?_ hst) hst))) hmc
  obtain ⟨m, Pm, hR⟩ := (P.tk (k := s.toks + 1)).toM
  obtain ⟨y, hy, r⟩ := hR _ _ hz
  have hy := hy.loc (P.ok.lo _ hzx)
  obtain ⟨t, rfl⟩ := r.out rfl
  have ha : tx.cps.all (· < 128) = true := by
    rw [← Array.all_toList, List.all_eq_true]; intro c hc; exact decide_eq_true (hA c hc)
  have hsz : tx.cps.size ≤ sizeLine := by
    have : tx.cps.size ≤ 400 := hl
    rw [PySem.sizeLine_eq]; omega
  have hlen : ((Lz tx).filter keepB).length ≤ 400 := Nat.le_trans (List.length_filter_le _ _) hl
  refine ListComp_text Pm.F ha hclos hcell hkind hnames hx (Pm.name hy hzx (by decide) ?_) hs
  refine ⟨_, _, rfl, rfl, Pm.F, Pm.N, hsz, fun s₂ hs₂ => rest_all (keep := keepB) ?_ (fun ys hys => ?_) _ 0 [] (Nat.zero_add _) trivial⟩
  · obtain ⟨h9, rfl⟩ := hs₂
    intro c t I oI Cc oC D ys m₂ h tk E' hc hN hm F1 N1
    refine wpAny_isTrue_Compare1 (LCgL.ld_own N1 (.tail _ (.head _)) hN hm (Calls.Constant_str (PyProof.Rows.in_str (wpAny_truthy_bool ⟨⟨_, rfl⟩, occ_keep' (hA c hc), fun _ => LCgL.ld_own (s := ⟨_, _, _, _, _⟩) N1 (.tail _ (.head _)) hN hm ⟨⟨_, rfl⟩, _, rfl⟩ (hk2 Cc) (hl2 Cc) (by decide)⟩))) (hk2 Cc) (hl2 Cc) (by decide)) rfl
  · obtain ⟨h9, rfl⟩ := hs₂
    intro D h tk F1 N1 o1
    refine args_nil (join_kept (News.isList N1 (List.Mem.head _)) hys hlen fun t' k => ?_)
    have P2 : PSm F C m ⟨(D, LCg.lst ys) :: nl.z, nl.l⟩ { s with heap := h, toks := k } := Pm.fin F1 N1 o1 P.off P.offl P.sub
    exact q _ h k ⟨(D, LCg.lst ys) :: nl.z, nl.l⟩ (P2.t (hR.mono (fun p hp => .tail _ hp) rfl)) (fun p hp => .tail _ hp) ⟨_, rfl⟩⟩
end
theorem slice_le (x : PySem.Str) (lo hi : Option Int) : (Txt.slice x lo hi).length ≤ x.length := by
  rw [← lz_length, slice_lz, List.length_take, List.length_drop, lz_length]; omega
theorem gf_286 : GF (Str.ofString "_law_read") 286 := ⟨fun _ => rfl, fun _ => rfl⟩
theorem law_read_pf (x : PySem.Str) (a b : Int) (hx : x.length ≤ 400) (hR : RdF (Lz x) a b) : PF 286 8 [.s x] (.t2 (.i a) (.i b)) := by
  obtain ⟨h1, h2, h3, h4, c, e, h5, h6⟩ := hR
  obtain ⟨K0, hK0⟩ : ∃ K0, K0 = (Lz x).filter keepB := ⟨_, rfl⟩
  rw [← hK0] at h2 h3 h4 h5
  have hl0 : K0.length ≤ 400 := by rw [hK0]; exact Nat.le_trans (List.length_filter_le _ _) hx
  have hA : ∀ c ∈ Lz (St (rotL K0)), c < 128 := fun c hc => h1 c (List.mem_filter.mp (by rw [← hK0]; exact rotL_sub c hc)).1
  have hd := d_of_text_pf (St (rotL K0)) c e _ h3 hA h4 h5
  rw [h6] at hd
  have hl1 : (St K0).length ≤ 400 := hl0
  have hl2 : 0 < (St K0).length := h2
  have hl3 : (St (rotL K0)).length ≤ 100 := h3
  (k_dflt (refine pf_in1 (F := ⟨_, _⟩) (fun _ => by rfl) (fun _ => by rfl) (fun _ => by rfl) (by rfl) ⟨rfl, rfl, rfl, by decide⟩ (by rfl) fun Cx => ?_); (try dsimp only))
  refine SS.asg (v := .s (St K0)) (EV.cast (EV.kept (tx := x) (by rfl) (by rfl) h1 hx (by with_unfolding_all rfl) (by decide) (by rfl) (by decide) (by rfl) (by intros; rfl) (by intros; rfl) (by intros; rfl) (by rfl) (by rfl)) (by rw [hK0])) (by rfl) (by intros; with_unfolding_all rfl) ?_
  refine SS.itej [(Str.ofString "kept", .s (St (rotL K0)))] (by walk_at "P b") ?_ ?_ ?_
  · intro h
    have hj := rot_t h2 h
    have q1 : (Txt.slice (St K0) (some (((St K0).length : Int) - 1)) none).length ≤ 400 := Nat.le_trans (slice_le _ _ _) hl1
    have q2 : (Txt.slice (St K0) none (some (((St K0).length : Int) - 1))).length ≤ 400 := Nat.le_trans (slice_le _ _ _) hl1
    walk_at "P s"
    walk_at "P s"
    rw [hj]
    exact .cons rfl .nil
  · intro h
    walk_at "P s"
    rw [← rot_f h2 h]
    exact .cons rfl .nil
  refine SS.asg (EV.call gf_253 (by walk_at "P a") hd (by decide) (by rfl) (by decide) (by rfl) (by rfl)) (by rfl) (by intros; with_unfolding_all rfl) ?_
  refine SS.ret (EV.ifF (EB.cast (EB.row (EL.or (EB.isNt (by walk_at "P v") (by rfl)) fun _ => EL.or (EB.neI (EV.snd (by walk_at "P v")) (by walk_at "P v") (by rfl)) fun _ => EL.or0)) ?_) (EV.fst (by walk_at "P v"))) rfl
  show (false || ((((rotL K0).length : Int) != ((St (rotL K0)).length : Int)) || false)) = false
  rw [Bool.false_or, Bool.or_false]
  exact bne_self_eq_false _

-- piece 139
-- needs: 137 138 497
theorem beq_pair {a b c d : Int} {e : Nat → Bool} (h0 : e 0 = (a == c)) (h1 : e 1 = (b == d)) : ((List.range (min 2 2)).all e && 2 == 2) = decide ((a, b) = (c, d)) := by
  rw [show List.range (min 2 2) = [0, 1] from rfl]
  simp only [List.all_cons, List.all_nil, h0, h1, Bool.and_true, Prod.mk.injEq, Bool.decide_and]
  rw [show (a == c) = decide (a = c) from by by_cases h : a = c <;> simp [h], show (b == d) = decide (b = d) from by by_cases h : b = d <;> simp [h]]
  simp
theorem pair_eq {prog : Program} {w : World} {A : Around} {E : Value → Shared → Prop} {s : Shared} {Q : Value → Shared → Prop} {D1 D2 : Addr} {a b c d : Int} {t1 t2 t3 t4 : Tok}
    (h1 : IsTup s.heap D1 [.int a t1, .int b t2].toArray) (h2 : IsTup s.heap D2 [.int c t3, .int d t4].toArray) (hu : A.units < cLine)
    (h : Q (.bool (decide ((a, b) = (c, d)))) s) : wpAny (model prog w) A (compareOp .Eq (.ref D1) (.ref D2)) Q E s := by
  refine PySem.SeqAt.eq_tupleAt (e := fun j => if j = 0 then a == c else b == d) h1 h2 hu (fun j k1 k2 => ?_) ?_
  · have hj : j = 0 ∨ j = 1 := by have : j < 2 := k1; omega
    rcases hj with rfl | rfl
    · show PySem.SeqAt.EqAt A.in1 s (.int a t1) (.int c t3) (a == c)
      exact PySem.SeqAt.EqAt.int_int _ _ _ _
    · show PySem.SeqAt.EqAt A.in1 s (.int b t2) (.int d t4) (b == d)
      exact PySem.SeqAt.EqAt.int_int _ _ _ _
  · show Q (.bool ((List.range (min 2 2)).all _ && 2 == 2)) s
    rw [beq_pair (a := a) (b := b) (c := c) (d := d) rfl rfl]
    exact h
section
variable {F : FI} {C : Fx} {ρ : Nms} {e1 e2 : PySem.Expr} {a b c d : Int} {p : Pos}
theorem EV.eqT (h1 : EV F C ρ e1 (.t2 (.i a) (.i b))) (h2 : EV F C ρ e2 (.t2 (.i c) (.i d))) (hm : behindInMarks .Eq e2 = false) : EV F C ρ (.Compare e1 [.Eq] [e2] p) (.b (decide ((a, b) = (c, d)))) := EV.cmpB h1 h2 hm fun s nl y1 y2 Q E P ⟨D1, w1, w2, r1, m1, ⟨_, r3⟩, ⟨_, r4⟩⟩ ⟨D2, w3, w4, r2, m2, ⟨_, r5⟩, ⟨_, r6⟩⟩ q => by
  subst r1; subst r2; subst r3; subst r4; subst r5; subst r6
  exact pair_eq (isTup2 P m1) (isTup2 P m2) (by have := P.ok.hu; show C.un < cLine; omega) q
end
theorem using1_b (x : PySem.Str) (p : Pic) (v : PV) (c e : Int) (hT : Tx x p) (hv : (v = .i c ∧ e = 0) ∨ v = .t2 (.i c) (.i e)) (hp : GP p) (hc : (c.natAbs : Int) < 10 ^ 12) (he : -20 ≤ e) (he2 : e ≤ 20) : PF 203 10 [.s x, .l1 v] (.s (St (shw p c e))) := by
  obtain ⟨n, h1, h2, h3, h4, h5⟩ := hT
  exact using1_pf x p n v c e h1 h2 h3 h4 h5 hv hp hc he he2
theorem gf_293 : GF (Str.ofString "_law_shown_right") 293 := ⟨fun _ => rfl, fun _ => rfl⟩
theorem gf_300 : GF (Str.ofString "_law_order_right") 300 := ⟨fun _ => rfl, fun _ => rfl⟩
theorem shown_right_pf (x : PySem.Str) (v : PV) (c e a b : Int) (hv : (v = .i c ∧ e = 0) ∨ v = .t2 (.i c) (.i e)) (h : ShowOk x c e a b) : PF 293 12 [.s x, v, .t2 (.i a) (.i b)] (.b true) := by
  obtain ⟨p, hT, hp, hc, he, he2, hc', he', he2', hR, hag⟩ := h
  have hu := using1_b x p v c e hT hv hp hc he he2
  have hu2 := using1_b x p (.t2 (.i a) (.i b)) a b hT (.inr rfl) hp hc' he' he2'
  have hl := shw_len p c e hp hc he he2
  have hr := law_read_pf (St (shw p c e)) a b hl hR
  have hmv : isMu v = false := by rcases hv with ⟨rfl, rfl⟩ | rfl <;> rfl
  (k_dflt (refine pf_in3 (F := ⟨_, _⟩) (fun _ => by rfl) (fun _ => by rfl) (fun _ _ _ => by rfl) (by rfl) (by rfl) (by rfl) ⟨rfl, rfl, rfl, by decide⟩ (by rfl) fun Cx => ?_); (try dsimp only))
  refine SS.asg (EV.call gf_203 (EA.cons (by walk_at "P v") (EA.cons (EV.lst (v := .l1 v) (EA.cons (EV.nm (by rfl) (by rfl) (by decide) hmv) .nil (by rfl)) rfl) .nil (by rfl)) (by rfl)) hu (by decide) (by rfl) (by decide) (by rfl) (by rfl)) (by rfl) (by intros; with_unfolding_all rfl) ?_
  refine SS.asg (EV.call gf_286 (by walk_at "P a") hr (by decide) (by rfl) (by decide) (by rfl) (by rfl)) (by rfl) (by intros; with_unfolding_all rfl) ?_
  refine SS.ret (EV.cast (EV.andB (c2 := true) (EV.eqT (by walk_at "P v") (by walk_at "P v") (by rfl)) fun _ => EV.cast (EV.orB (c2 := true) (EV.eqI (EV.fst (by walk_at "P v")) (by walk_at "P v") (by rfl)) fun h0 => EV.cast (EV.eqS (EV.call gf_203 (EA.cons (by walk_at "P v") (EA.cons (EV.lst (v := .l1 (.t2 (.i a) (.i b))) (by walk_at "P a") rfl) .nil (by rfl)) (by rfl)) hu2 (by decide) (by rfl) (by decide) (by rfl) (by rfl)) (by walk_at "P v") (by rfl)) ?_) ?_) ?_) rfl
  · rw [hag (by simpa using h0)]
    exact congrArg PV.b (beq_self_eq_true _)
  · rw [Bool.or_true]
  · rw [decide_eq_true rfl]; rfl
theorem order_right_pf (x : PySem.Str) (v o : PV) (c1 e1 c2 e2 : Int) (hv : (v = .i c1 ∧ e1 = 0) ∨ v = .t2 (.i c1) (.i e1)) (ho : (o = .i c2 ∧ e2 = 0) ∨ o = .t2 (.i c2) (.i e2)) (h : OrderOk x c1 e1 c2 e2) : PF 300 12 [.s x, v, o] (.b true) := by
  obtain ⟨p, a1, b1, a2, b2, hT, hp, q1, q2, q3, q4, q5, q6, r1, r2, r3, r4, r5, r6, hR1, hR2, hO1, hO2⟩ := h
  have hu := using1_b x p v c1 e1 hT hv hp q1 q2 q3
  have hu2 := using1_b x p o c2 e2 hT ho hp q4 q5 q6
  have hr := law_read_pf (St (shw p c1 e1)) a1 b1 (shw_len p c1 e1 hp q1 q2 q3) hR1
  have hr2 := law_read_pf (St (shw p c2 e2)) a2 b2 (shw_len p c2 e2 hp q4 q5 q6) hR2
  have hmv : isMu v = false := by rcases hv with ⟨rfl, rfl⟩ | rfl <;> rfl
  have hmo : isMu o = false := by rcases ho with ⟨rfl, rfl⟩ | rfl <;> rfl
  (k_dflt (refine pf_in3 (F := ⟨_, _⟩) (fun _ => by rfl) (fun _ => by rfl) (fun _ _ _ => by rfl) (by rfl) (by rfl) (by rfl) ⟨rfl, rfl, rfl, by decide⟩ (by rfl) fun Cx => ?_); (try dsimp only))
  refine SS.asg2s (EV.tup2 (EA.cons (EV.call gf_203 (EA.cons (by walk_at "P v") (EA.cons (EV.lst (v := .l1 v) (EA.cons (EV.nm (by rfl) (by rfl) (by decide) hmv) .nil (by rfl)) rfl) .nil (by rfl)) (by rfl)) hu (by decide) (by rfl) (by decide) (by rfl) (by rfl)) (EA.cons (EV.call gf_203 (EA.cons (by walk_at "P v") (EA.cons (EV.lst (v := .l1 o) (EA.cons (EV.nm (by rfl) (by rfl) (by decide) hmo) .nil (by rfl)) rfl) .nil (by rfl)) (by rfl)) hu2 (by decide) (by rfl) (by decide) (by rfl) (by rfl)) .nil (by rfl)) (by rfl))) (by rfl) (by rfl) (by intros; with_unfolding_all rfl) (by intros; with_unfolding_all rfl) ?_
  refine SS.ret (EV.cast (EV.eqI (EV.subB (by walk_at "P v") (by walk_at "P v")) (EV.call gf_225 (EA.cons (EV.call gf_286 (by walk_at "P a") hr (by decide) (by rfl) (by decide) (by rfl) (by rfl)) (EA.cons (EV.call gf_286 (by walk_at "P a") hr2 (by decide) (by rfl) (by decide) (by rfl) (by rfl)) .nil (by rfl)) (by rfl)) (d_compare_pf a1 b1 a2 b2 r1 r4 r2 r3 r5 r6) (by decide) (by rfl) (by decide) (by rfl) (by rfl)) (by rfl)) ?_) rfl
  simp only [lz_st, hO1, hO2]
  exact congrArg PV.b (beq_self_eq_true _)

-- piece 140
-- needs: 125
/-- what _law_take draws -/
def drw (xs : List Int) (t b : Int) : Int := if t < xs.length then ((xs.getD t.toNat 0).natAbs : Int) % b else (7919 * t + t / 2 + 3) % b
theorem drw_bd {xs : List Int} {t b : Int} (h : 0 < b) : 0 ≤ drw xs t b ∧ drw xs t b < b := by
  unfold drw
  split
  · exact ⟨Int.emod_nonneg _ (by omega), Int.emod_lt_of_pos _ h⟩
  · exact ⟨Int.emod_nonneg _ (by omega), Int.emod_lt_of_pos _ h⟩
section
variable {F : FI} {C : Fx} {ρ ρ1 : Nms} {e e1 e2 : PySem.Expr} {xs : List Int} {t t' a : Int} {D : Addr} {zn z1 z2 : Str} {p p1 p2 p3 p4 : Pos} {k : Nat} {rest : List Stmt} {K : Out → Prop}
/-- x, y = sack -/
theorem SS.unsack (hz : ρ.lookup zn = some (.mu D (.sk xs t))) (hzx : F.sc.names.lookup zn = some .local) (hd : (zn == Str.ofString "__debug__") = false) (hx1 : F.sc.names.lookup z1 = some .local) (hx2 : F.sc.names.lookup z2 = some .local) (hsw : ∀ cn L a ccd cl, swapsWithSole [.Tuple [.Name z1 p1, .Name z2 p2] k p3] (.Name zn p4) p.line (envX cn F.sc L a ccd cl) = pure false)
    (hss : ∀ cn L a ccd cl, swappedStores [.Tuple [.Name z1 p1, .Name z2 p2] k p3] (.Name zn p4) (envX cn F.sc L a ccd cl) = pure none) (hr : SS F C ((z2, .i t) :: (z1, .li xs) :: ρ) rest K) : SS F C ρ (.Assign [.Tuple [.Name z1 p1, .Name z2 p2] k p3] (.Name zn p4) p :: rest) K :=
  ⟨fun s nl Q E P O kn kr => wpAny_execs_cons (Assign_Tuple ((EV.nmM hz hzx hd).go s nl _ _ P fun y h tk nl1 P1 s1 r => by
    have e : y = .ref D := r
    subst e
    obtain ⟨n, y, tk0, el, ry⟩ := P1.at hz
    obtain ⟨m, hF, hR⟩ := P1.F
    refine kun_list (s := { s with heap := h, toks := tk }) hF P1.N (News.isList P1.N (P1.mel (by rw [el]; exact .head _))) rfl rfl rfl fun h' F' N' => ?_
    refine assignInOrder_cons (assign_Name ((P1.upd ⟨m, F', hR⟩ N' : PSt F C ρ nl1 _).store (v := .li xs) ry hx1 fun h tk P2 => assignInOrder_cons (assign_Name (P2.store (v := .i t) ⟨_, rfl⟩ hx2 fun h tk P3 => assignInOrder_nil ?_))))
    exact hr.go _ nl1 Q E P3 O (fun ρ' h tk nl' k P' s' => kn ρ' h tk nl' k P' fun p hp => s' p (s1 p hp)) fun v y h tk nl' k P' s' r => kr v y h tk nl' k P' (fun p hp => s' p (s1 p hp)) r) (by have := hsw C.cn C.L C.a C.ccd C.cl; rw [← P.ok.sc] at this; exact this) (by have := hss C.cn C.L C.a C.ccd C.cl; rw [← P.ok.sc] at this; exact this))⟩
/-- sack[1] = e -/
theorem SS.setsack (he : EM F C ρ e (.i t') ρ1) (hz : ρ1.lookup zn = some (.mu D (.sk xs t))) (h1 : one zn ρ1 = true) (hzx : F.sc.names.lookup zn = some .local) (hd : (zn == Str.ofString "__debug__") = false)
    (hsw : ∀ cn L a ccd cl, swapsWith e (some (.Subscript (.Name zn p1) (.Constant (.int 1) k p2) p3)) p.line (envX cn F.sc L a ccd cl) = pure false) (hr : SS F C ((zn, .mu D (.sk xs t')) :: ρ1) rest K) : SS F C ρ (.Assign [.Subscript (.Name zn p1) (.Constant (.int 1) k p2) p3] e p :: rest) K :=
  ⟨fun s nl Q E P O kn kr => wpAny_execs_cons (wpAny_Assign_Subscript (he.go s nl _ _ P fun y _ _ nl1 P1 s1 r => (EV.nmM hz hzx hd).go _ nl1 _ _ P1 fun y1 h tk nl2 P2 s2 r1 => wpAny_Constant_int (by
    have e : y1 = .ref D := r1
    subst e
    obtain ⟨tk1, rfl⟩ := r
    obtain ⟨n, y, tk0, el, ry⟩ := P2.at hz
    obtain ⟨m, hF, hR⟩ := P2.F
    have U : Upd D (listOf #[y, .int t tk0] n) (listOf (List.toArray [y, .int t' tk1]) n) nl2.l [(D, listOf #[y, .int t' tk1] n)] := by rw [el]; exact .head fun _ h => nomatch h
    refine ki_set (s := { s with heap := h, toks := tk + 1 }) hF P2.N (by decide) (by decide) rfl (P2.upd_l U) fun h' F' N' => ?_
    exact hr.go _ _ Q E (P2.chg (s' := { s with heap := h', toks := tk + 1 }) hz h1 hR F' N' ⟨n, y, tk1, rfl, ry⟩ (updX_keys U)) O (fun ρ' h tk nl' k P' s' => kn ρ' h tk nl' k P' fun p hp => s' p (s2 p (s1 p hp))) fun v y h tk nl' k P' s' r => kr v y h tk nl' k P' (fun p hp => s' p (s2 p (s1 p hp))) r)) (by have := hsw C.cn C.L C.a C.ccd C.cl; rw [← P.ok.sc] at this; exact this))⟩
theorem EV.lenI (h1 : EV F C ρ e (.li xs)) (hl : xs.length ≤ 1000) (hx : F.sc.names.lookup (Str.ofString "len") = some .globalImplicit) (hst : starEach [e] C.env = [(false, eval e C.env)]) : EV F C ρ (.Call (.Name (Str.ofString "len") p1) [e] [] p) (.i xs.length) :=
  EV.bi1 (fun _ => by rfl) (by rfl) (by decide) hx (by decide) h1 hst fun s nl _ _ _ P ⟨D, ws, n, r, hm, hi⟩ q => by
    subst r
    exact len_ints_fit (News.isList P.N (P.mem hm)) hi (by omega) (q _ _ ⟨_, rfl⟩)
theorem EV.idxI (h1 : EV F C ρ e1 (.li xs)) (h2 : EV F C ρ e2 (.i a)) (h0 : 0 ≤ a) (hl : a < xs.length) (hx : xs.length ≤ 1000) (hs : ∀ D u, subscripted e2 false (.ref D) (.int a u) = operate [.ref D, .int a u] (getItem (.ref D) (.int a u))) (ht : ∀ t r, letTemporaryGo e1 (.ref t) r = pure ()) : EV F C ρ (.Subscript e1 e2 p) (.i (xs.getD a.toNat 0)) :=
  ⟨fun s nl _ _ P q => Subscript_ (h1.go s nl _ _ P fun y1 _ _ nl1 P1 s1 r1 => h2.go _ nl1 _ _ P1 fun y2 hh tk nl2 P2 s2 r2 => by
    obtain ⟨D, ws, n, rfl, hm, hi⟩ := r1
    obtain ⟨u, rfl⟩ := r2
    exact item_list_ints (s := { s with heap := hh, toks := tk }) (News.isList P2.N (P2.mem (s2 _ hm))) hi h0 hl (by omega) (fun t => q _ _ _ nl2 P2 (fun p hp => s2 p (s1 p hp)) ⟨_, rfl⟩) (hs D u) (ht D))⟩
end
theorem gf_267 : GF (Str.ofString "_law_take") 267 := ⟨fun _ => rfl, fun _ => rfl⟩
theorem law_take_pc (S : Addr) (xs : List Int) (t b : Int) (hx : xs.length ≤ 63) (h0 : 0 ≤ t) (h1 : t ≤ 1000) (hb : 0 < b) : PC 267 1 S (.sk xs t) [.i b] (.i (drw xs t b)) (.sk xs (t + 1)) := by
  (k_dflt (refine pc_in2 (F := ⟨_, _⟩) (fun _ => by rfl) (fun _ => by rfl) (fun _ _ => by rfl) (by rfl) (by rfl) ⟨rfl, rfl, rfl, by decide⟩ fun Cx => ?_); (try dsimp only))
  refine SS.unsack (by rfl) (by rfl) (by decide) (by rfl) (by rfl) (by intros; with_unfolding_all rfl) (by intros; with_unfolding_all rfl) ?_
  refine SS.setsack (t' := t + 1) (?_ : EV _ _ _ _ (.i (t + 1))) (by rfl) (by rfl) (by rfl) (by decide) (by intros; with_unfolding_all rfl) ?_
  · walk_at "P v"
  refine SS.retM (zn := Str.ofString "sack") (EV.cast (EV.ifI (EB.lt (by walk_at "P v") (EV.lenI (by walk_at "P v") (by omega) (by rfl) (by rfl)) (by rfl)) (fun h => EV.fmd (EV.abs (EV.idxI (by walk_at "P v") (by walk_at "P v") h0 (by simpa using h) (by omega) (by intros; with_unfolding_all rfl) (by intros; with_unfolding_all rfl)) (by rfl) (by rfl)) (by walk_at "P v") hb) fun _ => EV.fmd (by walk_at "P v") (by walk_at "P v") hb) ?_) (by rfl) rfl
  unfold drw
  simp only [decide_eq_true_eq]
-- @use
local macro_rules | `(tactic| walk_at "P w") => `(tactic| exact EV.nmM (by rfl) (by rfl) (by decide))
local macro_rules | `(tactic| walk_at "P call") => `(tactic| (refine' EV.callM (zn := Str.ofString "sack") (d := 1) gf_267 ?h1 ?h3 ?h7 (law_take_pc _ _ _ _ ?h4 ?h5 ?h6 ?h8) (by decide) (by rfl) (by decide) (by rfl) (by rfl); (case h1 => walk_at "P a"); (case h3 => rfl); (case h7 => rfl); (case h4 => omega); (case h5 => omega); (case h6 => omega); (case h8 => omega)))
local macro_rules | `(tactic| walk_at "P retS") => `(tactic| (refine' SS.retM (zn := Str.ofString "sack") ?h1 ?h2 ?_; (case h1 => walk_at "P v"); (case h2 => rfl); (try repeat refine is_i ?_); (try (show PV.w _ _ _ _ = PV.w _ _ _ _))))
-- @end

-- piece 141
-- needs: 140 113 45
theorem gf_274 : GF (Str.ofString "_law_number") 274 := ⟨fun _ => rfl, fun _ => rfl⟩
/-- the value v is the number c at 10 ^ e -/
def NVal (v : PV) (c e : Int) : Prop := (v = .i c ∧ e = 0) ∨ v = .t2 (.i c) (.i e)
theorem law_number_pc (S : Addr) (xs : List Int) (t : Int) (hx : xs.length ≤ 63) (h0 : 0 ≤ t) (h1 : t ≤ 900) : ∃ v c e t', ValOk c e ∧ NVal v c e ∧ t ≤ t' ∧ t' ≤ t + 4 ∧ PC 274 5 S (.sk xs t) [] v (.sk xs t') := by
  have k2 := drw_bd (xs := xs) (t := t) (b := 2) (by decide)
  have k4 := drw_bd (xs := xs) (t := t + 1) (b := 4) (by decide)
  have k15 := drw_bd (xs := xs) (t := t + 1 + 1) (b := 32768) (by decide)
  have k6 := drw_bd (xs := xs) (t := t + 1 + 1) (b := 1000000) (by decide)
  have k8 := drw_bd (xs := xs) (t := t + 1 + 1 + 1) (b := 8) (by decide)
  by_cases h : drw xs (t + 1) 4 = 0
  · refine ⟨.i ((1 - 2 * drw xs t 2) * drw xs (t + 1 + 1) 32768), _, 0, t + 1 + 1 + 1, valOk_int k2.1 k2.2 k15.1 k15.2, .inl ⟨rfl, rfl⟩, by omega, by omega, ?_⟩
    (k_dflt (refine pc_in1 (F := ⟨_, _⟩) (fun _ => by rfl) (fun _ => by rfl) (fun _ => by rfl) (by rfl) ⟨rfl, rfl, rfl, by decide⟩ fun Cx => ?_); (try dsimp only))
    walk_at "P s"
    refine SS.ite (by walk_at "P b") (fun _ => ?_) (fun h' => absurd h' (by rw [h]; decide))
    walk_at "P retS"
    exact rfl
  · refine ⟨.t2 (.i (mad ((1 - 2 * drw xs t 2) * drw xs (t + 1 + 1) 1000000) (drw xs (t + 1 + 1 + 1) 8 - 5) 9).1) (.i (mad ((1 - 2 * drw xs t 2) * drw xs (t + 1 + 1) 1000000) (drw xs (t + 1 + 1 + 1) 8 - 5) 9).2), _, _, t + 1 + 1 + 1 + 1, valOk_mad (by rw [sgn_abs k2.1 k2.2 k6.1]; omega) (by omega) (by omega), .inr rfl, by omega, by omega, ?_⟩
    (k_dflt (refine pc_in1 (F := ⟨_, _⟩) (fun _ => by rfl) (fun _ => by rfl) (fun _ => by rfl) (by rfl) ⟨rfl, rfl, rfl, by decide⟩ fun Cx => ?_); (try dsimp only))
    walk_at "P s"
    refine SS.ite (by walk_at "P b") (fun h' => absurd h' (by rw [beq_iff_eq]; exact h)) (fun _ => SS.nil ?_)
    show SS _ _ _ _ _
    refine SS.retM (zn := Str.ofString "sack") (EV.call (d := 3) gf_58 (EA.cons (EV.mul (by walk_at "P v") (EV.callM (zn := Str.ofString "sack") (d := 1) gf_267 (EA.cons (by walk_at "P v") (EA.cons (EV.cast (v2 := .i 1000000) (EV.pow EV.int EV.int (by decide) (by decide) (by decide)) (by rfl)) .nil (by rfl)) (by rfl)) (by rfl) (by rfl) (law_take_pc S xs (t + 1 + 1) 1000000 hx (by omega) (by omega) (by decide)) (by decide) (by rfl) (by decide) (by rfl) (by rfl)) (by walk_at "U mulok"))
      (EA.cons (by walk_at "P v") (EA.cons EV.int .nil (by rfl)) (by rfl)) (by rfl)) (made_pf _ _ _ (by rw [sgn_abs k2.1 k2.2 k6.1]; omega) (by omega) (by omega) (by decide)) (by decide) (by rfl) (by decide) (by rfl) (by rfl)) (by rfl) rfl

-- piece 142
-- needs: 140 497
section
variable {F : FI} {C : Fx} {ρ ρ1 ρ2 : Nms} {e ei : PySem.Expr} {es : List PySem.Expr} {xs : List PySem.Str} {vs : List PV} {a : Int} {c1 c2 : Bool} {p p1 : Pos}
/-- [..][e], texts -/
theorem EV.menu (ha : EA F C ρ es vs) (hv : vs = xs.map PV.s) (hi : EM F C ρ ei (.i a) ρ1) (h0 : 0 ≤ a) (hl : a < xs.length) (hx : xs.length ≤ 10) (hs : ∀ D u, subscripted ei false (.ref D) (.int a u) = operate [.ref D, .int a u] (getItem (.ref D) (.int a u))) : EM F C ρ (.Subscript (.List es p1) ei p) (.s (xs.getD a.toNat (Str.ofString ""))) ρ1 :=
  ⟨fun s nl Q E P q => Subscript_ (List_ (ha.go s nl _ _ _ P fun ys h tk nl1 P1 s1 r1 => by
    obtain ⟨m, hF, hR⟩ := P1.F
    subst hv
    have hlen := r1.len
    rw [List.length_map] at hlen
    refine newList_K hF P1.N (fun D h' F' N' hl' => ?_) (sz3 (by omega))
    refine hi.go _ _ _ _ (P1.more (s' := ⟨h', _, _, tk, _⟩) hR F' N' hl') fun y2 hh tk2 nl2 P2 s2 r2 => ?_
    obtain ⟨u, rfl⟩ := r2
    have hk : (xs.map PV.s)[a.toNat]? = some (.s (xs.getD a.toNat (Str.ofString ""))) := by
      rw [List.getElem?_map, List.getElem?_eq_getElem (by omega), List.getD_eq_getElem?_getD, List.getElem?_eq_getElem (by omega)]; rfl
    obtain ⟨y, hy, ry⟩ := r1.at hk
    obtain ⟨t, rfl⟩ := ry
    exact item_litK (s := ⟨hh, _, _, tk2, _⟩) (News.isList P2.N (P2.mem (s2 _ (.head _)))) h0 (by omega) hy (q _ hh tk2 nl2 P2 (fun p hp => s2 p (.tail _ (s1 p hp))) ⟨_, rfl⟩) (hs D u)))⟩
theorem EL.orM (h1 : EC F C ρ e c1 ρ1) (h2 : c1 = false → ELM F C ρ1 .Or es p c2 ρ1) : ELM F C ρ .Or (e :: es) p (c1 || c2) ρ1 := ⟨fun s nl Q E _ P q => isTrue_or (h1.go s nl _ _ _ P rfl fun h tk nl1 P1 s1 => by
  cases hc : c1 with
  | true => exact (by simpa [hc] using q h tk nl1 P1 s1)
  | false =>
    have hq := q
    simp only [hc, Bool.false_or] at hq
    simpa using (h2 hc).go _ nl1 Q E _ P1 fun h tk nl2 P2 s2 => hq h tk nl2 P2 fun p hp => s2 p (s1 p hp))⟩
theorem EL.orF (h1 : EB F C ρ e false) (h2 : ELM F C ρ .Or es p c2 ρ1) : ELM F C ρ .Or (e :: es) p c2 ρ1 := ⟨fun s nl Q E _ P q => isTrue_or (h1.go s nl _ _ _ P rfl fun h tk nl1 P1 s1 => by
  simpa using h2.go _ nl1 Q E _ P1 fun h tk nl2 P2 s2 => q h tk nl2 P2 fun p hp => s2 p (s1 p hp))⟩
end
/-- the picture's text as far as its comma -/
abbrev lpT (ka kn kc : Int) : PySem.Str := menu5 ka.toNat ++ Txt.mul (PySem.Str.ofString "#") (1 + kn) ++ Txt.mul (PySem.Str.ofString ",") kc
theorem gf_281 : GF (Str.ofString "_law_picture") 281 := ⟨fun _ => rfl, fun _ => rfl⟩
-- @use
local macro_rules | `(tactic| walk_at "P sz") => `(tactic| ((try simp only [PySem.Str.length_append, hash_len, comma_len, dot_len]); omega))
local macro_rules | `(tactic| walk_at "P w") => `(tactic| (refine' EV.menu ?h1 ?h2 ?h3 ?h4 ?h5 ?h6 (by intros; with_unfolding_all rfl); (case h1 => walk_at "P a"); (case h3 => walk_at "P v"); (case h2 => walk_at "P menu"); (case h4 => omega); (case h5 => (simp only [List.length_cons, List.length_nil]; omega)); (case h6 => decide)))
-- @end
section
local macro_rules | `(tactic| walk_at "P menu") => `(tactic| first | exact (rfl : _ = List.map PV.s [PySem.Str.ofString "", PySem.Str.ofString "+", PySem.Str.ofString "**", PySem.Str.ofString "$$", PySem.Str.ofString "**$"]) | exact (rfl : _ = List.map PV.s [PySem.Str.ofString "", PySem.Str.ofString "+", PySem.Str.ofString "-"]))
theorem law_picture_pc (S : Addr) (xs : List Int) (t : Int) (hx : xs.length ≤ 63) (h0 : 0 ≤ t) (h1 : t ≤ 900) : ∃ x b t', PlainL x b ∧ t ≤ t' ∧ t' ≤ t + 6 ∧ PC 281 2 S (.sk xs t) [] (.t2 (.s x) (.i b)) (.sk xs t') := by
  have k5 := drw_bd (xs := xs) (t := t) (b := 5) (by decide)
  have k6 := drw_bd (xs := xs) (t := t + 1) (b := 6) (by decide)
  have k2 := drw_bd (xs := xs) (t := t + 1 + 1) (b := 2) (by decide)
  have kb := drw_bd (xs := xs) (t := t + 1 + 1 + 1) (b := 5) (by decide)
  have m5 := menu5_len (drw xs t 5).toNat
  by_cases hb : 0 < drw xs (t + 1 + 1 + 1) 5
  · have k3 := drw_bd (xs := xs) (t := t + 1 + 1 + 1 + 1) (b := 3) (by decide)
    have m3 := menu3_len (drw xs (t + 1 + 1 + 1 + 1) 3).toNat
    refine ⟨if (menu5 (drw xs t 5).toNat == PySem.Str.ofString "+") = true then lpT (drw xs t 5) (drw xs (t + 1) 6) (drw xs (t + 1 + 1) 2) ++ PySem.Str.ofString "." ++ Txt.mul (PySem.Str.ofString "#") (drw xs (t + 1 + 1 + 1) 5) else lpT (drw xs t 5) (drw xs (t + 1) 6) (drw xs (t + 1 + 1) 2) ++ PySem.Str.ofString "." ++ Txt.mul (PySem.Str.ofString "#") (drw xs (t + 1 + 1 + 1) 5) ++ menu3 (drw xs (t + 1 + 1 + 1 + 1) 3).toNat, drw xs (t + 1 + 1 + 1) 5, t + 1 + 1 + 1 + 1 + 1, ?_, by omega, by omega, ?_⟩
    · split
      · rename_i hp; exact plain1 k5.1 k5.2 k6.1 k6.2 k2.1 k2.2 kb.1 kb.2 hp
      · rename_i hp; exact plain2 k5.1 k5.2 k6.1 k6.2 k2.1 k2.2 kb.1 kb.2 k3.1 k3.2 (by simpa using hp)
    · (k_dflt (refine pc_in1 (F := ⟨_, _⟩) (fun _ => by rfl) (fun _ => by rfl) (fun _ => by rfl) (by rfl) ⟨rfl, rfl, rfl, by decide⟩ fun Cx => ?_); (try dsimp only))
      refine SS.asg (v := .s (menu5 (drw xs t 5).toNat)) (EV.cast (by walk_at "P v") rfl) (by rfl) (by intros; with_unfolding_all rfl) ?_
      walk_at "P s"
      refine SS.ite (EB.row (EL.or (c2 := true) (EB.cast (by walk_at "P b") (decide_eq_true hb)) fun h => nomatch h)) (fun _ => ?_) (fun h => nomatch h)
      walk_at "P s"
      walk_at "P s"
      refine SS.asg (v := .s (menu3 (drw xs (t + 1 + 1 + 1 + 1) 3).toNat)) (EV.cast (by walk_at "P v") rfl) (by rfl) (by intros; with_unfolding_all rfl) ?_
      walk_at "P retS"
      exact rfl
  · have k22 := drw_bd (xs := xs) (t := t + 1 + 1 + 1 + 1) (b := 2) (by decide)
    have k3 := drw_bd (xs := xs) (t := t + 1 + 1 + 1 + 1 + 1) (b := 3) (by decide)
    have m3 := menu3_len (drw xs (t + 1 + 1 + 1 + 1 + 1) 3).toNat
    by_cases h2 : drw xs (t + 1 + 1 + 1 + 1) 2 = 0
    · refine ⟨if (menu5 (drw xs t 5).toNat == PySem.Str.ofString "+") = true then lpT (drw xs t 5) (drw xs (t + 1) 6) (drw xs (t + 1 + 1) 2) ++ PySem.Str.ofString "." ++ Txt.mul (PySem.Str.ofString "#") (drw xs (t + 1 + 1 + 1) 5) else lpT (drw xs t 5) (drw xs (t + 1) 6) (drw xs (t + 1 + 1) 2) ++ PySem.Str.ofString "." ++ Txt.mul (PySem.Str.ofString "#") (drw xs (t + 1 + 1 + 1) 5) ++ menu3 (drw xs (t + 1 + 1 + 1 + 1 + 1) 3).toNat, drw xs (t + 1 + 1 + 1) 5, t + 1 + 1 + 1 + 1 + 1 + 1, ?_, by omega, by omega, ?_⟩
      · split
        · rename_i hp; exact plain1 k5.1 k5.2 k6.1 k6.2 k2.1 k2.2 kb.1 kb.2 hp
        · rename_i hp; exact plain2 k5.1 k5.2 k6.1 k6.2 k2.1 k2.2 kb.1 kb.2 k3.1 k3.2 (by simpa using hp)
      · (k_dflt (refine pc_in1 (F := ⟨_, _⟩) (fun _ => by rfl) (fun _ => by rfl) (fun _ => by rfl) (by rfl) ⟨rfl, rfl, rfl, by decide⟩ fun Cx => ?_); (try dsimp only))
        refine SS.asg (v := .s (menu5 (drw xs t 5).toNat)) (EV.cast (by walk_at "P v") rfl) (by rfl) (by intros; with_unfolding_all rfl) ?_
        walk_at "P s"
        refine SS.ite (EB.row (EL.orF (EB.cast (by walk_at "P b") (decide_eq_false hb)) (EL.orM (by walk_at "P b") fun _ => EL.or0))) (fun _ => ?_) (fun h => absurd h (by rw [h2]; decide))
        walk_at "P s"
        walk_at "P s"
        refine SS.asg (v := .s (menu3 (drw xs (t + 1 + 1 + 1 + 1 + 1) 3).toNat)) (EV.cast (by walk_at "P v") rfl) (by rfl) (by intros; with_unfolding_all rfl) ?_
        walk_at "P retS"
        exact rfl
    · refine ⟨if (menu5 (drw xs t 5).toNat == PySem.Str.ofString "+") = true then lpT (drw xs t 5) (drw xs (t + 1) 6) (drw xs (t + 1 + 1) 2) else lpT (drw xs t 5) (drw xs (t + 1) 6) (drw xs (t + 1 + 1) 2) ++ menu3 (drw xs (t + 1 + 1 + 1 + 1 + 1) 3).toNat, drw xs (t + 1 + 1 + 1) 5, t + 1 + 1 + 1 + 1 + 1 + 1, ?_, by omega, by omega, ?_⟩
      · split
        · rename_i hp; exact plain3 k5.1 k5.2 k6.1 k6.2 k2.1 k2.2 kb.1 kb.2 hb hp
        · rename_i hp; exact plain4 k5.1 k5.2 k6.1 k6.2 k2.1 k2.2 kb.1 kb.2 k3.1 k3.2 hb (by simpa using hp)
      · (k_dflt (refine pc_in1 (F := ⟨_, _⟩) (fun _ => by rfl) (fun _ => by rfl) (fun _ => by rfl) (by rfl) ⟨rfl, rfl, rfl, by decide⟩ fun Cx => ?_); (try dsimp only))
        refine SS.asg (v := .s (menu5 (drw xs t 5).toNat)) (EV.cast (by walk_at "P v") rfl) (by rfl) (by intros; with_unfolding_all rfl) ?_
        walk_at "P s"
        refine SS.ite (EB.row (EL.orF (EB.cast (by walk_at "P b") (decide_eq_false hb)) (EL.orM (by walk_at "P b") fun _ => EL.or0))) (fun h => absurd h (by rw [Bool.or_false, beq_iff_eq]; exact h2)) (fun _ => ?_)
        walk_at "P s"
        refine SS.asg (v := .s (menu3 (drw xs (t + 1 + 1 + 1 + 1 + 1) 3).toNat)) (EV.cast (by walk_at "P v") rfl) (by rfl) (by intros; with_unfolding_all rfl) ?_
        walk_at "P retS"
        exact rfl
end

-- piece 143
-- needs: 141 142 136
theorem updF_app_left {d : Addr} {o : Obj} {z l : List (Addr × Obj)} {g : Obj → List (Addr × Obj)} (h : ∀ p ∈ z, @Ne Nat p.1 d) (u : UpdF d o l g) : UpdF d o (z ++ l) (fun o' => z ++ g o') := by
  induction z with
  | nil => exact u
  | cons q r ih => exact .tail (h _ (.head _)) (ih fun p hp => h p (.tail _ hp))
section
variable {F : FI} {C : Fx} {ρ ρ1 ρ2 : Nms} {s : Shared} {nl : LG} {e e1 e2 : PySem.Expr} {v c u w : PV} {D a : Addr} {z z1 z2 zn : Str} {o : Obj} {ml' : List (Addr × Obj)} {vo : Option Value} {p p1 p2 p3 p4 : Pos} {k : Nat} {rest : List Stmt} {r : Value}
theorem EV.nmC (h : ρ.lookup z = some v) (hx : F.sc.names.lookup z = some .cell) (hc : (C.cl.lookup z).isSome = true) (hd : (z == Str.ofString "__debug__") = false) (hm : isMu v = false := by rfl) : EV F C ρ (.Name z p) v := ⟨fun s nl _ _ P q => by
  obtain ⟨m, hF, hR⟩ := P.F
  obtain ⟨y, hy, r⟩ := hR z v h
  rcases hy with ⟨e, _⟩ | ⟨a, o, e, hm', hd'⟩
  · rw [e] at hc; cases hc
  · exact nameX_C P.N e (P.mem hm') hd' (q y _ _ nl P (fun _ h => h) (r.out hm)) (by show C.cs.kind = _; rw [P.ok.sc]; exact P.ok.fn) (by show C.cs.names.lookup z = _; rw [P.ok.sc]; exact hx) hd⟩
theorem EV.nmMC (h : ρ.lookup z = some (.mu D c)) (hx : F.sc.names.lookup z = some .cell) (hc : (C.cl.lookup z).isSome = true) (hd : (z == Str.ofString "__debug__") = false) : EV F C ρ (.Name z p) (.f D) := ⟨fun s nl _ _ P q => by
  obtain ⟨m, hF, hR⟩ := P.F
  obtain ⟨y, hy, r⟩ := hR z _ h
  rcases hy with ⟨e, _⟩ | ⟨a, o, e, hm', hd'⟩
  · rw [e] at hc; cases hc
  · exact nameX_C P.N e (P.mem hm') hd' (q y _ _ nl P (fun _ h => h) r.1) (by show C.cs.kind = _; rw [P.ok.sc]; exact P.ok.fn) (by show C.cs.names.lookup z = _; rw [P.ok.sc]; exact hx) hd⟩
/-- a cell takes its value -/
theorem PSt.cellset {y : Value} {Q : Unit → Shared → Prop} {E : Value → Shared → Prop} (P : PSt F C ρ nl s) (hz : C.cl.lookup z = some a) (hm : C.ml = (a, o) :: ml') (hd : o.data = .cell vo) (hml : ∀ p ∈ ml', @Ne Nat p.1 a) (r : RVm C.w.params nl v y) (hx : F.sc.names.lookup z = some .cell)
    (k : ∀ h o', PSt F (C.wl ml') ((z, v) :: ρ) ⟨(a, o') :: nl.z, nl.l⟩ { s with heap := h } → Q () { s with heap := h }) : wpAny (PM C) C.A (storeName C.env z y) Q E s := by
  obtain ⟨m, hF, hR⟩ := P.F
  have N := P.N
  rw [hm] at N
  have ho := P.off
  have hol := P.offl
  rw [hm] at ho hol
  have U : UpdF a o (nl.z ++ (nl.l ++ (a, o) :: ml')) (fun o' => nl.z ++ (nl.l ++ (a, o') :: ml')) := updF_app_left (fun p hp => ho p hp (a, o) (List.mem_append_right _ (.head _))) (updF_app_left (fun p hp => hol p hp (a, o) (.head _)) (.head hml))
  refine storeX_C hF N hz U hd (fun h' o' F' N' hd' => k h' o' ?_) (by rw [P.ok.sc]; exact P.ok.fn) (by show C.cs.names.lookup z = _; rw [P.ok.sc]; exact hx)
  refine ⟨⟨P.ok.B, P.ok.X, P.ok.T, P.ok.sc, P.ok.fn, P.ok.hd, P.ok.hu, P.ok.lo⟩, ⟨m, F', fun x w hq => ?_⟩, fun p hp => N' p ?_, fun p hp q hq => ?_, fun p hp q hq => hol p hp q (.tail _ hq), fun p hp => .tail _ (P.sub p hp)⟩
  · rw [List.lookup_cons] at hq
    cases hz' : (x == z) with
    | true =>
      rw [hz'] at hq
      obtain rfl := Option.some.inj hq
      obtain rfl := eq_of_beq hz'
      exact ⟨y, .inr ⟨a, o', hz, .head _, hd'⟩, r.mono (fun _ h => .tail _ h) rfl⟩
    | false =>
      rw [hz'] at hq
      obtain ⟨u, hu, ru⟩ := hR x w hq
      exact ⟨u, hu.mono fun _ h => .tail _ h, ru.mono (fun _ h => .tail _ h) rfl⟩
  · rcases List.mem_append.mp hp with hp | hp
    · rcases List.mem_cons.mp hp with rfl | hp
      · exact List.mem_append_right _ (List.mem_append_right _ (.head _))
      · exact List.mem_append_left _ hp
    · rcases List.mem_append.mp hp with hp | hp
      · exact List.mem_append_right _ (List.mem_append_left _ hp)
      · exact List.mem_append_right _ (List.mem_append_right _ (.tail _ hp))
  · rcases List.mem_cons.mp hp with rfl | hp
    · rcases List.mem_append.mp hq with hq | hq
      · exact (hol q hq (a, o) (.head _)).symm
      · exact (hml q hq).symm
    · rcases List.mem_append.mp hq with hq | hq
      · exact ho p hp q (List.mem_append_left _ hq)
      · exact ho p hp q (List.mem_append_right _ (.tail _ hq))
/-- a block that ends with r -/
structure SB (F : FI) (C : Fx) (ρ : Nms) (b : List Stmt) (r : Value) : Prop where
  go : ∀ (s : Shared) (nl : LG) (Q : Flow → Shared → Prop) (E : Value → Shared → Prop), PSt F C ρ nl s → PassesOwn (PM C) C.A C.env E → (∀ h tk m, Fr C.g C.L h m → Q (.ret r) { s with heap := h, toks := tk }) → wpAny (PM C) C.A (execs b C.env) Q E s
theorem SB.of {b : List Stmt} (h : SS F C ρ b (Is (.b true))) : SB F C ρ b (.bool true) := ⟨fun s nl Q E P O k => h.go s nl Q E P O (fun _ _ _ _ h => h.elim) fun v y h tk nl' hk P' _ r => by
  obtain rfl : v = .b true := hk
  obtain rfl : y = .bool true := r
  obtain ⟨m, hF, _⟩ := P'.F
  exact k h tk m hF⟩
theorem SB.asg (he : EM F C ρ e v ρ1) (hx : F.sc.names.lookup z = some .local) (hsw : ∀ cn L a ccd cl, swapsWith e (some (.Name z p1)) p.line (envX cn F.sc L a ccd cl) = pure false) (hr : SB F C ((z, v) :: ρ1) rest r) : SB F C ρ (.Assign [.Name z p1] e p :: rest) r :=
  ⟨fun s nl Q E P O k => wpAny_execs_cons (wpAny_Assign_Name (he.go s nl _ _ P fun y _ _ nl1 P1 s1 r => P1.store r hx fun h tk P2 => hr.go _ nl1 Q E P2 O k) (by have := hsw C.cn C.L C.a C.ccd C.cl; rw [← P.ok.sc] at this; exact this))⟩
/-- x, y = e; x is a cell -/
theorem SB.asgC (he : EM F C ρ e (.t2 u w) ρ1) (hz : C.cl.lookup z1 = some a) (hm : C.ml = (a, o) :: ml') (hd : o.data = .cell vo) (hml : ∀ p ∈ ml', @Ne Nat p.1 a) (hx1 : F.sc.names.lookup z1 = some .cell) (hx2 : F.sc.names.lookup z2 = some .local) (hsw : ∀ cn L a ccd cl, swapsWithSole [.Tuple [.Name z1 p1, .Name z2 p2] k p3] e p.line (envX cn F.sc L a ccd cl) = pure false)
    (hss : ∀ cn L a ccd cl, swappedStores [.Tuple [.Name z1 p1, .Name z2 p2] k p3] e (envX cn F.sc L a ccd cl) = pure none) (hr : SB F (C.wl ml') ((z2, w) :: (z1, u) :: ρ1) rest r) : SB F C ρ (.Assign [.Tuple [.Name z1 p1, .Name z2 p2] k p3] e p :: rest) r :=
  ⟨fun s nl Q E P O k => wpAny_execs_cons (Assign_Tuple (he.go s nl _ _ P fun y _ _ nl1 P1 s1 r => by
    obtain ⟨D, w1, w2, rfl, hmm, r1, r2⟩ := r
    obtain ⟨m, hF, hR⟩ := P1.F
    refine unpackN_ hF P1.N (isTup2 P1 hmm) rfl rfl rfl fun h' F' N' => ?_
    refine assignInOrder_cons (assign_Name ((P1.upd ⟨m, F', hR⟩ N' : PSt F C ρ1 nl1 _).cellset hz hm hd hml (.of r1) hx1 fun h o' P2 => assignInOrder_cons (assign_Name (P2.store (r2.mono fun _ h => .tail _ h) hx2 fun h tk P3 => assignInOrder_nil ?_))))
    exact hr.go _ _ Q E P3 O k) (by have := hsw C.cn C.L C.a C.ccd C.cl; rw [← P.ok.sc] at this; exact this) (by have := hss C.cn C.L C.a C.ccd C.cl; rw [← P.ok.sc] at this; exact this))⟩
/-- script[:40] -/
theorem EV.cutI {vs : List Value} {ns : List Int} {n : Int} {k : Nat} (h1 : EV F C ρ e1 (.f a)) (hg : C.g.IsList a (List.toArray vs)) (hi : IntsAre vs ns) (hl : ns.length ≤ 1000) (h0 : 0 ≤ n) (hs : ∀ D, subscripted (.Slice none (some (.Constant (.int n) k p2)) none p3) false (.ref a) (.ref D) = operate [.ref D, .ref a] (getItem (.ref a) (.ref D))) (ht : ∀ r, letTemporaryGo e1 (.ref a) r = pure ()) :
    EV F C ρ (.Subscript e1 (.Slice none (some (.Constant (.int n) k p2)) none p3) p) (.li (ns.take n.toNat)) := ⟨fun s nl Q E P q => Subscript_ (h1.go s nl _ _ P fun y hh tk nl1 P1 s1 r1 => by
  have r1 : y = .ref a := r1
  subst r1
  refine wpAny_Slice (evalPart_none_step (evalPart_some_step (wpAny_Constant_int (evalPart_none_step ?_))))
  obtain ⟨m, hF, hR⟩ := P1.F
  have hlen : vs.length ≤ 1000 := by rw [hi.length]; exact hl
  refine slice_list (s := { s with heap := hh, toks := tk + 1 }) hF P1.N (Fr.lst hF hg) .none (.int n _) (fun h' F' N' => ?_) (hs _) ht (by rw [List.size_toArray, PySem.sizeLine_eq]; omega)
  have hw := slice_ints_uptoW hi h0
  have P2 : PSt F C ρ ⟨(hh.objs.size + 1, listOf (List.toArray (slicePick (List.toArray vs) none (some n) none).toList) 0) :: nl1.z, nl1.l⟩ { s with heap := h', toks := tk + 1 } := P1.more (s' := { s with heap := h', toks := tk + 1 }) hR F' (by rw [Array.toArray_toList]; exact N') fun p hp => Nat.lt_succ_of_lt (Heap.lt_size (P1.N p hp).1)
  exact q _ h' _ _ P2 (fun p hp => .tail _ (s1 p hp)) ⟨_, _, 0, rfl, .head _, hw⟩)⟩
/-- sack = [e, 0]; sack is a cell -/
theorem SB.sack {xs : List Int} {n : Int} (he : EV F C ρ e (.li xs)) (hn : ρ.all (fun x => !isMu x.2) = true) (hz : C.cl.lookup z = some a) (hm : C.ml = (a, o) :: ml') (hd : o.data = .cell vo) (hml : ∀ p ∈ ml', @Ne Nat p.1 a) (hx : F.sc.names.lookup z = some .cell) (hst : starEach [e, .Constant (.int n) k p2] C.env = (false, eval e C.env) :: starEach [.Constant (.int n) k p2] C.env)
    (hsw : ∀ cn L a ccd cl, swapsWith (.List [e, .Constant (.int n) k p2] p3) (some (.Name z p1)) p.line (envX cn F.sc L a ccd cl) = pure false) (hr : ∀ S, SB F (C.wl ml') ((z, .mu S (.sk xs n)) :: ρ) rest r) : SB F C ρ (.Assign [.Name z p1] (.List [e, .Constant (.int n) k p2] p3) p :: rest) r :=
  ⟨fun s nl Q E P O k => wpAny_execs_cons (wpAny_Assign_Name (List_ (args_cons (he.go s nl _ _ P fun y hh tk nl1 P1 s1 r1 => args_cons (wpAny_Constant_int (args_nil (by
    obtain ⟨m, hF, hR⟩ := P1.F
    refine newList_K (s := ⟨hh, _, _, tk + 1, _⟩) hF P1.N (fun S h' F' N' hl => ?_) (sz3 (show 2 ≤ 16 by decide))
    have P' : PSt F C ρ ⟨nl1.l ++ nl1.z, [(S, listOf #[y, .int n tk] 0)]⟩ ⟨h', s.gens, s.drawn, tk + 1, s.os⟩ := P1.fresh hn hR F' N' fun p hp q hq => by rw [List.mem_singleton.mp hq]; exact Nat.ne_of_lt (hl p hp)
    exact P'.cellset (v := .mu S (.sk xs n)) hz hm hd hml ⟨rfl, 0, y, tk, rfl, r1.mono fun _ h => List.mem_append_right _ h⟩ hx fun h o' P2 => (hr S).go _ _ Q E P2 O k))) rfl) hst)) (by have := hsw C.cn C.L C.a C.ccd C.cl; rw [← P.ok.sc] at this; exact this))⟩
end

-- piece 144
-- needs: 143
theorem PSm.more {F : FI} {C : Fx} {m : Str → Option Value} {nl : LG} {s s' : Shared} {D : Addr} {o : Obj} (P : PSm F C m nl s) (hF : Fr C.g C.L s'.heap m) (N : News C.g C.L s'.heap ((D, o) :: (nl.z ++ (nl.l ++ C.ml)))) (hl : ∀ p ∈ nl.z ++ (nl.l ++ C.ml), @LT.lt Nat _ p.1 D) : PSm F C m ⟨(D, o) :: nl.z, nl.l⟩ s' :=
  ⟨P.ok, hF, N, P.off.grow hl, P.offl, fun p hp => .tail _ (P.sub p hp)⟩
section
open PyProof.Rows.LCg
variable {F : FI} {C : Fx} {ρ : Nms} {scope : Scope} {clC : List (Str × Addr)} {S : Addr} {pos p1 p2 p3 p4 p5 p6 p7 p8 p9 px : Pos} {k0 k1 k2 : Nat} {vv cc : Nat → PV}
/-- z = three draws of a number -/
theorem SB.lc3 {z : Str} {py spos : Pos} {rest : List Stmt} {r : Value} (hzx : F.sc.names.lookup z = some .local) (hz : ρ.lookup (Str.ofString "sack") = some (.mu S (cc 0))) (h1 : one (Str.ofString "sack") ρ = true) (hcl : (C.cl.lookup (Str.ofString "sack")).isSome = true) (hcc : clC.lookup (Str.ofString "sack") = C.cl.lookup (Str.ofString "sack"))
    (hpc : ∀ k, k < 3 → PC 274 5 S (cc k) [] (vv k) (cc (k + 1))) (hk5 : 5 ≤ F.k) (hxr : F.sc.names.lookup (Str.ofString "range") = some .globalImplicit)
    (hclos : closureFor scope C.env = pure clC) (hcell : ∀ y ∈ scope.names, y.2 ≠ .cell) (hkind : scope.kind = .function) (hnames : ∀ y ∈ scope.names, y.2 = .local → scope.names.lookup y.1 = some .local) (hx : scope.names.lookup (Str.ofString "turn") = some .local)
    (hk2 : ∀ Cc, (compEnvC scope clC Cc C.env).scope.kind = .function) (hg2 : ∀ Cc, (compEnvC scope clC Cc C.env).kindOf (Str.ofString "_law_number") = some .globalImplicit) (hc2 : ∀ Cc, (compEnvC scope clC Cc C.env).kindOf (Str.ofString "sack") = some .cell)
    (hst : starEach [.Constant (.int 3) k0 p4] C.env = [(false, eval (.Constant (.int 3) k0 p4) C.env)]) (hs : ∀ x, foldedSetIterable (.Call (.Name (Str.ofString "range") p3) [.Constant (.int 3) k0 p4] [] p5) C.env x = pure x)
    (hsw : ∀ cn L a ccd cl, swapsWith (.ListComp (.Call (.Name (Str.ofString "_law_number") p7) [.Name (Str.ofString "sack") p6] [] p8) [⟨.Name (Str.ofString "turn") px, .Call (.Name (Str.ofString "range") p3) [.Constant (.int 3) k0 p4] [] p5, [], 0⟩] scope pos) (some (.Name z py)) spos.line (envX cn F.sc L a ccd cl) = pure true)
    (hst2 : ∀ Cc, starEach [.Name (Str.ofString "sack") p6] (compEnvC scope clC Cc C.env) = [(false, eval (.Name (Str.ofString "sack") p6) (compEnvC scope clC Cc C.env))])
    (hr : SB F C ((z, .l3 (vv 0) (vv 1) (vv 2)) :: (Str.ofString "sack", .mu S (cc 3)) :: ρ) rest r) :
    SB F C ρ (.Assign [.Name z py] (.ListComp (.Call (.Name (Str.ofString "_law_number") p7) [.Name (Str.ofString "sack") p6] [] p8) [⟨.Name (Str.ofString "turn") px, .Call (.Name (Str.ofString "range") p3) [.Constant (.int 3) k0 p4] [] p5, [], 0⟩] scope pos) spos :: rest) r := ⟨fun s nl Q E P O q => wpAny_execs_cons (by
  obtain ⟨m, Pm, hR⟩ := P.toM
  have hM := P.at hz
  obtain ⟨yS, hyS, rS⟩ := hR _ _ hz
  obtain rfl : yS = .ref S := rS.1
  obtain ⟨aS, oS, haS, hmS, hdS⟩ : ∃ a o, C.cl.lookup (Str.ofString "sack") = some a ∧ (a, o) ∈ nl.z ∧ o.data = .cell (some (.ref S)) := by
    rcases hyS with ⟨e, _⟩ | h
    · rw [e] at hcl; cases hcl
    · exact h
  have hkd : C.cs.kind = .function := by rw [P.ok.sc]; exact P.ok.fn
  refine Assign_ListComp_U Pm.F rfl (by have := hsw C.cn C.L C.a C.ccd C.cl; rw [← P.ok.sc] at this; exact this) hclos hcell hkind hnames hx (by show C.cs.names.lookup z = _; rw [P.ok.sc]; exact hzx) (by show (C.cs.kind == .class || (C.cs.kind == .module && _)) = false; rw [hkd]; rfl) ?_ hs
  refine Call_ (nameX_B (K := hd.heap_1 C.w.params) Pm.F P.ok.X (topRead_of P.ok.T) (by rfl) (by rfl : bootBuiltins (Str.ofString "range") = some (Value.type "range")) (by decide) ?_ hkd (by show C.cs.names.lookup _ = _; rw [P.ok.sc]; exact hxr) (by decide))
  refine Pv.callWith_type1 (args_cons (wpAny_Constant_int (args_nil ?_)) hst) hst
  refine range1_rows (s := { s with toks := s.toks + 1 }) Pm.F Pm.N fun h' tk t₁ u₁ v₁ hrg F' N' hkeep => ?_
  refine CompSrc.range (n := 3) (by rfl) F' N' hrg (by decide) (by rfl) (sz3 (by decide)) fun g => ?_
  have go : ∀ (k i : Nat) (ys : List Value) (nl1 : LG), i + k = 3 → RL C.w.params nl1.z ((List.range i).map vv) ys → MAt C.w.params nl1.z nl1.l S (cc i) → (∀ p ∈ nl.z, p ∈ nl1.z) → Off nl1.z (nl1.l ++ C.ml) → Off nl1.l C.ml → (∀ p ∈ C.nw, p ∈ nl1.z) →
      CompRest PySem.Challenge.rw_sa0063_01.row.prog C.w C.A C.g C.L m C.env (.Call (.Name (Str.ofString "_law_number") p7) [.Name (Str.ofString "sack") p6] [] p8) (Str.ofString "turn") scope clC { s with heap := g, toks := tk } (fun _ => True) (fun i v => ∃ t, v = .int (0 + (i : Int)) t) (FinA C.g C.L m { s with heap := g, toks := tk } z (fun f s' => match f with | .next => wpAny (PM C) C.A (execs rest C.env) Q E s' | f => Q f s')) k i ys (nl1.z ++ (nl1.l ++ C.ml)) := by
    intro k
    induction k with
    | zero =>
      intro i ys nl1 hik hy1 hM1 hs1 ho1 hol1 hsub1
      obtain rfl : i = 3 := by omega
      refine CompRest.zero fun D h tk F2 N2 o1 => ?_
      have hlz := P.ok.lo z hzx
      have Pm' : PSm F C (fun y => if y = z then some (.ref D) else m y) ⟨(D, LCg.lst ys) :: nl1.z, nl1.l⟩ { s with heap := h, toks := tk } := ⟨P.ok, F2, N2, fun p hp q hq => by
        rcases List.mem_cons.mp hp with rfl | hp
        · exact (off1_ne o1 q (List.mem_append_right _ hq)).symm
        · exact ho1 p hp q hq, hol1, fun p hp => .tail _ (hsub1 p hp)⟩
      refine hr.go _ ⟨(D, LCg.lst ys) :: nl1.z, nl1.l⟩ Q E (Pm'.t fun x w hx => ?_) O q
      rw [List.lookup_cons] at hx
      cases hq0 : (x == z) with
      | true =>
        rw [hq0] at hx
        obtain rfl := Option.some.inj hx
        obtain rfl := eq_of_beq hq0
        exact ⟨.ref D, .inl ⟨hlz, if_pos rfl⟩, .of (its_to (v := .l3 (vv 0) (vv 1) (vv 2)) (vs := (List.range 3).map vv) rfl (.head _) (hy1.mono fun _ hp => .tail _ hp))⟩
      | false =>
        rw [hq0] at hx
        rw [List.lookup_cons] at hx
        cases hq : (x == Str.ofString "sack") with
        | true =>
          rw [hq] at hx
          obtain rfl := Option.some.inj hx
          obtain rfl := eq_of_beq hq
          exact ⟨.ref S, .inr ⟨aS, oS, haS, .tail _ (hs1 _ hmS), hdS⟩, rfl, hM1.mono fun _ h => .tail _ h⟩
        | false =>
          rw [hq] at hx
          obtain ⟨y, hy, r⟩ := hR x w hx
          cases hm : isMu w with
          | true => rw [one_eq h1 hx hm] at hq; simp at hq
          | false => exact ⟨y, (hy.mono fun p hp => .tail _ (hs1 p hp)).push hq0, .of ((r.out hm).mono fun p hp => .tail _ (hs1 p hp))⟩
    | succ k ih =>
      intro i ys nl1 hik hy1 hM1 hs1 ho1 hol1 hsub1
      refine CompRest.succ ?_
      intro v' I oI Cc oC D m₂ h tk E' hP hN hxv F1 N1 off ne
      have Pt : PSm F (C.wl ([(I, oI), (Cc, oC), (D, LCg.lst ys)] ++ C.ml)) m nl1 { s with heap := h, toks := tk } := PSm.addl (s := { s with heap := h, toks := tk }) ⟨Pm.ok, F1, fun p hp => N1 p (.tail _ (.tail _ (.tail _ hp))), ho1, hol1, hsub1⟩ F1 N1 (off3_X off)
      refine Call_ (LCgL.ld_global Pt.F Pt.ok.X Pt.ok.T (gf_274.hn _) ?_ rfl (hk2 Cc) (hg2 Cc) (by decide))
      refine callWith_K Pt.ok.X (gf_274.hk _) (args_cons (lcf_cell Pt.N (hcc.trans haS) (Pt.mem (hs1 _ hmS)) hdS (args_nil ⟨Pt.ok.X.keeps (Fr.keep Pt.F), ?_⟩) (hk2 Cc) (hc2 Cc) (by decide)) (hst2 Cc)) (hst2 Cc) rfl
      refine Pt.callC (hpc i (by omega)) hk5 hM1 .nil fun y h2 tk2 nl2 P2 hM2 hs2 r2 => ?_
      have hoff := off3_of (PSm.offX (C := C) (X := [(I, oI), (Cc, oC), (D, LCg.lst ys)]) P2 fun p hp => off3_X off p (List.mem_append_right _ (List.mem_append_right _ hp)))
      have P3 := PSm.dropl (C := C) (X := [(I, oI), (Cc, oC), (D, LCg.lst ys)]) P2
      refine CompEnd.intro P2.F P2.N (nl2.z ++ (nl2.l ++ C.ml)) sub3 hoff trivial (ih (i + 1) _ nl2 (by omega) ?_ hM2 (fun p hp => hs2 p (hs1 p hp)) P3.off P3.offl P3.sub)
      rw [List.range_succ, List.map_append]
      exact (hy1.mono hs2).app (.cons r2 .nil)
  exact go 3 0 [] nl (Nat.zero_add _) .nil hM (fun _ h => h) Pm.off Pm.offl Pm.sub)⟩
end

-- piece 145
-- needs: 144 137
section
variable {prog : Program} {w : World} {A : Around} {s : Shared}
theorem join3 {E : Value → Shared → Prop} {Q : Value → Shared → Prop} {D : Addr} {a b c : PySem.Str} {t t0 t1 t2 : Tok} (hl : s.heap.IsList D #[.str a t0, .str b t1, .str c t2]) (ha : a.length ≤ 500) (hb : b.length ≤ 500) (hc : c.length ≤ 500)
    (h : ∀ t' k, Q (.str (a ++ b ++ c) t') { s with toks := k }) : wpAny (model prog w) A (PySem.call (.builtin "str.join") [.str (PySem.Str.ofString "") t, .ref D]) Q E s := by
  refine join_listW (ys := [a, b, c]) hl (.cons _ _ (.cons _ _ (.cons _ _ .nil))) (by decide +kernel) ?_ fun t' k => ?_
  · simp only [List.map_cons, List.map_nil, List.sum_cons, List.sum_nil, List.length_cons, List.length_nil]; omega
  · have e : Txt.join (PySem.Str.ofString "") [a, b, c] = a ++ b ++ c := by
      show Builtin.Str.glued _ _ = _
      rw [StrLaws.glued_eq_join, o_empty]
      show a ++ St [] ++ (b ++ St [] ++ c) = _
      refine lz_inj ?_
      simp only [lz_append, lz_st, List.append_nil, List.append_assoc]
    rw [e]; exact h t' k
theorem brT_len (x : PySem.Str) : (brT x).length = x.length + 2 := by
  rw [← lz_length, lz_brT]; simp only [List.length_cons, List.length_append, List.length_nil, lz_length]
end
section
open PyProof.Rows.LCg
variable {F : FI} {C : Fx} {ρ : Nms} {scope : Scope} {clC : List (Str × Addr)} {x : PySem.Str} {pl : Sem Bool} {pos p1 p2 p3 p4 p5 p6 p7 p8 p9 q1 q2 q3 q4 q5 px : Pos} {k0 k1 k2 : Nat} {vv : Nat → PV} {tt : Nat → PySem.Str}
/-- '<' + using_text(plain, [value]) + '>' -/
abbrev brE (p1 p2 p3 p4 p5 p6 p7 p8 p9 : Pos) (k1 k2 : Nat) : PySem.Expr := .BinOp (.BinOp (.Constant (.str (Str.ofString "<")) k1 p1) .Add (.Call (.Name (Str.ofString "using_text") p2) [.Name (Str.ofString "plain") p3, .List [.Name (Str.ofString "value") p4] p5] [] p6) p7) .Add (.Constant (.str (Str.ofString ">")) k2 p8) p9
theorem EV.joinV (hz : ρ.lookup (Str.ofString "values") = some (.l3 (vv 0) (vv 1) (vv 2))) (hzx : F.sc.names.lookup (Str.ofString "values") = some .local) (hp : ρ.lookup (Str.ofString "plain") = some (.s x)) (hcl : (C.cl.lookup (Str.ofString "plain")).isSome = true) (hcc : clC.lookup (Str.ofString "plain") = C.cl.lookup (Str.ofString "plain"))
    (hU : ∀ k, k < 3 → PF 203 10 [.s x, .l1 (vv k)] (.s (tt k))) (hk10 : 10 ≤ F.k) (hl : ∀ k, (tt k).length ≤ 400)
    (hclos : closureFor scope C.env = pure clC) (hcell : ∀ y ∈ scope.names, y.2 ≠ .cell) (hkind : scope.kind = .function) (hnames : ∀ y ∈ scope.names, y.2 = .local → scope.names.lookup y.1 = some .local) (hx : scope.names.lookup (Str.ofString "value") = some .local)
    (hk2 : ∀ Cc, (compEnvC scope clC Cc C.env).scope.kind = .function) (hg2 : ∀ Cc, (compEnvC scope clC Cc C.env).kindOf (Str.ofString "using_text") = some .globalImplicit) (hc2 : ∀ Cc, (compEnvC scope clC Cc C.env).kindOf (Str.ofString "plain") = some .cell) (hv2 : ∀ Cc, (compEnvC scope clC Cc C.env).kindOf (Str.ofString "value") = some .local)
    (hs : ∀ x, foldedSetIterable (.Name (Str.ofString "values") q1) C.env x = pure x)
    (hst : starEach [.ListComp (brE p1 p2 p3 p4 p5 p6 p7 p8 p9 k1 k2) [⟨.Name (Str.ofString "value") px, .Name (Str.ofString "values") q1, [], 0⟩] scope pos] C.env = [(false, eval (.ListComp (brE p1 p2 p3 p4 p5 p6 p7 p8 p9 k1 k2) [⟨.Name (Str.ofString "value") px, .Name (Str.ofString "values") q1, [], 0⟩] scope pos) C.env)])
    (hmc : eval (.Call (.Attribute (.Constant (.str (Str.ofString "")) k0 q2) (Str.ofString "join") q3) [.ListComp (brE p1 p2 p3 p4 p5 p6 p7 p8 p9 k1 k2) [⟨.Name (Str.ofString "value") px, .Name (Str.ofString "values") q1, [], 0⟩] scope pos] [] q4) C.env = (do
      let ov ← eval (.Constant (.str (Str.ofString "")) k0 q2) C.env
      standAt q3.atName
      let (f, first) ← holding [ov] (getMethod ov (Str.ofString "join") pl)
      callWith q4 f first (backTo q4 (starEach [.ListComp (brE p1 p2 p3 p4 p5 p6 p7 p8 p9 k1 k2) [⟨.Name (Str.ofString "value") px, .Name (Str.ofString "values") q1, [], 0⟩] scope pos] C.env)) [])) :
    EV F C ρ (.Call (.Attribute (.Constant (.str (Str.ofString "")) k0 q2) (Str.ofString "join") q3) [.ListComp (brE p1 p2 p3 p4 p5 p6 p7 p8 p9 k1 k2) [⟨.Name (Str.ofString "value") px, .Name (Str.ofString "values") q1, [], 0⟩] scope pos] [] q4) (.s (brT (tt 0) ++ brT (tt 1) ++ brT (tt 2))) := ⟨fun s nl Q E P q => by
  refine MethodCall_ (pl := pl) (Calls.Constant_str (GM.join (callWith_method1 (args_cons ?_ hst) hst))) hmc
  obtain ⟨m, Pm, hR⟩ := (P.tk (k := s.toks + 1)).toM
  obtain ⟨yV, hyV, rV⟩ := hR _ _ hz
  have hyV := hyV.loc (P.ok.lo _ hzx)
  obtain ⟨yP, hyP, rP⟩ := hR _ _ hp
  obtain ⟨tP, rfl⟩ := rP.out rfl
  obtain ⟨aP, oP, haP, hmP, hdP⟩ : ∃ a o, C.cl.lookup (Str.ofString "plain") = some a ∧ (a, o) ∈ nl.z ∧ o.data = .cell (some (.str x tP)) := by
    rcases hyP with ⟨e, _⟩ | h
    · rw [e] at hcl; cases hcl
    · exact h
  obtain ⟨D0, ys0, n0, rfl, hm0, r0⟩ := its_of (vs := (List.range 3).map vv) rfl (rV.out rfl)
  have hl0 := r0.len
  rw [List.length_map, List.length_range] at hl0
  refine ListComp_U Pm.F hclos hcell hkind hnames hx (Pm.name hyV hzx (by decide) ?_) hs
  refine CompSrc.ledger (by rfl) Pm.F Pm.N (Pm.mem hm0) (sz3 (by rw [List.size_toArray]; omega)) fun g => ?_
  rw [List.size_toArray]
  have go : ∀ (k i : Nat) (ys : List Value) (nl1 : LG), i + k = ys0.length → RL C.w.params nl1.z ((List.range i).map fun k => .s (brT (tt k))) ys → nl1.l = nl.l → (∀ p ∈ nl.z, p ∈ nl1.z) → Off nl1.z (nl1.l ++ C.ml) → (∀ p ∈ C.nw, p ∈ nl1.z) →
      CompRest PySem.Challenge.rw_sa0063_01.row.prog C.w C.A C.g C.L m C.env (brE p1 p2 p3 p4 p5 p6 p7 p8 p9 k1 k2) (Str.ofString "value") scope clC { s with heap := g, toks := s.toks + 1 } (SrcAt C.g D0 (List.toArray ys0)) (fun i v => (List.toArray ys0)[i]? = some v)
        (FinE C.g C.L m { s with heap := g, toks := s.toks + 1 } (fun v s₁ => wpAny (PM C) C.A (spliced (backTo q4 (starEach [] C.env))) (fun vs s₂ => wpAny (PM C) C.A (PySem.call (.builtin "str.join") ([.str (Str.ofString "") s.toks] ++ v :: vs)) Q E s₂) E s₁)) k i ys (nl1.z ++ (nl1.l ++ C.ml)) := by
    intro k
    induction k with
    | zero =>
      intro i ys nl1 hik hy1 hl1 hs1 ho1 hsub1
      obtain rfl : i = 3 := by omega
      refine CompRest.zero fun D h tk F2 N2 o1 => args_nil ?_
      obtain _ | ⟨⟨t0, e0⟩, hy1⟩ := hy1; obtain _ | ⟨⟨t1, e1⟩, hy1⟩ := hy1; obtain _ | ⟨⟨t2, e2⟩, hy1⟩ := hy1; obtain _ | _ := hy1
      subst e0; subst e1; subst e2
      have hb := fun k => brT_len (tt k)
      refine join3 (News.isList N2 (.head _)) (by rw [hb]; have := hl 0; omega) (by rw [hb]; have := hl 1; omega) (by rw [hb]; have := hl 2; omega) fun t' k' => ?_
      have Pm' : PSm F C m ⟨_ :: nl1.z, nl1.l⟩ { s with heap := h, toks := k' } := Pm.fin F2 N2 o1 ho1 (by rw [hl1]; exact Pm.offl) hsub1
      exact q _ h k' _ (Pm'.t (hR.mono (fun p hp => .tail _ (hs1 p hp)) hl1)) (fun p hp => .tail _ (hs1 p hp)) ⟨_, rfl⟩
    | succ k ih =>
      intro i ys nl1 hik hy1 hl1 hs1 ho1 hsub1
      refine CompRest.succ ?_
      intro vv1 I oI Cc oC D m₂ h tk E' hv hN hxv F1 N1 off ne
      have hol1 : Off nl1.l C.ml := by rw [hl1]; exact Pm.offl
      have Pt : PSm F (C.wl ([(I, oI), (Cc, oC), (D, LCg.lst ys)] ++ C.ml)) m nl1 { s with heap := h, toks := tk } := PSm.addl (s := { s with heap := h, toks := tk }) ⟨Pm.ok, F1, fun p hp => N1 p (.tail _ (.tail _ (.tail _ hp))), ho1, hol1, hsub1⟩ F1 N1 (off3_X off)
      have hi' : i < 3 := by omega
      have hu : ((List.range 3).map vv)[i]? = some (vv i) := by rw [List.getElem?_map, List.getElem?_range hi']; rfl
      obtain ⟨y, hy', ru⟩ := r0.at hu
      have hv : ys0[i]? = some vv1 := by simpa using hv
      obtain rfl : y = vv1 := by rw [hv] at hy'; exact (Option.some.inj hy').symm
      refine wpAny_BinOp (wpAny_BinOp (Calls.Constant_str ?_))
      refine Call_ (LCgL.ld_global (s := { s with heap := h, toks := tk + 1 }) Pt.F Pt.ok.X Pt.ok.T (gf_203.hn _) ?_ rfl (hk2 Cc) (hg2 Cc) (by decide))
      have Pt1 : PSm F (C.wl ([(I, oI), (Cc, oC), (D, LCg.lst ys)] ++ C.ml)) m nl1 { s with heap := h, toks := tk + 1 } := Pt.tk
      refine callWith_K Pt.ok.X (gf_203.hk _) (args_cons (lcf_cell Pt1.N (hcc.trans haP) (Pt1.mem (hs1 _ hmP)) hdP (args_cons (List_ (args_cons (LCgL.ld_own Pt1.N (List.mem_append_right _ (List.mem_append_right _ (.tail _ (.head _)))) hN hxv (args_nil ?_) (hk2 Cc) (hv2 Cc) (by decide)) rfl)) rfl) (hk2 Cc) (hc2 Cc) (by decide)) rfl) rfl rfl
      refine newList_K Pt1.F Pt1.N (fun D2 h2 F2 N2 hl2 => args_nil ⟨Pt.ok.X.keeps (Fr.keep F2), ?_⟩) (sz3 (show 1 ≤ 16 by decide))
      have Pt2 : PSm F (C.wl ([(I, oI), (Cc, oC), (D, LCg.lst ys)] ++ C.ml)) m ⟨(D2, listOf #[y] 0) :: nl1.z, nl1.l⟩ { s with heap := h2, toks := tk + 1 } := Pt1.more (s' := { s with heap := h2, toks := tk + 1 }) F2 N2 hl2
      refine Pt2.call (hU i hi') hk10 (.cons ⟨tP, rfl⟩ (.cons ⟨D2, y, 0, rfl, .head _, ru.mono fun p hp => .tail _ (hs1 p hp)⟩ .nil)) fun y3 h3 tk3 nl3 P3 hl3 hs3 r3 => ?_
      obtain ⟨t3, rfl⟩ := r3
      have hti := hl i
      refine KOpn.add (by have : (Str.ofString "<").length = 1 := by decide +kernel
                          omega) fun _ _ _ => Calls.Constant_str (KOpn.add (by
                          have : (Str.ofString "<").length = 1 := by decide +kernel
                          have : (Str.ofString ">").length = 1 := by decide +kernel
                          rw [PySem.Str.length_append]; omega) fun _ _ _ => ?_)
      have hS : SrcAt C.g D0 (List.toArray ys0) (nl3.z ++ (nl3.l ++ C.ml)) := .inr ⟨_, List.mem_append_left _ (hs3 _ (.tail _ (hs1 _ hm0))), rfl, _, rfl⟩
      have hoff := off3_of (PSm.offX (C := C) (X := [(I, oI), (Cc, oC), (D, LCg.lst ys)]) P3 fun p hp => off3_X off p (List.mem_append_right _ (List.mem_append_right _ hp)))
      have P4 := PSm.dropl (C := C) (X := [(I, oI), (Cc, oC), (D, LCg.lst ys)]) P3
      refine CompEnd.intro P3.F P3.N (nl3.z ++ (nl3.l ++ C.ml)) sub3 hoff hS (ih (i + 1) _ nl3 (by omega) ?_ (hl3.trans hl1) (fun p hp => hs3 p (.tail _ (hs1 p hp))) P4.off P4.sub)
      rw [List.range_succ, List.map_append]
      exact (hy1.mono fun p hp => hs3 p (.tail _ hp)).app (.cons ⟨_, rfl⟩ .nil)
  exact go ys0.length 0 [] nl (Nat.zero_add _) .nil rfl (fun _ h => h) Pm.off Pm.sub⟩
end

-- piece 146
-- needs: 145 139 114
/-- the way into the law's def -/
theorem law_enter {w : World} {mean : ExcName → Option Value} {mg mb : Str → Option Value} {nm : Str} {sc : Scope} {fa wg : Addr} {cd : Value} {b : List Stmt} {g h1 : Heap} {m : Str → Option Value} {o1 o0 : Obj} {s : Shared} {tk : Nat} {Q : Flow → Shared → Prop} {E : Value → Shared → Prop}
    (hS : ∀ (dp un : Nat) (gd : Option (List Code)), SB ⟨sc, 14⟩ ⟨w, mean, mg, mb, dp, un, gd, nm, sc, g.objs.size, fa, cd, cellsFrom (g.objs.size + 1) sc.names [], [], callerA, g, g, [], [(g.objs.size + 1, o0), (g.objs.size + 1 + 1, o1)]⟩ [(Str.ofString "script", .f wg)] b (.bool true))
    (B : Below callerA g [] g) (X : (hd.heap_1 w.params).In g) (T : Top vw (looseW vw [Str.ofString "BasicError"]) mean mg mb g) (hfn : sc.kind = .function) (hlo : ∀ z, sc.names.lookup z = some .local → (cellsFrom (g.objs.size + 1) sc.names []).lookup z = none)
    (F : Fr g g.objs.size h1 m) (hm : m (Str.ofString "script") = some (.ref wg)) (hcs : (cellsFrom (g.objs.size + 1) sc.names []).lookup (Str.ofString "script") = none) (N : News g g.objs.size h1 [(g.objs.size + 1 + 1, o1), (g.objs.size + 1, o0)])
    (O : PassesOwn (model PySem.Challenge.rw_sa0063_01.row.prog w) (callerA.deeper (envOfC nm sc g.objs.size fa cd)) (envOfC nm sc g.objs.size fa cd) E) (k : ∀ h tk m, Fr g g.objs.size h m → Q (.ret (.bool true)) { s with heap := h, toks := tk }) :
    wpAny (model PySem.Challenge.rw_sa0063_01.row.prog w) (callerA.deeper (envOfC nm sc g.objs.size fa cd)) (execs b (envOfC nm sc g.objs.size fa cd)) Q E { s with heap := h1, toks := tk } := by
  refine (hS (callerA.deeper (envOfC nm sc g.objs.size fa cd)).depth (callerA.deeper (envOfC nm sc g.objs.size fa cd)).units (callerA.deeper (envOfC nm sc g.objs.size fa cd)).guards).go { s with heap := h1, toks := tk } ⟨[], []⟩ Q E ?_ O k
  refine ⟨⟨B, X, T, rfl, hfn, ?_, ?_, hlo⟩, ⟨m, F, fun x y hx => ?_⟩, fun p hp => N p ?_, (fun _ h => nomatch h), (fun _ h => nomatch h), (fun _ h => nomatch h)⟩
  · show callerA.depth + 1 + 14 < recursionLimit; decide
  · show callerA.units + 3 + 8 * 14 < cLine; decide
  · rw [List.lookup_cons] at hx
    cases hq : (x == Str.ofString "script") with
    | true =>
      rw [hq] at hx
      obtain rfl := Option.some.inj hx
      obtain rfl := eq_of_beq hq
      exact ⟨.ref wg, .inl ⟨hcs, hm⟩, rfl⟩
    | false => rw [hq] at hx; cases hx
  · rcases List.mem_cons.mp hp with rfl | hp
    · exact .tail _ (.head _)
    · exact (List.mem_singleton.mp hp) ▸ .head _
/-- the three numbers -/
theorem law_numbers (S : Addr) (xs : List Int) (hx : xs.length ≤ 63) : ∃ (vv : Nat → PV) (cn en : Nat → Int) (cc : Nat → PV) (t : Int), cc 0 = .sk xs 0 ∧ cc 3 = .sk xs t ∧ 0 ≤ t ∧ t ≤ 12 ∧ (∀ k, ValOk (cn k) (en k) ∧ NVal (vv k) (cn k) (en k)) ∧ ∀ k, k < 3 → PC 274 5 S (cc k) [] (vv k) (cc (k + 1)) := by
  obtain ⟨v0, c0, e0, t1, ok0, nv0, a0, b0, pc0⟩ := law_number_pc S xs 0 hx (by decide) (by decide)
  obtain ⟨v1, c1, e1, t2, ok1, nv1, a1, b1, pc1⟩ := law_number_pc S xs t1 hx (by omega) (by omega)
  obtain ⟨v2, c2, e2, t3, ok2, nv2, a2, b2, pc2⟩ := law_number_pc S xs t2 hx (by omega) (by omega)
  refine ⟨fun k => match k with | 0 => v0 | 1 => v1 | _ => v2, fun k => match k with | 0 => c0 | 1 => c1 | _ => c2, fun k => match k with | 0 => e0 | 1 => e1 | _ => e2, fun k => match k with | 0 => .sk xs 0 | 1 => .sk xs t1 | 2 => .sk xs t2 | _ => .sk xs t3, t3, rfl, rfl, by omega, by omega, fun k => ?_, fun k hk => ?_⟩
  · match k with
    | 0 => exact ⟨ok0, nv0⟩
    | 1 => exact ⟨ok1, nv1⟩
    | _ + 2 => exact ⟨ok2, nv2⟩
  · match k with
    | 0 => exact pc0
    | 1 => exact pc1
    | 2 => exact pc2
    | _ + 3 => omega
theorem decimal_of_pf {v : PV} {c e : Int} (hv : NVal v c e) (hok : ValOk c e) : PF 65 4 [v, .i 9] (.t2 (.i (mad c e 9).1) (.i (mad c e 9).2)) := by
  have h1 := hok.1
  have h2 := hok.2.1
  have h3 := hok.2.2.1
  have h20 : (10 : Int) ^ 6 < 10 ^ 20 := by decide
  rcases hv with ⟨rfl, rfl⟩ | rfl
  · exact decimal_of_i_pf c (by omega)
  · exact decimal_of_t_pf c e (by omega) (by omega) (by omega)
theorem using3_b {x : PySem.Str} {p : Pic} {R : Int} (h : PlF x R p) {vv : Nat → PV} {cn en : Nat → Int} (hv : ∀ k, ValOk (cn k) (en k) ∧ NVal (vv k) (cn k) (en k)) : PF 203 10 [.s (brT x), .l3 (vv 0) (vv 1) (vv 2)] (.s (acc3 (St [60]) (St [62]) (fun k => St (shw p (cn k) (en k))) 3)) := by
  obtain ⟨⟨n, _, _, _, _, _⟩, h2, _, _, ⟨r1, r2, r3, r4, r5, r6, r7⟩, h6⟩ := h
  have n1 : ∀ s, s = St [60] ∨ s = St [62] → (s == PySem.Str.ofString "!") = false ∧ (s == PySem.Str.ofString "&") = false ∧ (s == PySem.Str.ofString "_") = false ∧ (s == PySem.Str.ofString "\\") = false ∧ ((PySem.Str.ofString "" ++ s) != PySem.Str.ofString "") = true := by
    rintro s (rfl | rfl) <;> decide +kernel
  have i0 := n1 _ (.inl r5)
  have i1 := n1 _ (.inr r6)
  have z0 : Txt.item (brT x) (0 + 1 - 1) = Txt.item (brT x) 0 := rfl
  have z1 : Txt.item (brT x) (0 + 1 + (x.length : Int) + 1 - 1) = Txt.item (brT x) (0 + 1 + x.length) := by rw [show (0 + 1 + (x.length : Int) + 1 - 1) = 0 + 1 + (x.length : Int) by omega]
  have ea : PySem.Str.ofString "" ++ Txt.item (brT x) (0 + 1 - 1) = St [60] := by rw [z0, r5, o_empty, st_append]; rfl
  have eb : PySem.Str.ofString "" ++ Txt.item (brT x) (0 + 1 + (x.length : Int) + 1 - 1) = St [62] := by rw [z1, r6, o_empty, st_append]; rfl
  exact using3_pf (brT x) p x.length vv cn en (St [60]) (St [62]) (read_pieces3_pf (brT x) p x.length (St [60]) (St [62]) r1 r2 r3 r4 i0.1 i0.2.1 i0.2.2.1 i0.2.2.2.1 i1.1 i1.2.1 i1.2.2.1 i1.2.2.2.1 (by rw [z0]; exact i0.2.2.2.2) (by rw [z1]; exact i1.2.2.2.2) ea eb rfl rfl (by omega) (by omega)) rfl rfl
    (fun k => (hv k).2) h2 (fun k => (valOk_bd (hv k).1).1) (fun k => (valOk_bd (hv k).1).2.1) (fun k => (valOk_bd (hv k).1).2.2)
/-- the whole text is the three -/
theorem whole_eq (S : Nat → List Nat) : acc3 (St [60]) (St [62]) (fun k => St (S k)) 3 = brT (St (S 0)) ++ brT (St (S 1)) ++ brT (St (S 2)) := by
  refine lz_inj ?_
  simp only [acc3, brT, lz_append, o_lt, o_gt, o_empty, lz_st, List.append_assoc, List.nil_append]
theorem forB3 {F : FI} {C : Fx} {z : Str} {body : List Stmt} {K : Out → Prop} {vv : Nat → PV} {ρf : Nat → Nms} (h : ∀ k, k < 3 → ∀ ml, SS F (C.wl ml) ((z, vv k) :: ρf k) body (KJ (ρf (k + 1)) K)) : ForB F C z body K [vv 0, vv 1, vv 2] (ρf 0) (ρf 3) :=
  ⟨ρf 1, h 0 (by decide), ρf 2, h 1 (by decide), ρf 3, h 2 (by decide), fun _ _ h => h⟩
/-- the sizes so far -/
def szs (z : Nat → PV) : Nat → PV
  | 0 => .l0
  | 1 => .l1 (z 0)
  | 2 => .l2 (z 0) (z 1)
  | _ => .l3 (z 0) (z 1) (z 2)
theorem szs_its (z : Nat → PV) : ∀ k, k ≤ 3 → its (szs z k) = some ((List.range k).map z)
  | 0, _ => rfl
  | 1, _ => rfl
  | 2, _ => rfl
  | 3, _ => rfl
  | _ + 4, h => by omega

-- piece 147
-- needs: 146
section
local macro_rules | `(tactic| walk_at "P w") => `(tactic| first | exact EV.nmC (by rfl) (by rfl) (by rfl) (by decide) | exact EV.nmMC (by rfl) (by rfl) (by rfl) (by decide))
local macro_rules | `(tactic| walk_at "P menu") => `(tactic| exact (rfl : _ = List.map PV.s [PySem.Str.ofString "", PySem.Str.ofString "**"]))
theorem law_holds : PySem.Challenge.rw_sa0063_01.Holds := hd (by
  k_go0
  (all_goals try k_fold)
  rename_i w s0 s1 mg mb G Y fa o pm doc ho hg X Xm V GL T Bt TE TW wa wb M wc wd hcd ns hs hlay0 hL1 hr1 hl2 we wf wg vs wh hL ra w1 r0 I hr hlen hcond B hD h1 tk1 F o1 o0 hc1 hc0 N X0
  replace hc0 : o0.data = Data.cell none := hc0
  replace hc1 : o1.data = Data.cell none := hc1
  refine law_enter (wg := wg) (o0 := o0) (o1 := o1) (fun dp un gd => ?_) B X T rfl ?_ F rfl rfl N ?_ ?_
  · clear Y ho Xm V GL Bt TE TW M hcd hD X0 N F B G
    refine SB.sack (a := s1.heap.objs.size + 1) (o := o0) (ml' := [(s1.heap.objs.size + 1 + 1, o1)]) (vo := none) (EV.cutI (by walk_at "P v") hL I (by omega) (by decide) (by intros; with_unfolding_all rfl) (by intros; with_unfolding_all rfl)) (by rfl) (by rfl) rfl hc0 ?_ (by rfl) (by rfl) (by intros; with_unfolding_all rfl) fun S => ?_
    · intro p hp
      rw [List.mem_singleton.mp hp]
      show s1.heap.objs.size + 1 + 1 ≠ s1.heap.objs.size + 1
      omega
    have hx : (ns.take (40 : Int).toNat).length ≤ 63 := by rw [List.length_take]; omega
    generalize ns.take (40 : Int).toNat = xs at hx ⊢
    clear hlen hr I r0 ra hL hr1 hl2 hL1 hlay0 hs
    obtain ⟨vv, cn, en, cc, t, hc0', hc3, ht0, ht1, hnum, hpc⟩ := law_numbers S xs hx
    rw [← hc0']
    refine SB.lc3 (hcc := ?hcc) (by rfl) (by rfl) (by rfl) (by rfl) hpc (by decide) (by rfl) (by with_unfolding_all rfl) (by decide) (by rfl) (by decide) (by rfl) (by intros; rfl) (by intros; rfl) (by intros; rfl) (by rfl) (by intros; rfl) (by intros; with_unfolding_all rfl) (by intros; rfl) ?_
    case hcc => rfl
    rw [hc3]
    clear hc3 hc0' hpc
    obtain ⟨x, R, t', hPL, a1, a2, pc⟩ := law_picture_pc S xs t hx ht0 (by omega)
    obtain ⟨p, hPF⟩ := plF_of hPL
    refine SB.asgC (a := s1.heap.objs.size + 1 + 1) (o := o1) (ml' := []) (vo := none) (EV.callM (zn := Str.ofString "sack") gf_281 (EA.cons (by walk_at "P v") .nil (by rfl)) (by rfl) (by rfl) pc (by decide) (by rfl) (by decide) (by rfl) (by rfl)) (by rfl) rfl hc1 (fun _ h => nomatch h) (by rfl) (by rfl) (by intros; with_unfolding_all rfl) (by intros; with_unfolding_all rfl) (SB.of ?_)
    have q4 := drw_bd (xs := xs) (t := t') (b := 4) (by decide)
    have q5 := drw_bd (xs := xs) (t := t' + 1) (b := 4) (by decide)
    have q6 := drw_bd (xs := xs) (t := t' + 1 + 1) (b := 2) (by decide)
    have q7 := drw_bd (xs := xs) (t := t' + 1 + 1 + 1) (b := 2) (by decide)
    have q8 := drw_bd (xs := xs) (t := t' + 1 + 1 + 1 + 1) (b := 3) (by decide)
    have m2 := menu2_len (drw xs (t' + 1 + 1) 2).toNat
    have hxl := hPF.len
    have hR : 0 ≤ R ∧ R ≤ 4 := by
      have h1 := hPF.rt
      have h2 := hPF.pl.2.2.1
      have h3 := hPF.pl.2.2.2.1
      exact ⟨by omega, by omega⟩
    walk_at "P s"
    have w1 : (PySem.Str.ofString "^^^^").length = 4 := by decide +kernel
    have w2 : (PySem.Str.ofString "<").length = 1 := by decide +kernel
    have w3 : (PySem.Str.ofString ">").length = 1 := by decide +kernel
    have w4 : (PySem.Str.ofString "").length = 0 := by decide +kernel
    refine SS.asg (v := .s (powS (2 + drw xs t' 4) (drw xs (t' + 1) 4))) (?_ : EV _ _ _ _ _) (by rfl) (by intros; with_unfolding_all rfl) ?_
    · by_cases hr : 0 < drw xs (t' + 1) 4
      · refine EV.cast (EV.cat (EV.cat (by walk_at "P v") (EV.ifT (EB.cast (by walk_at "P b") (decide_eq_true hr)) (by walk_at "P v")) (by walk_at "P sz")) EV.str (by walk_at "P sz")) ?_
        unfold powS; rw [if_pos hr]
      · refine EV.cast (EV.cat (EV.cat (by walk_at "P v") (EV.ifF (EB.cast (by walk_at "P b") (decide_eq_false hr)) EV.str) (by walk_at "P sz")) EV.str (by walk_at "P sz")) ?_
        unfold powS; rw [if_neg hr]
    refine SS.asg (v := .s (widS (drw xs (t' + 1 + 1) 2) (drw xs (t' + 1 + 1 + 1) 2) (drw xs (t' + 1 + 1 + 1 + 1) 3))) (EV.cat (EV.cat (EV.cat (EV.cat (EV.cast (v2 := .s (menu2 (drw xs (t' + 1 + 1) 2).toNat)) (by walk_at "P v") rfl) (by walk_at "P v") (by walk_at "P sz")) (by walk_at "P v") (by walk_at "P sz")) EV.str (by walk_at "P sz")) (by walk_at "P v") (by walk_at "P sz")) (by rfl) (by intros; with_unfolding_all rfl) ?_
    clear m2
    generalize drw xs t' 4 = k4 at *
    generalize drw xs (t' + 1) 4 = r4 at *
    generalize drw xs (t' + 1 + 1) 2 = ka at *
    generalize drw xs (t' + 1 + 1 + 1) 2 = kc at *
    generalize drw xs (t' + 1 + 1 + 1 + 1) 3 = kh at *
    refine SS.env (ρ' := [(Str.ofString "values", .l3 (vv 0) (vv 1) (vv 2)), (Str.ofString "plain", .s x), (Str.ofString "behind", .i R), (Str.ofString "power", .s (powS (2 + k4) r4)), (Str.ofString "places", .i (2 + k4)), (Str.ofString "right", .i r4), (Str.ofString "wide", .s (widS ka kc kh))]) (.cons rfl (.cons rfl (.cons rfl (.cons rfl (.cons rfl (.cons rfl (.cons rfl .nil))))))) ?_
    refine SS.newL (by rfl) (by rfl) (by intros; with_unfolding_all rfl) fun Z => ?_
    obtain ⟨sz, hsz⟩ : ∃ sz : Nat → PV, sz = fun k => .t2 (.i ((mad (cn k) (en k) 9).1.natAbs)) (.i (mad (cn k) (en k) 9).2) := ⟨_, rfl⟩
    refine SS.for (v := .l3 (vv 0) (vv 1) (vv 2)) (by walk_at "P v") rfl (forB3 (vv := vv) (ρf := fun k => [(Str.ofString "sizes", .mu Z (szs sz k)), (Str.ofString "values", .l3 (vv 0) (vv 1) (vv 2)), (Str.ofString "plain", .s x), (Str.ofString "behind", .i R), (Str.ofString "power", .s (powS (2 + k4) r4)), (Str.ofString "places", .i (2 + k4)), (Str.ofString "right", .i r4), (Str.ofString "wide", .s (widS ka kc kh))]) fun k hk ml => ?_) (by rfl) ?_ (by intros; rfl)
    · obtain ⟨hok, hnv⟩ := hnum k
      have hmv : isMu (vv k) = false := by rcases hnv with ⟨h, _⟩ | h <;> rw [h] <;> rfl
      have hm := valOk_made hok
      have g1 := hm.1
      have g2 := hm.2.1
      have g3 := hm.2.2.1
      have g4 : (10 : Int) ^ 6 < 10 ^ 19 := by decide
      have g5 : (10 : Int) ^ 6 < 10 ^ 20 := by decide
      refine SS.asg (EV.call gf_65 (EA.cons (EV.nm (by rfl) (by rfl) (by decide) hmv) (by walk_at "P a") (by rfl)) (decimal_of_pf hnv hok) (by decide) (by rfl) (by decide) (by rfl) (by rfl)) (by rfl) (by intros; with_unfolding_all rfl) ?_
      have s1 := shown_right_pf x (vv k) _ _ _ _ hnv (showOk_plain hPF hok rfl rfl)
      have s2 := shown_right_pf (powS (2 + k4) r4) (vv k) _ _ _ _ hnv (showOk_pow (by omega) (by omega) q5.1 q5.2 hok rfl rfl)
      refine SS.ifF (EB.cast (EB.not (EB.call (EV.call gf_293 (EA.cons (by walk_at "P v") (EA.cons (EV.nm (by rfl) (by rfl) (by decide) hmv) (EA.cons (EV.call gf_232 (by walk_at "P a") (d_round_pf _ _ _ (by omega) (by omega) (by omega) hR.1 (by omega)) (by decide) (by rfl) (by decide) (by rfl) (by rfl)) .nil (by rfl)) (by rfl)) (by rfl)) s1 (by decide) (by rfl) (by decide) (by rfl) (by rfl)))) rfl) (SS.nil ?_)
      refine SS.ifF (EB.cast (EB.not (EB.call (EV.call gf_293 (EA.cons (by walk_at "P v") (EA.cons (EV.nm (by rfl) (by rfl) (by decide) hmv) (EA.cons (EV.call gf_58 (EA.cons (EV.fst (by walk_at "P v")) (EA.cons (EV.snd (by walk_at "P v")) (EA.cons (by walk_at "P v") .nil (by rfl)) (by rfl)) (by rfl)) (made_pf _ _ (2 + k4 - 1 + r4) (by omega) (by omega) (by omega) (by omega)) (by decide) (by rfl) (by decide) (by rfl) (by rfl)) .nil (by rfl)) (by rfl)) (by rfl)) s2 (by decide) (by rfl) (by decide) (by rfl) (by rfl)))) rfl) (SS.nil ?_)
      refine SS.append (c' := szs sz (k + 1)) (v := sz k) (by rfl) (szs_its sz k (by omega)) (?_ : EV _ _ _ _ _) (by rfl) (by unfold one; rw [List.all_cons, List.all_cons, hmv]; rfl) (by rfl) (by decide) (szs_its sz k (by omega)) (by rw [szs_its sz (k + 1) (by omega), List.range_succ, List.map_append]; rfl) (by rfl) (by intros; with_unfolding_all rfl) (by rfl) (SS.nil ?_)
      · rw [hsz]
        exact EV.call gf_211 (by walk_at "P a") (d_size_pf _ _) (by decide) (by rfl) (by decide) (by rfl) (by rfl)
      · exact .cons rfl (.cons rfl (.cons rfl (.cons rfl (.cons rfl (.cons rfl (.cons rfl (.cons rfl .nil)))))))
    · have hok := fun k => (hnum k).1
      have o1 := order_right_pf (widS ka kc kh) (sz 0) (sz 1) _ _ _ _ (by rw [hsz]; exact .inr rfl) (by rw [hsz]; exact .inr rfl) (orderOk_of q6.1 q6.2 q7.1 q7.2 q8.1 q8.2 (valOk_made (hok 0)) (valOk_made (hok 1)))
      have o2 := order_right_pf (widS ka kc kh) (sz 1) (sz 2) _ _ _ _ (by rw [hsz]; exact .inr rfl) (by rw [hsz]; exact .inr rfl) (orderOk_of q6.1 q6.2 q7.1 q7.2 q8.1 q8.2 (valOk_made (hok 1)) (valOk_made (hok 2)))
      have hu := using3_b hPF hnum
      have hu1 : ∀ k, k < 3 → PF 203 10 [.s x, .l1 (vv k)] (.s (St (shw p (cn k) (en k)))) := fun k _ => using1_b x p (vv k) (cn k) (en k) hPF.tx (hnum k).2 hPF.gp (valOk_bd (hok k)).1 (valOk_bd (hok k)).2.1 (valOk_bd (hok k)).2.2
      have hl4 : ∀ k, (St (shw p (cn k) (en k))).length ≤ 400 := fun k => shw_len p (cn k) (en k) hPF.gp (valOk_bd (hok k)).1 (valOk_bd (hok k)).2.1 (valOk_bd (hok k)).2.2
      clear hsz
      refine SS.frz (ρ' := [(Str.ofString "sizes", .l3 (sz 0) (sz 1) (sz 2)), (Str.ofString "wide", .s (widS ka kc kh)), (Str.ofString "values", .l3 (vv 0) (vv 1) (vv 2)), (Str.ofString "plain", .s x)]) (.mu rfl (.cons rfl (.cons rfl (.cons rfl .nil)))) ?_
      refine SS.ifF (EB.cast (b := (!true || (!true || false))) (EB.row (EL.or (EB.not (EB.call (EV.call gf_300 (EA.cons (by walk_at "P v") (EA.cons (EV.itL (k := 0) (by walk_at "P v") rfl (by walk_at "P v") rfl rfl (by intros; with_unfolding_all rfl) (by intros; with_unfolding_all rfl)) (EA.cons (EV.itL (k := 1) (by walk_at "P v") rfl (by walk_at "P v") rfl rfl (by intros; with_unfolding_all rfl) (by intros; with_unfolding_all rfl)) .nil (by rfl)) (by rfl)) (by rfl)) o1 (by decide) (by rfl) (by decide) (by rfl) (by rfl)))) fun _ => EL.or (EB.not (EB.call (EV.call gf_300 (EA.cons (by walk_at "P v") (EA.cons (EV.itL (k := 1) (by walk_at "P v") rfl (by walk_at "P v") rfl rfl (by intros; with_unfolding_all rfl) (by intros; with_unfolding_all rfl)) (EA.cons (EV.itL (k := 2) (by walk_at "P v") rfl (by walk_at "P v") rfl rfl (by intros; with_unfolding_all rfl) (by intros; with_unfolding_all rfl)) .nil (by rfl)) (by rfl)) (by rfl)) o2 (by decide) (by rfl) (by decide) (by rfl) (by rfl)))) fun _ => EL.or0)) rfl) (SS.nil ?_)
      refine SS.asg (EV.call gf_203 (EA.cons (EV.cast (v2 := .s (brT x)) (EV.cat (EV.cat EV.str (by walk_at "P v") (by omega)) EV.str (by walk_at "P sz")) rfl) (by walk_at "P a") (by rfl)) hu (by decide) (by rfl) (by decide) (by rfl) (by rfl)) (by rfl) (by intros; with_unfolding_all rfl) ?_
      refine SS.ret (EV.cast (EV.eqS (by walk_at "P v") (EV.joinV (vv := vv) (tt := fun k => St (shw p (cn k) (en k))) (hcc := ?hcc) (by rfl) (by rfl) (by rfl) (by rfl) hu1 (by decide) hl4 (by with_unfolding_all rfl) (by decide) (by rfl) (by decide) (by rfl) (by intros; rfl) (by intros; rfl) (by intros; rfl) (by intros; rfl) (by intros; rfl) (by rfl) (by rfl)) (by rfl)) ?_) rfl
      case hcc => rfl
      rw [whole_eq, beq_self_eq_true]
  · intro z hz
    cases e1 : (z == Str.ofString "plain") with
    | true => rw [eq_of_beq e1] at hz; exact absurd hz (by decide)
    | false =>
      cases e2 : (z == Str.ofString "sack") with
      | true => rw [eq_of_beq e2] at hz; exact absurd hz (by decide)
      | false =>
        show List.lookup z [(Str.ofString "plain", _), (Str.ofString "sack", _)] = none
        rw [List.lookup_cons, e1, List.lookup_cons, e2]; rfl
  · passes_own
  · intro h tk m F9
    refine goodW_bool F9 hg (raisesW_false ?_) ?_
    · wrow_none_raised
    · wrow_post)
end

end Mine
theorem PySem.Challenge.cw_sa0063_01_holds : PySem.Challenge.rw_sa0063_01.Holds := by
  exact Mine.law_holds
