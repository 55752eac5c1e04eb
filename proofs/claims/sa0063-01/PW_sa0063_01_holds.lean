import PyProof.Rows.All
import Wide.All
import OpenK.AllK
import Wide.FinOn
import Lean
import PySem.Challenge.RW_sa0063_01
open PySem PySem.W PySem.Calls PyProof.Rows
set_option Elab.async false
set_option maxRecDepth 100000
set_option maxHeartbeats 8000000
namespace Mine
open_top hd for PySem.Challenge.rw_sa0063_01
-- piece 01
-- needs: -
-- pure
def figs (n : Int) : Int := if h : n < 10 then 1 else 1 + figs (n / 10)
termination_by n.toNat
decreasing_by omega
theorem figs_small {n : Int} (h : n < 10) : figs n = 1 := by rw [figs]; simp [h]
theorem figs_big {n : Int} (h : ¬ n < 10) : figs n = 1 + figs (n / 10) := by rw [figs]; simp [h]
theorem figs_pos (n : Int) : 1 ≤ figs n := by
  by_cases h : n < 10
  · rw [figs_small h]; decide
  · rw [figs_big h]; have := figs_pos (n / 10); omega
termination_by n.toNat
decreasing_by omega
theorem pow10_pos (k : Nat) : (1 : Int) ≤ 10 ^ k := by
  induction k with
  | zero => decide
  | succ k ih => rw [Int.pow_succ]; omega
theorem pow10_succ (k : Nat) : (10 : Int) ^ (k + 1) = 10 ^ k * 10 := Int.pow_succ _ _
/-- 10 ^ k ≤ n < 10 ^ (k + 1) says that n has k + 1 figures -/
theorem figs_of {n : Int} {k : Nat} (h1 : 10 ^ k ≤ n) (h2 : n < 10 ^ (k + 1)) : figs n = k + 1 := by
  induction k generalizing n with
  | zero => rw [figs_small (by simpa using h2)]; rfl
  | succ k ih =>
    rw [pow10_succ] at h1 h2
    have hp := pow10_pos k
    have h : ¬ n < 10 := by omega
    rw [figs_big h, ih (n := n / 10) (by omega) (by rw [pow10_succ] at *; omega)]
    omega
def FigW (n many bound : Int) : Prop := ∃ k : Nat, many = (k : Int) + 1 ∧ bound = 10 ^ (k + 1) ∧ (k = 0 ∨ 10 ^ k ≤ n) ∧ 10 ≤ bound
theorem figW0 {n : Int} : FigW n 1 10 := ⟨0, rfl, rfl, .inl rfl, by decide⟩
theorem figW1 {n many bound : Int} (h : FigW n many bound) (hb : bound ≤ n) : FigW n (many + 1) (bound * 10) := by
  obtain ⟨k, h1, h2, h3, h4⟩ := h
  exact ⟨k + 1, by omega, by rw [h2, Int.pow_succ _ (k+1)], .inr (by rw [← h2]; exact hb), by omega⟩
theorem figs_end {n many bound : Int} (h : FigW n many bound) (hb : ¬ bound ≤ n) : many = figs n := by
  obtain ⟨k, h1, h2, h3, h4⟩ := h
  rw [h2] at hb
  rcases h3 with rfl | h3
  · rw [figs_small (by simpa using hb)]; simpa using h1
  · rw [figs_of h3 (by omega), h1]
theorem figW_pos {n many bound : Int} (h : FigW n many bound) (hb : bound ≤ n) : (n + 1 - bound * 10).toNat < (n + 1 - bound).toNat := by
  obtain ⟨k, h1, h2, h3, h4⟩ := h
  omega

-- piece 02
-- needs: 01
-- pure
/-- rounded_by: half to even at 10 ^ p -/
def rnd (n p : Int) : Int :=
  if p ≤ 0 then n else if figs n + 1 < p then 0 else
    if 10 ^ p.toNat < 2 * (n % 10 ^ p.toNat) ∨ (2 * (n % 10 ^ p.toNat) = 10 ^ p.toNat ∧ n / 10 ^ p.toNat % 2 = 1) then n / 10 ^ p.toNat + 1 else n / 10 ^ p.toNat
theorem pow10_lt (k : Nat) : (0 : Int) < 10 ^ k := by have := pow10_pos k; omega
theorem pow10_log {k : Nat} (h : k ≤ 200) : ((10 : Int) ^ k).natAbs.log2 < 9000 := by
  have e : ((10 : Int) ^ k).natAbs = 10 ^ k := by rw [Int.natAbs_pow]; rfl
  rw [e]
  have h1 : 10 ^ k ≤ 10 ^ 200 := Nat.pow_le_pow_right (by decide) h
  have h2 : (10 : Nat) ^ k ≠ 0 := Nat.ne_of_gt (Nat.pow_pos (by decide))
  rw [Nat.log2_lt h2]
  exact Nat.lt_of_le_of_lt h1 (by decide +kernel)
theorem fdiv_pos {a b : Int} (h : 0 < b) : a.fdiv b = a / b := Int.fdiv_eq_ediv_of_nonneg _ (by omega)
theorem fmod_pos {a b : Int} (h : 0 < b) : a.fmod b = a % b := Int.fmod_eq_emod_of_nonneg _ (by omega)

/-- half to even: n at 10 ^ k -/
def hlf (n : Int) (k : Nat) : Int := if 10 ^ k < 2 * (n % 10 ^ k) ∨ (2 * (n % 10 ^ k) = 10 ^ k ∧ n / 10 ^ k % 2 = 1) then n / 10 ^ k + 1 else n / 10 ^ k
theorem rnd_hlf {n p : Int} (h0 : ¬ p ≤ 0) (h1 : ¬ figs n + 1 < p) : rnd n p = hlf n p.toNat := by
  unfold rnd hlf
  rw [if_neg h0, if_neg h1]

-- piece 03
-- needs: 02
-- pure
theorem figs_ten {s : Int} (h : 0 < s) (hm : s % 10 = 0) : figs s = 1 + figs (s / 10) := figs_big (by omega)
def stripZ (s e : Int) : Int × Int := if h : 0 < s ∧ s % 10 = 0 then stripZ (s / 10) (e + 1) else (s, e)
termination_by s.toNat
decreasing_by omega
theorem stripZ_go {s e : Int} (h : 0 < s) (hm : s % 10 = 0) : stripZ s e = stripZ (s / 10) (e + 1) := by rw [stripZ, dif_pos ⟨h, hm⟩]
theorem stripZ_end {s e : Int} (hm : s % 10 ≠ 0) : stripZ s e = (s, e) := by rw [stripZ, dif_neg fun h => hm h.2]
theorem lt_pow_figs {n : Int} : n < 10 ^ (figs n).toNat := by
  by_cases h : n < 10
  · rw [figs_small h]; simpa using h
  · have ih := lt_pow_figs (n := n / 10)
    have hp := figs_pos (n / 10)
    rw [figs_big h, show (1 + figs (n / 10)).toNat = (figs (n / 10)).toNat + 1 from by omega, pow10_succ]
    omega
termination_by n.toNat
decreasing_by omega
theorem figs_le {n : Int} {k : Nat} (hk : 1 ≤ k) (h : n < 10 ^ k) : figs n ≤ k := by
  induction k generalizing n with
  | zero => omega
  | succ k ih =>
    by_cases h1 : n < 10
    · rw [figs_small h1]; omega
    · rw [figs_big h1]
      by_cases hk0 : k = 0
      · subst hk0; simp at h; omega
      · rw [pow10_succ] at h
        have := ih (n := n / 10) (by omega) (by omega)
        omega
theorem pow10_le {a b : Nat} (h : a ≤ b) : (10 : Int) ^ a ≤ 10 ^ b := by
  obtain ⟨c, rfl⟩ := Nat.exists_eq_add_of_le h
  rw [Int.pow_add]
  have h1 := pow10_pos a; have h2 := pow10_pos c
  calc (10 : Int) ^ a = 10 ^ a * 1 := by omega
    _ ≤ 10 ^ a * 10 ^ c := Int.mul_le_mul_of_nonneg_left h2 (by omega)
theorem rnd_nonneg {n p : Int} (h : 0 ≤ n) : 0 ≤ rnd n p := by
  unfold rnd
  have hq : 0 ≤ n / 10 ^ p.toNat := Int.ediv_nonneg h (Int.le_of_lt (pow10_lt _))
  (repeat' split) <;> omega
theorem div_mul_bounds {n : Int} (k : Nat) : 10 ^ k * (n / 10 ^ k) ≤ n ∧ n < 10 ^ k * (n / 10 ^ k) + 10 ^ k := by
  have h1 := Int.mul_ediv_add_emod n (10 ^ k)
  have h2 := Int.emod_nonneg n (Int.ne_of_gt (pow10_lt k))
  have h3 := Int.emod_lt_of_pos n (pow10_lt k)
  omega
/-- rounding at p figures gives at most 10 ^ (figs - p) -/
theorem rnd_le {n p : Int} (hp : 0 < p) (hf : p ≤ figs n) : rnd n p ≤ 10 ^ (figs n - p).toNat := by
  have h1 : n < 10 ^ (figs n).toNat := lt_pow_figs
  have e : (figs n).toNat = p.toNat + (figs n - p).toNat := by omega
  rw [e, Int.pow_add] at h1
  have h3 : n / 10 ^ p.toNat < 10 ^ (figs n - p).toNat := Int.ediv_lt_of_lt_mul (pow10_lt _) (by rw [Int.mul_comm]; exact h1)
  unfold rnd
  (repeat' split) <;> omega
/-- what made gives where it neither overflows nor vanishes -/
def mad (c e d : Int) : Int × Int :=
  if figs c.natAbs - d > 0 then
    (if rnd c.natAbs (figs c.natAbs - d) = 0 then (0, 0) else
      (if c < 0 then -(stripZ (rnd c.natAbs (figs c.natAbs - d)) (e + (figs c.natAbs - d))).1 else (stripZ (rnd c.natAbs (figs c.natAbs - d)) (e + (figs c.natAbs - d))).1,
       (stripZ (rnd c.natAbs (figs c.natAbs - d)) (e + (figs c.natAbs - d))).2))
  else if (c.natAbs : Int) = 0 then (0, 0) else
    (if c < 0 then -(stripZ c.natAbs e).1 else (stripZ c.natAbs e).1, (stripZ c.natAbs e).2)

theorem figs_mono {a b : Int} (h : a ≤ b) : figs a ≤ figs b := by
  have h1 := lt_pow_figs (n := b)
  have h2 := figs_pos b
  have := figs_le (n := a) (k := (figs b).toNat) (by omega) (by omega)
  omega
theorem figs_pow (k : Nat) : figs (10 ^ k) = k + 1 := figs_of (Int.le_refl _) (by rw [pow10_succ]; have := pow10_pos k; omega)
theorem figs_rnd {n d : Int} (hd : 0 ≤ d) (hp : 0 < figs n - d) : figs (rnd n (figs n - d)) ≤ d + 1 := by
  have h := rnd_le hp (show figs n - d ≤ figs n by omega)
  have h2 := figs_mono h
  rw [figs_pow] at h2
  omega
def MadW (s0 e0 s e : Int) : Prop := 0 < s ∧ stripZ s e = stripZ s0 e0 ∧ e + figs s ≤ 99 ∧ -98 ≤ e + figs s
theorem madW0 {s e : Int} (h0 : 0 ≤ s) (hn : s ≠ 0) (h1 : e + figs s ≤ 99) (h2 : -98 ≤ e + figs s) : MadW s e s e := ⟨by omega, rfl, h1, h2⟩
theorem madW1 {s0 e0 s e : Int} (h : MadW s0 e0 s e) (hm : s % 10 = 0) : MadW s0 e0 (s / 10) (e + 1) := by
  obtain ⟨h1, h2, h3, h4⟩ := h
  have hf := figs_ten h1 hm
  exact ⟨by omega, by rw [← h2, stripZ_go h1 hm], by omega, by omega⟩
theorem madW_m {s0 e0 s e : Int} (h : MadW s0 e0 s e) (hm : s % 10 = 0) : (s / 10).toNat < s.toNat := by
  have := h.1; omega
theorem madW_end {s0 e0 s e : Int} (h : MadW s0 e0 s e) (hm : ¬ s % 10 = 0) : stripZ s0 e0 = (s, e) ∧ e + figs s ≤ 99 ∧ -98 ≤ e + figs s := ⟨by rw [← h.2.1, stripZ_end hm], h.2.2⟩
theorem mad_zero {e d : Int} (hd : 1 ≤ d) : mad 0 e d = (0, 0) := by
  unfold mad
  have h : figs ((0 : Int).natAbs : Int) = 1 := figs_small (by decide)
  rw [h, if_neg (by omega), if_pos (show ((0 : Int).natAbs : Int) = 0 from rfl)]

theorem hlf_far {n : Int} (h : 0 ≤ n) : hlf n (figs n + 1).toNat = 0 := by
  have h1 := lt_pow_figs (n := n)
  have h2 := figs_pos n
  have e : (figs n + 1).toNat = (figs n).toNat + 1 := by omega
  have h3 : n < 10 ^ (figs n + 1).toNat := by rw [e, pow10_succ]; have := pow10_pos (figs n).toNat; omega
  have h4 : n / 10 ^ (figs n + 1).toNat = 0 := Int.ediv_eq_zero_of_lt h h3
  have h5 : n % 10 ^ (figs n + 1).toNat = n := Int.emod_eq_of_lt h h3
  have h6 : 2 * n < 10 ^ (figs n + 1).toNat := by rw [e, pow10_succ]; omega
  unfold hlf
  rw [h4, h5, if_neg (by omega)]
theorem rnd_min {n p : Int} (h : 0 ≤ n) (hp : ¬ p ≤ 0) : hlf n (min p (figs n + 1)).toNat = rnd n p := by
  by_cases h1 : figs n + 1 < p
  · rw [show min p (figs n + 1) = figs n + 1 by omega, hlf_far h]
    unfold rnd
    rw [if_neg hp, if_pos h1]
  · rw [show min p (figs n + 1) = p by omega, rnd_hlf hp h1]
theorem rnd_lt {n p : Int} {k : Nat} (h0 : 0 ≤ n) (hn : n < 10 ^ k) : rnd n p ≤ 10 ^ k := by
  unfold rnd
  have hq : n / 10 ^ p.toNat ≤ n := Int.ediv_le_self _ h0
  (repeat' split) <;> omega
/-- d_round -/
def drd (c e p : Int) : Int × Int := if 0 - p - e ≤ 0 then (c, e) else if c = 0 then (c, e) else
  if rnd c.natAbs (0 - p - e) = 0 then (0, 0) else mad (if 0 < c then rnd c.natAbs (0 - p - e) else 0 - rnd c.natAbs (0 - p - e)) (e + (0 - p - e)) 9
/-- scaled -/
def scl (c e p : Int) : Int := if 0 ≤ e + p then c * 10 ^ (e + p).toNat else rnd c (-e - p)
theorem scl_bd {c e p : Int} (h0 : 0 ≤ c) (hc : c < 10 ^ 12) (h : e + p ≤ 30) : 0 ≤ scl c e p ∧ figs (scl c e p) ≤ 50 := by
  unfold scl
  split
  · have hp := pow10_pos (e + p).toNat
    refine ⟨Int.mul_nonneg h0 (by omega), ?_⟩
    refine figs_le (k := 50) (by decide) ?_
    have h1 : (10 : Int) ^ (e + p).toNat ≤ 10 ^ 30 := pow10_le (by omega)
    have h2 : c * 10 ^ (e + p).toNat ≤ 10 ^ 12 * 10 ^ (e + p).toNat := Int.mul_le_mul_of_nonneg_right (by omega) (by omega)
    have h3 : (10 : Int) ^ 12 * 10 ^ (e + p).toNat ≤ 10 ^ 12 * 10 ^ 30 := Int.mul_le_mul_of_nonneg_left h1 (by decide)
    have h4 : (10 : Int) ^ 12 * 10 ^ 30 < 10 ^ 50 := by decide
    omega
  · have h1 := rnd_nonneg (n := c) (p := -e - p) h0
    have h2 := rnd_lt (n := c) (p := -e - p) (k := 12) h0 hc
    exact ⟨h1, figs_le (k := 50) (by decide) (by have : (10 : Int) ^ 12 < 10 ^ 50 := by decide
                                                 omega)⟩

-- piece 04
-- needs: 03
-- pure
open PyProof PySem.Builtin.Str
abbrev Lz (x : PySem.Str) : List Nat := x.cps.toList
abbrev St (l : List Nat) : PySem.Str := ⟨l.toArray⟩
theorem lz_st (l : List Nat) : Lz (St l) = l := rfl
theorem st_lz (x : PySem.Str) : St (Lz x) = x := rfl
theorem lz_append (x y : PySem.Str) : Lz (x ++ y) = Lz x ++ Lz y := by
  show (x ++ y).cps.toList = _
  rw [PySem.Str.cps_append, Array.toList_append]
theorem lz_length (x : PySem.Str) : (Lz x).length = x.length := rfl
theorem lz_inj {x y : PySem.Str} (h : Lz x = Lz y) : x = y := by
  obtain ⟨a⟩ := x; obtain ⟨b⟩ := y
  have h' : a = b := Array.toList_inj.mp h
  rw [h']
theorem beq_lz (x y : PySem.Str) : (x == y) = (Lz x == Lz y) := by
  by_cases h : x = y
  · subst h; simp
  · have h2 : Lz x ≠ Lz y := fun e => h (lz_inj e)
    rw [beq_eq_false_iff_ne.mpr h, beq_eq_false_iff_ne.mpr h2]
def clipN (v : Option Int) (d n : Nat) : Nat := match v with
  | none => d
  | some i => (max 0 (min (if i < 0 then i + n else i) (n : Int))).toNat
theorem range_plain {a b : Nat} : sliceRange (a : Int) (b : Int) 1 = (List.range (b - a)).map fun k => a + k := by
  unfold sliceRange
  have e1 : ((1 : Int) > 0) = True := by simp
  simp only [e1, if_true]
  by_cases h : (a : Int) < b
  · rw [if_pos h, show (((b : Int) - a + 1 - 1) / 1).toNat = b - a by rw [Int.ediv_one]; omega]
    exact List.map_congr_left fun k _ => by omega
  · rw [if_neg h, show b - a = 0 by omega]; rfl
theorem sidx_gen (lo hi : Option Int) (n : Nat) : strSliceIndices lo hi 1 n = (List.range (clipN hi n n - clipN lo 0 n)).map fun k => clipN lo 0 n + k := by
  rw [← range_plain]
  unfold strSliceIndices
  have e1 : ((1 : Int) > 0) = True := by simp
  simp only [e1, if_true]
  congr 1
  · cases lo with
    | none => rfl
    | some i => unfold clipN; simp only; omega
  · cases hi with
    | none => rfl
    | some i => unfold clipN; simp only; omega
theorem picks_gen (l : List Nat) (a m : Nat) (h : a + m ≤ l.length) : ((List.range m).map fun k => a + k).filterMap (l[·]?) = (l.drop a).take m := by
  have := StrLaws.picks l m a h
  simpa using this
theorem slice_lz (x : PySem.Str) (lo hi : Option Int) : Lz (Txt.slice x lo hi) = ((Lz x).drop (clipN lo 0 x.length)).take (clipN hi x.length x.length - clipN lo 0 x.length) := by
  have hb : clipN hi x.length x.length ≤ x.length := by cases hi <;> (unfold clipN; simp only; omega)
  have ha : clipN lo 0 x.length ≤ x.length := by cases lo <;> (unfold clipN; simp only; omega)
  have hp := picks_gen (Lz x) (clipN lo 0 x.length) (clipN hi x.length x.length - clipN lo 0 x.length) (by rw [lz_length]; omega)
  unfold Txt.slice
  split
  · rename_i he
    rw [sidx_gen] at he
    simp only [BEq.rfl, Bool.true_and, List.length_map, List.length_range, beq_iff_eq] at he
    have e0 : clipN lo 0 x.length = 0 := by omega
    have e1 : clipN hi x.length x.length = x.length := by omega
    rw [e0, e1, List.drop_zero, Nat.sub_zero, ← lz_length, List.take_length]
  · rw [sidx_gen]
    show List.filterMap (fun i => x.cps[i]?) _ = _
    rw [← hp]
    congr 1
    funext i
    exact (Array.getElem?_toList).symm

-- piece 05
-- needs: 04
-- pure
theorem ofs_eq {s : String} {l : List Nat} (h : PySem.Str.ofString s = St l) : Lz (PySem.Str.ofString s) = l := by rw [h]
/-- padded_figures -/
def padL (n k : Int) (f : List Nat) : List Nat := if 0 < n ∨ (f.length : Int) < k then padL (n / 10) k ((48 + (n % 10).toNat) :: f) else f
termination_by n.toNat + (k - f.length).toNat
decreasing_by
  rename_i h
  simp only [List.length_cons]
  rcases h with h | h <;> omega
theorem padL_go {n k : Int} {f : List Nat} (h : 0 < n ∨ (f.length : Int) < k) : padL n k f = padL (n / 10) k ((48 + (n % 10).toNat) :: f) := by rw [padL, if_pos h]
theorem padL_end {n k : Int} {f : List Nat} (h : ¬ (0 < n ∨ (f.length : Int) < k)) : padL n k f = f := by rw [padL, if_neg h]
theorem item_digit {n : Int} : Txt.item (PySem.Str.ofString "0123456789") (n % 10) = St [48 + (n % 10).toNat] := by
  have h : ∀ k : Nat, k < 10 → Txt.item (PySem.Str.ofString "0123456789") (k : Int) = St [48 + k] := by decide +kernel
  have h2 := h (n % 10).toNat (by omega)
  rwa [show (((n % 10).toNat : Nat) : Int) = n % 10 by omega] at h2
def PadW (n0 k : Int) (found : PySem.Str) (n : Int) : Prop :=
  padL n k (Lz found) = padL n0 k [] ∧ 0 ≤ n ∧ (0 < n → (found.length : Int) + figs n ≤ 50) ∧ found.length ≤ 101
theorem padW0 {n k : Int} (h0 : 0 ≤ n) (h : figs n ≤ 50) : PadW n k (PySem.Str.ofString "") n :=
  ⟨by rw [ofs_eq (l := []) (by decide +kernel)], h0, fun _ => by rw [show (PySem.Str.ofString "").length = 0 by decide +kernel]; omega, by decide +kernel⟩
theorem padW1 {n0 k n : Int} {found : PySem.Str} (hk : k ≤ 100) (h : PadW n0 k found n) (hc : 0 < n ∨ (found.length : Int) < k) : PadW n0 k (Txt.item (PySem.Str.ofString "0123456789") (n % 10) ++ found) (n / 10) := by
  obtain ⟨h1, h2, h3, h4⟩ := h
  have hl : (Txt.item (PySem.Str.ofString "0123456789") (n % 10) ++ found).length = found.length + 1 := by rw [PySem.Str.length_append, item_digit]; show 1 + _ = _; omega
  refine ⟨?_, by omega, fun hn => ?_, ?_⟩
  · rw [← h1, lz_append, item_digit, lz_st, padL_go (f := Lz found) hc]; rfl
  · rw [hl]
    have := h3 (by omega)
    have := figs_big (n := n) (by omega)
    omega
  · rw [hl]
    rcases hc with hc | hc
    · have := h3 hc; have := figs_pos n; omega
    · omega
theorem padW_m {n0 k n : Int} {found : PySem.Str} (h : PadW n0 k found n) (hc : 0 < n ∨ (found.length : Int) < k) :
    (n / 10).toNat + (k - (Txt.item (PySem.Str.ofString "0123456789") (n % 10) ++ found).length).toNat < n.toNat + (k - found.length).toNat := by
  have hl : (Txt.item (PySem.Str.ofString "0123456789") (n % 10) ++ found).length = found.length + 1 := by rw [PySem.Str.length_append, item_digit]; show 1 + _ = _; omega
  have h2 := h.2.1
  rw [hl]
  rcases hc with hc | hc <;> omega
theorem padW_len {n0 k n : Int} {found : PySem.Str} (h : PadW n0 k found n) : found.length ≤ 101 := h.2.2.2
theorem padW_end {n0 k n : Int} {found : PySem.Str} (h : PadW n0 k found n) (hc : ¬ 0 < n) (hc' : ¬ (found.length : Int) < k) : found = St (padL n0 k []) := by
  rw [← h.1, padL_end (by rw [lz_length]; omega)]
theorem padL_length {n k : Int} {f : List Nat} (h0 : 0 ≤ n) : (padL n k f).length = max (f.length + (if n = 0 then 0 else (figs n).toNat)) (max f.length k.toNat) := by
  by_cases hc : 0 < n ∨ (f.length : Int) < k
  · rw [padL_go hc, padL_length (n := n / 10) (by omega)]
    simp only [List.length_cons]
    have hp := figs_pos (n / 10)
    by_cases h10 : n < 10
    · have e : n / 10 = 0 := by omega
      rw [if_pos e]
      by_cases hz : n = 0
      · rw [if_pos hz]; omega
      · rw [if_neg hz, figs_small h10]; omega
    · rw [if_neg (by omega), if_neg (by omega), figs_big h10]; omega
  · rw [padL_end hc]
    have : n = 0 := by omega
    rw [if_pos this]; omega
termination_by n.toNat + (k - f.length).toNat
decreasing_by
  simp only [List.length_cons]
  rcases hc with h | h <;> omega
theorem padL_le {n k : Int} (h0 : 0 ≤ n) (hn : figs n ≤ 50) (hk : k ≤ 50) : (St (padL n k [])).length ≤ 50 := by
  show (padL n k []).length ≤ 50
  rw [padL_length h0]
  simp only [List.length_nil]
  split <;> omega

-- piece 06
-- needs: 05
-- pure
/-- grouped -/
def grpL (x f : List Nat) : List Nat :=
  if h : 3 < x.length then grpL (x.take (x.length - 3)) ((x.take (x.length - 3)).drop ((x.take (x.length - 3)).length - 3) ++ 44 :: f) else f
termination_by x.length
decreasing_by simp only [List.length_take]; omega
theorem grpL_go {x f : List Nat} (h : 3 < x.length) : grpL x f = grpL (x.take (x.length - 3)) ((x.take (x.length - 3)).drop ((x.take (x.length - 3)).length - 3) ++ 44 :: f) := by rw [grpL, dif_pos h]
theorem grpL_end {x f : List Nat} (h : ¬ 3 < x.length) : grpL x f = f := by rw [grpL, dif_neg h]
def grp (x : List Nat) : List Nat := grpL x (x.drop (x.length - 3))
theorem lz_last3 (x : PySem.Str) : Lz (Txt.slice x (some (-3)) none) = (Lz x).drop ((Lz x).length - 3) := by
  rw [slice_lz]
  unfold clipN
  simp only [lz_length]
  rw [List.take_of_length_le (by rw [List.length_drop, lz_length]; omega)]
  congr 1
  omega
theorem lz_but3 (x : PySem.Str) : Lz (Txt.slice x none (some (-3))) = (Lz x).take ((Lz x).length - 3) := by
  rw [slice_lz]
  unfold clipN
  simp only [lz_length, List.drop_zero]
  congr 1
  omega
def GrpW (x0 figures found : PySem.Str) : Prop := grpL (Lz figures) (Lz found) = grp (Lz x0) ∧ figures.length ≤ 100 ∧ found.length + 2 * figures.length ≤ 203
theorem grpW0 {x : PySem.Str} (h : x.length ≤ 100) : GrpW x x (Txt.slice x (some (-3)) none) := by
  refine ⟨by rw [lz_last3]; rfl, h, ?_⟩
  rw [← lz_length (Txt.slice x _ _), lz_last3, List.length_drop, lz_length]
  omega
theorem ofs_comma : Lz (PySem.Str.ofString ",") = [44] := by decide +kernel
theorem len_comma : (PySem.Str.ofString ",").length = 1 := by decide +kernel
theorem len_last3 (x : PySem.Str) : (Txt.slice x (some (-3)) none).length = min 3 x.length := by
  rw [← lz_length, lz_last3, List.length_drop, lz_length]; omega
theorem len_but3 (x : PySem.Str) : (Txt.slice x none (some (-3))).length = x.length - 3 := by
  rw [← lz_length, lz_but3, List.length_take, lz_length]; omega
theorem grpW1 {x0 figures found : PySem.Str} (h : GrpW x0 figures found) (hc : 3 < (figures.length : Int)) :
    GrpW x0 (Txt.slice figures none (some (-3))) (Txt.slice (Txt.slice figures none (some (-3))) (some (-3)) none ++ PySem.Str.ofString "," ++ found) := by
  obtain ⟨h1, h2, h3⟩ := h
  refine ⟨?_, ?_, ?_⟩
  · rw [← h1, lz_append, lz_append, lz_last3, lz_but3, ofs_comma, grpL_go (x := Lz figures) (by rw [lz_length]; omega)]
    simp
  · rw [len_but3]; omega
  · rw [PySem.Str.length_append, PySem.Str.length_append, len_last3, len_but3, len_comma]; omega
theorem grpW_m {figures : PySem.Str} (hc : 3 < (figures.length : Int)) : (Txt.slice figures none (some (-3))).length < figures.length := by rw [len_but3]; omega
theorem grpW_len {x0 figures found : PySem.Str} (h : GrpW x0 figures found) : figures.length ≤ 100 ∧ found.length ≤ 203 := ⟨h.2.1, by have := h.2.2; omega⟩
theorem grpW_end {x0 figures found : PySem.Str} (h : GrpW x0 figures found) (hc : ¬ 3 < (figures.length : Int)) : found = St (grp (Lz x0)) := by
  rw [← h.1, grpL_end (by rw [lz_length]; omega)]
/-- run_of_figures: the number, and where it ends -/
def runF (x : List Nat) (a : Nat) (f : Int) : Int × Nat :=
  if h : a < x.length then (if 48 ≤ x[a] ∧ x[a] ≤ 57 then runF x (a + 1) (10 * f + x[a] - 48) else (f, a)) else (f, a)
termination_by x.length - a
theorem runF_go {x : List Nat} {a : Nat} {f : Int} {c : Nat} (h : x[a]? = some c) (h1 : 48 ≤ c) (h2 : c ≤ 57) : runF x a f = runF x (a + 1) (10 * f + c - 48) := by
  obtain ⟨hl, rfl⟩ := List.getElem?_eq_some_iff.mp h
  rw [runF, dif_pos hl, if_pos ⟨h1, h2⟩]
theorem runF_end {x : List Nat} {a : Nat} {f : Int} (h : ∀ c, x[a]? = some c → ¬ (48 ≤ c ∧ c ≤ 57)) : runF x a f = (f, a) := by
  rw [runF]
  split
  · rename_i hl
    rw [if_neg (h _ (List.getElem?_eq_getElem hl))]
  · rfl
theorem item_lz {x : PySem.Str} {i : Int} (h0 : 0 ≤ i) (h1 : i < x.length) : ∃ c, (Lz x)[i.toNat]? = some c ∧ Txt.item x i = St [c] := by
  have hl : i.toNat < (Lz x).length := by rw [lz_length]; omega
  refine ⟨(Lz x)[i.toNat], List.getElem?_eq_getElem hl, ?_⟩
  have hs : seqIndex? i x.length = some i.toNat := by
    unfold seqIndex?
    have e1 : ¬ i < 0 := by omega
    have e2 : (decide (0 ≤ i) && decide (i < (x.length : Int))) = true := by simp [h0, h1]
    simp only [e1, if_false, e2, if_true]
  have hc : Txt.charAt x i = some (Lz x)[i.toNat] := by
    unfold Txt.charAt
    rw [hs, Option.bind_some]
    show x.cps[i.toNat]? = _
    rw [← Array.getElem?_toList]
    exact List.getElem?_eq_getElem hl
  unfold Txt.item
  rw [hc]
  rfl
theorem lt_one {a b : Nat} : ([a] < [b]) ↔ a < b := by rw [List.cons_lt_cons_iff]; simp
theorem ofs_0 : (PySem.Str.ofString "0").cps.toList = [48] := by decide +kernel
theorem ofs_9 : (PySem.Str.ofString "9").cps.toList = [57] := by decide +kernel
theorem runW0 {x : PySem.Str} {a : Int} (h0 : 0 ≤ a) (h1 : a ≤ x.length) : 0 ≤ a ∧ a ≤ x.length ∧ a ≤ a ∧ runF (Lz x) a.toNat 0 = runF (Lz x) a.toNat 0 := ⟨h0, h1, Int.le_refl _, rfl⟩
theorem runW1 {x : PySem.Str} {a0 a f : Int} (h : 0 ≤ a ∧ a ≤ x.length ∧ a0 ≤ a ∧ runF (Lz x) a.toNat f = runF (Lz x) a0.toNat 0) (hl : a < x.length)
    (h1 : ¬ (Txt.item x a).cps.toList < (PySem.Str.ofString "0").cps.toList) (h2 : ¬ (PySem.Str.ofString "9").cps.toList < (Txt.item x a).cps.toList) :
    0 ≤ a + 1 ∧ a + 1 ≤ x.length ∧ a0 ≤ a + 1 ∧ runF (Lz x) (a + 1).toNat (10 * f + ((Txt.item x a).cps.getD 0 0 : Nat) - 48) = runF (Lz x) a0.toNat 0 := by
  obtain ⟨h0, _, ha, hr⟩ := h
  obtain ⟨c, hc, hi⟩ := item_lz h0 hl
  rw [hi] at h1 h2 ⊢
  rw [ofs_0] at h1
  rw [ofs_9] at h2
  have h1' : ¬ c < 48 := fun h => h1 (lt_one.mpr h)
  have h2' : ¬ 57 < c := fun h => h2 (lt_one.mpr h)
  refine ⟨by omega, by omega, by omega, ?_⟩
  rw [← hr, runF_go hc (by omega) (by omega), show (a + 1).toNat = a.toNat + 1 by omega]
  rfl
theorem runW_end1 {x : PySem.Str} {a0 a f : Int} (h : runF (Lz x) a.toNat f = runF (Lz x) a0.toNat 0) (h0 : 0 ≤ a) (hl : ¬ a < x.length) : runF (Lz x) a0.toNat 0 = (f, a.toNat) := by
  rw [← h, runF_end fun c hc => ?_]
  have := (List.getElem?_eq_some_iff.mp hc).1
  rw [lz_length] at this
  omega
theorem runW_end2 {x : PySem.Str} {a0 a f : Int} (h : runF (Lz x) a.toNat f = runF (Lz x) a0.toNat 0) (h0 : 0 ≤ a) (hl : a < x.length) (h1 : (Txt.item x a).cps.toList < (PySem.Str.ofString "0").cps.toList) : runF (Lz x) a0.toNat 0 = (f, a.toNat) := by
  obtain ⟨c, hc, hi⟩ := item_lz h0 hl
  rw [hi, ofs_0] at h1
  have h1' := lt_one.mp h1
  rw [← h, runF_end fun d hd => ?_]
  rw [hc] at hd; cases hd; omega
theorem runW_end3 {x : PySem.Str} {a0 a f : Int} (h : runF (Lz x) a.toNat f = runF (Lz x) a0.toNat 0) (h0 : 0 ≤ a) (hl : a < x.length) (h1 : (PySem.Str.ofString "9").cps.toList < (Txt.item x a).cps.toList) : runF (Lz x) a0.toNat 0 = (f, a.toNat) := by
  obtain ⟨c, hc, hi⟩ := item_lz h0 hl
  rw [hi, ofs_9] at h1
  have h1' := lt_one.mp h1
  rw [← h, runF_end fun d hd => ?_]
  rw [hc] at hd; cases hd; omega

-- piece 07
-- needs: 06
-- pure
theorem slice1_lz {x : PySem.Str} {a : Int} (h0 : 0 ≤ a) : Lz (Txt.slice x (some a) (some (a + 1))) = ((Lz x).drop a.toNat).take 1 := by
  rw [slice_lz]
  unfold clipN
  simp only
  rw [if_neg (by omega), if_neg (by omega)]
  by_cases h : a < x.length
  · congr 1
    · omega
    · congr 1; omega
  · rw [List.drop_of_length_le (by rw [lz_length]; omega), List.drop_of_length_le (by rw [lz_length]; omega)]
    simp
theorem take1_drop {l : List Nat} {k c : Nat} : (l.drop k).take 1 = [c] ↔ l[k]? = some c := by
  rw [← List.head?_drop]
  cases l.drop k with
  | nil => simp
  | cons y r => simp
theorem sl1 {x : PySem.Str} {a : Int} (h0 : 0 ≤ a) (c : Nat) : (Txt.slice x (some a) (some (a + 1)) == St [c]) = decide ((Lz x)[a.toNat]? = some c) := by
  rw [beq_lz, slice1_lz h0, lz_st]
  by_cases h : (Lz x)[a.toNat]? = some c
  · rw [take1_drop.mpr h, decide_eq_true h]; simp
  · rw [decide_eq_false h, beq_eq_false_iff_ne]
    exact fun e => h (take1_drop.mp e)
theorem sl1' {x : PySem.Str} {a : Int} (h0 : 0 ≤ a) (c : Nat) : (St [c] == Txt.slice x (some a) (some (a + 1))) = decide ((Lz x)[a.toNat]? = some c) := by
  rw [← sl1 h0 c, Bool.beq_comm]
theorem o_minus : PySem.Str.ofString "-" = St [45] := by decide +kernel
theorem o_plus : PySem.Str.ofString "+" = St [43] := by decide +kernel
theorem o_dot : PySem.Str.ofString "." = St [46] := by decide +kernel
theorem o_hash : PySem.Str.ofString "#" = St [35] := by decide +kernel
theorem o_comma : PySem.Str.ofString "," = St [44] := by decide +kernel
theorem o_dollar : PySem.Str.ofString "$" = St [36] := by decide +kernel
theorem o_star : PySem.Str.ofString "*" = St [42] := by decide +kernel
theorem o_zero : PySem.Str.ofString "0" = St [48] := by decide +kernel
theorem o_blank : PySem.Str.ofString " " = St [32] := by decide +kernel
theorem o_pct : PySem.Str.ofString "%" = St [37] := by decide +kernel
theorem o_E : PySem.Str.ofString "E" = St [69] := by decide +kernel
theorem o_empty : PySem.Str.ofString "" = St [] := by decide +kernel
theorem occ_EeDd : ∀ c : Nat, c < 128 → (Builtin.Str.occurrences (PySem.Str.ofString "EeDd") (St [c]) 0 (PySem.Str.ofString "EeDd").length 1).isEmpty = !decide (c = 69 ∨ c = 101 ∨ c = 68 ∨ c = 100) := by decide +kernel
/-- where an exponent's figures begin -/
def expB (x : List Nat) (a : Int) : Int := if x[(a + 1).toNat]? = some 43 ∨ x[(a + 1).toNat]? = some 45 then a + 1 + 1 else a + 1
/-- exponent_at -/
def expA (x : List Nat) (a : Int) : Int × Int :=
  match x[a.toNat]? with
  | none => (0, a)
  | some c => if c = 69 ∨ c = 101 ∨ c = 68 ∨ c = 100 then
      (if ((runF x (expB x a).toNat 0).2 : Int) - expB x a = 0 then (0, a) else
        ((if x[(a + 1).toNat]? = some 45 then -1 else 1) * min (runF x (expB x a).toNat 0).1 9999, (runF x (expB x a).toNat 0).2))
    else (0, a)
theorem expA_out {x : List Nat} {a : Int} (h : (x.length : Int) ≤ a) : expA x a = (0, a) := by
  unfold expA
  rw [List.getElem?_eq_none (by omega)]
theorem expA_no {x : List Nat} {a : Int} {c : Nat} (hc : x[a.toNat]? = some c) (h : ¬ (c = 69 ∨ c = 101 ∨ c = 68 ∨ c = 100)) : expA x a = (0, a) := by
  unfold expA
  rw [hc]; simp only; rw [if_neg h]
theorem expA_yes {x : List Nat} {a : Int} {c : Nat} {s1 s2 : Bool} (hc : x[a.toNat]? = some c) (h : c = 69 ∨ c = 101 ∨ c = 68 ∨ c = 100)
    (h1 : (x[(a + 1).toNat]? = some 45) = (s1 = true)) (h2 : (x[(a + 1).toNat]? = some 43 ∨ x[(a + 1).toNat]? = some 45) = (s2 = true)) :
    expA x a = if ((runF x (if s2 = true then a + 1 + 1 else a + 1).toNat 0).2 : Int) - (if s2 = true then a + 1 + 1 else a + 1) = 0 then (0, a) else
        ((if s1 = true then -1 else 1) * min (runF x (if s2 = true then a + 1 + 1 else a + 1).toNat 0).1 9999, (runF x (if s2 = true then a + 1 + 1 else a + 1).toNat 0).2) := by
  have e : expB x a = if s2 = true then a + 1 + 1 else a + 1 := by unfold expB; simp only [h2]
  unfold expA
  rw [hc, e]; simp only; rw [if_pos h]
  simp only [h1]
theorem at_minus {x : PySem.Str} {a : Int} {b : Bool} (h0 : 0 ≤ a) (h : (Txt.slice x (some a) (some (a + 1)) == PySem.Str.ofString "-") = b) : ((Lz x)[a.toNat]? = some 45) = (b = true) := by
  rw [o_minus, sl1 h0] at h
  subst h; simp
theorem at_sign {x : PySem.Str} {a : Int} {b : Bool} (h0 : 0 ≤ a) (h : ([PySem.Str.ofString "+", PySem.Str.ofString "-"].any fun y => y == Txt.slice x (some a) (some (a + 1))) = b) : ((Lz x)[a.toNat]? = some 43 ∨ (Lz x)[a.toNat]? = some 45) = (b = true) := by
  rw [o_minus, o_plus] at h
  simp only [List.any_cons, List.any_nil, Bool.or_false, sl1' h0] at h
  subst h; simp
theorem sign_lt {x : PySem.Str} {a : Int} (h0 : 0 ≤ a) (h : ([PySem.Str.ofString "+", PySem.Str.ofString "-"].any fun y => y == Txt.slice x (some a) (some (a + 1))) = true) : a < x.length := by
  have h1 := of_eq_true ((at_sign h0 h).trans (by simp))
  have h2 : a.toNat < (Lz x).length := by
    rcases h1 with h1 | h1 <;> exact (List.getElem?_eq_some_iff.mp h1).1
  rw [lz_length] at h2; omega
theorem sign_lt' {x : PySem.Str} {a : Int} (h : ([PySem.Str.ofString "+", PySem.Str.ofString "-"].any fun y => y == Txt.slice x (some a) (some (a + 1))) = true) (h0 : 0 ≤ a) : a < x.length := sign_lt h0 h
theorem at_E {x : PySem.Str} {a : Int} {b : Bool} (hx : ∀ c ∈ Lz x, c < 128) (h0 : 0 ≤ a) (h1 : ¬ (x.length : Int) ≤ a) (h : (Builtin.Str.occurrences (PySem.Str.ofString "EeDd") (Txt.item x a) 0 (PySem.Str.ofString "EeDd").length 1).isEmpty = b) :
    ∃ c, (Lz x)[a.toNat]? = some c ∧ (c = 69 ∨ c = 101 ∨ c = 68 ∨ c = 100) = (b = false) := by
  obtain ⟨c, hc, hi⟩ := item_lz h0 (by omega : a < x.length)
  refine ⟨c, hc, ?_⟩
  rw [hi, occ_EeDd c (hx c (List.mem_of_getElem? hc))] at h
  subst h; simp only [Bool.not_eq_false', decide_eq_true_eq]
theorem lz_to {x : PySem.Str} {n : Int} (h0 : 0 ≤ n) : Lz (Txt.slice x none (some n)) = (Lz x).take n.toNat := by
  rw [slice_lz]
  unfold clipN
  simp only [List.drop_zero, Nat.sub_zero]
  rw [if_neg (by omega)]
  by_cases h : n ≤ x.length
  · congr 1; omega
  · rw [List.take_of_length_le (by rw [lz_length]; omega), List.take_of_length_le (by rw [lz_length]; omega)]
theorem lz_from {x : PySem.Str} {n : Int} (h0 : 0 ≤ n) : Lz (Txt.slice x (some n) none) = (Lz x).drop n.toNat := by
  rw [slice_lz]
  unfold clipN
  simp only
  rw [if_neg (by omega)]
  by_cases h : n ≤ x.length
  · rw [List.take_of_length_le (by rw [List.length_drop, lz_length]; omega)]
    congr 1; omega
  · rw [List.drop_of_length_le (by rw [lz_length]; omega), List.drop_of_length_le (by rw [lz_length]; omega)]
    simp
theorem to_st {x : PySem.Str} {n : Int} (h0 : 0 ≤ n) : Txt.slice x none (some n) = St ((Lz x).take n.toNat) := lz_inj (lz_to h0)
theorem from_st {x : PySem.Str} {n : Int} (h0 : 0 ≤ n) : Txt.slice x (some n) none = St ((Lz x).drop n.toNat) := lz_inj (lz_from h0)

theorem mul_st {c : Nat} {n : Int} : Txt.mul (St [c]) n = St (List.replicate n.toNat c) := lz_inj (mul_one_list c n)
theorem o_E00 : PySem.Str.ofString "E+00" = St [69, 43, 48, 48] := by decide +kernel
theorem st_append {a b : List Nat} : St a ++ St b = St (a ++ b) := lz_inj (by rw [lz_append])
/-- with_exponent's lift and units, and its three texts -/
def wxL (pl r c e : Int) : Int := if 10 ^ (pl + r).toNat ≤ scl c (e - (e + figs c - pl)) r then e + figs c - pl + 1 else e + figs c - pl
def wxU (pl r c e : Int) : Int := if 10 ^ (pl + r).toNat ≤ scl c (e - (e + figs c - pl)) r then scl c (e - (e + figs c - pl + 1)) r else scl c (e - (e + figs c - pl)) r
def wx1 (pl r c e : Int) : List Nat := if c = 0 then List.replicate pl.toNat 48 else (padL (wxU pl r c e) (pl + r) []).take pl.toNat
def wx2 (pl r c e : Int) : List Nat := if c = 0 then List.replicate r.toNat 48 else (padL (wxU pl r c e) (pl + r) []).drop pl.toNat
def wx3 (pl r c e : Int) : List Nat := if c = 0 then [69, 43, 48, 48] else [69] ++ (if wxL pl r c e < 0 then [45] else [43]) ++ padL (wxL pl r c e).natAbs 2 []
/-- a Picture's fields -/
structure Pic where
  left : Int
  right : Int
  point : Bool
  star : Bool
  dollar : Bool
  comma : Bool
  expo : Bool
  sign   : PySem.Str
def leadS (p : Pic) (b : Bool) : List Nat := if (p.sign == PySem.Str.ofString "+ahead") = true then (if b = true then [45] else [43]) else if (p.sign == PySem.Str.ofString "") = true then (if b = true then [45] else []) else []
def tailS (p : Pic) (b : Bool) : List Nat := if ([PySem.Str.ofString "+behind", PySem.Str.ofString "-behind"].any fun x => x == p.sign) = true then (if b = true then [45] else if (p.sign == PySem.Str.ofString "+behind") = true then [43] else [32]) else []
theorem grpL_length {x f : List Nat} : (grpL x f).length ≤ f.length + 2 * x.length := by
  by_cases h : 3 < x.length
  · rw [grpL_go h]
    refine Nat.le_trans (grpL_length (x := x.take (x.length - 3))) ?_
    simp only [List.length_append, List.length_cons, List.length_drop, List.length_take]
    omega
  · rw [grpL_end h]; omega
termination_by x.length
decreasing_by simp only [List.length_take]; omega
theorem grp_length {x : List Nat} : (grp x).length ≤ 3 + 2 * x.length := by
  unfold grp
  refine Nat.le_trans grpL_length ?_
  rw [List.length_drop]; omega
/-- number_by's text, from the two texts of figures -/
def nbG (p : Pic) (A : List Nat) : List Nat := if p.comma = true ∧ p.expo = false then grp A else A
def nbW (p : Pic) : Int := p.left + (if (p.sign == PySem.Str.ofString "+ahead") = true then 1 else 0)
def nbLd (p : Pic) (b : Bool) : List Nat := leadS p b ++ (if p.dollar = true then [36] else [])
def nbA (p : Pic) (b : Bool) (A B : List Nat) : List Nat := if nbW p < ((nbLd p b ++ nbG p A).length : Int) ∧ nbG p A = [48] ∧ B ≠ [] then [] else nbG p A
def nbR (p : Pic) (b : Bool) (A B : List Nat) : Int := nbW p - ((nbLd p b ++ nbA p b A B).length : Int)
def nbT (p : Pic) (b : Bool) (A B T : List Nat) : List Nat :=
  List.replicate (nbR p b A B).toNat (if p.star = true then 42 else 32) ++ nbLd p b ++ nbA p b A B ++ (if p.point = true then [46] else []) ++ B ++ T ++ tailS p b
def nbO (p : Pic) (b : Bool) (A B T : List Nat) : List Nat := if nbR p b A B < 0 then [37] ++ nbT p b A B T else nbT p b A B T

theorem nbG_len {p : Pic} {A : List Nat} (h : A.length ≤ 60) : (St (nbG p A)).length ≤ 130 := by
  show (nbG p A).length ≤ 130
  unfold nbG; split
  · exact Nat.le_trans grp_length (by omega)
  · omega
theorem nbA_len {p : Pic} {b : Bool} {A B : List Nat} (h : A.length ≤ 60) : (St (nbA p b A B)).length ≤ 130 := by
  show (nbA p b A B).length ≤ 130
  unfold nbA; split
  · exact Nat.zero_le _
  · exact nbG_len h
section
variable {p : Pic} {b : Bool} {A B T : List Nat}
theorem ldS_eq : St (leadS p b) ++ (if p.dollar = true then St [36] else St []) = St (nbLd p b) := by
  unfold nbLd; split <;> exact st_append
theorem st_len {l : List Nat} : (St l).length = l.length := rfl
theorem nbA1 (h : p.left + (if (p.sign == PySem.Str.ofString "+ahead") = true then 1 else 0) < (((St (leadS p b) ++ (if p.dollar = true then St [36] else St [])) ++ St (nbG p A)).length : Int))
    (h2 : (St (nbG p A) == PySem.Str.ofString "0") = true) (h3 : (St B != PySem.Str.ofString "") = true) : PySem.Str.ofString "" = St (nbA p b A B) := by
  rw [ldS_eq, st_append, st_len] at h
  rw [o_zero, beq_lz, beq_iff_eq] at h2
  have h3' : B ≠ [] := by rintro rfl; rw [o_empty] at h3; simp at h3
  rw [o_empty, nbA, if_pos ⟨h, h2, h3'⟩]
theorem nbA2 (h3 : (St B != PySem.Str.ofString "") = false) : St (nbG p A) = St (nbA p b A B) := by
  have h3' : B = [] := by
    rw [o_empty] at h3
    have := bne_eq_false_iff_eq.mp h3
    exact congrArg Lz this
  rw [nbA, if_neg (fun h => h.2.2 h3')]
theorem nbA3 (h2 : (St (nbG p A) == PySem.Str.ofString "0") = false) : St (nbG p A) = St (nbA p b A B) := by
  rw [nbA, if_neg (fun h => ?_)]
  rw [o_zero, h.2.1] at h2
  simp at h2
theorem nbA4 (h : ¬ p.left + (if (p.sign == PySem.Str.ofString "+ahead") = true then 1 else 0) < (((St (leadS p b) ++ (if p.dollar = true then St [36] else St [])) ++ St (nbG p A)).length : Int)) : St (nbG p A) = St (nbA p b A B) := by
  rw [ldS_eq, st_append, st_len] at h
  rw [nbA, if_neg (fun h' => h h'.1)]
theorem mulS {k : Bool} {n : Int} : Txt.mul (if k = true then St [42] else St [32]) n = St (List.replicate n.toNat (if k = true then 42 else 32)) := by
  split <;> exact mul_st
theorem mulS_len {k : Bool} {n : Int} : (Txt.mul (if k = true then St [42] else St [32]) n).length = n.toNat := by
  rw [mulS, st_len, List.length_replicate]
theorem nbR_eq : p.left + (if (p.sign == PySem.Str.ofString "+ahead") = true then 1 else 0) - (((St (leadS p b) ++ (if p.dollar = true then St [36] else St [])) ++ St (nbA p b A B)).length : Int) = nbR p b A B := by
  rw [ldS_eq, st_append, st_len]; rfl
theorem nbT_eq : (((((Txt.mul (if p.star = true then St [42] else St [32]) (p.left + (if (p.sign == PySem.Str.ofString "+ahead") = true then 1 else 0) - (((St (leadS p b) ++ (if p.dollar = true then St [36] else St [])) ++ St (nbA p b A B)).length : Int)) ++ (St (leadS p b) ++ (if p.dollar = true then St [36] else St []))) ++ St (nbA p b A B)) ++ (if p.point = true then St [46] else St [])) ++ St B) ++ St T) ++ St (tailS p b) = St (nbT p b A B T) := by
  rw [nbR_eq, ldS_eq, mulS, show (if p.point = true then St [46] else St []) = St (if p.point = true then [46] else []) from by split <;> rfl]
  simp only [st_append]
  rfl
end
theorem o_len0 : (PySem.Str.ofString "").length = 0 := by decide +kernel
theorem o_len1 : (PySem.Str.ofString "%").length = 1 := by decide +kernel
section
variable {p : Pic} {b : Bool} {A B T : List Nat}
theorem nbO1 {X : PySem.Str} (hX : X = St T) (h : p.left + (if (p.sign == PySem.Str.ofString "+ahead") = true then 1 else 0) - (((St (leadS p b) ++ (if p.dollar = true then St [36] else St [])) ++ St (nbA p b A B)).length : Int) < 0) :
    PySem.Str.ofString "%" ++ ((((((Txt.mul (if p.star = true then St [42] else St [32]) (p.left + (if (p.sign == PySem.Str.ofString "+ahead") = true then 1 else 0) - (((St (leadS p b) ++ (if p.dollar = true then St [36] else St [])) ++ St (nbA p b A B)).length : Int)) ++ (St (leadS p b) ++ (if p.dollar = true then St [36] else St []))) ++ St (nbA p b A B)) ++ (if p.point = true then St [46] else St [])) ++ St B) ++ X) ++ St (tailS p b)) = St (nbO p b A B T) := by
  rw [hX, nbT_eq, o_pct, st_append]
  rw [nbR_eq] at h
  rw [nbO, if_pos h]
theorem nbO2 {X : PySem.Str} (hX : X = St T) (h : ¬ p.left + (if (p.sign == PySem.Str.ofString "+ahead") = true then 1 else 0) - (((St (leadS p b) ++ (if p.dollar = true then St [36] else St [])) ++ St (nbA p b A B)).length : Int) < 0) :
    ((((((Txt.mul (if p.star = true then St [42] else St [32]) (p.left + (if (p.sign == PySem.Str.ofString "+ahead") = true then 1 else 0) - (((St (leadS p b) ++ (if p.dollar = true then St [36] else St [])) ++ St (nbA p b A B)).length : Int)) ++ (St (leadS p b) ++ (if p.dollar = true then St [36] else St []))) ++ St (nbA p b A B)) ++ (if p.point = true then St [46] else St [])) ++ St B) ++ X) ++ St (tailS p b)) = St (nbO p b A B T) := by
  rw [hX, nbT_eq]
  rw [nbR_eq] at h
  rw [nbO, if_neg h]
theorem nbO_len (hl : p.left ≤ 30) (hA : A.length ≤ 60) (hB : B.length ≤ 101) (hT : T.length ≤ 103) : (St (nbO p b A B T)).length ≤ 400 := by
  have h1 : (nbA p b A B).length ≤ 130 := nbA_len hA
  have h2 : (leadS p b).length ≤ 1 := by unfold leadS; (repeat' split) <;> decide
  have h3 : (tailS p b).length ≤ 1 := by unfold tailS; (repeat' split) <;> decide
  have h4 : (nbLd p b).length ≤ 2 := by unfold nbLd; rw [List.length_append]; split <;> simp <;> omega
  have h5 : (nbR p b A B).toNat ≤ 31 := by unfold nbR nbW; split <;> omega
  have h6 : (if p.point = true then [46] else [] : List Nat).length ≤ 1 := by split <;> decide
  have h7 : (nbT p b A B T).length ≤ 390 := by
    unfold nbT
    simp only [List.length_append, List.length_replicate]
    omega
  show (nbO p b A B T).length ≤ 400
  unfold nbO; split
  · rw [List.length_append]; simp only [List.length_cons, List.length_nil]; omega
  · omega
end

-- piece 08
-- needs: 07
-- pure
/-- the text from a place on -/
def suf (x : PySem.Str) (a : Int) : List Nat := (Lz x).drop a.toNat
theorem slice_suf {x : PySem.Str} {a : Int} (k : Nat) (h0 : 0 ≤ a) : Lz (Txt.slice x (some a) (some (a + k))) = (suf x a).take k := by
  rw [slice_lz]
  unfold clipN suf
  simp only
  rw [if_neg (by omega), if_neg (by omega)]
  by_cases h : a ≤ x.length
  · rw [show (max 0 (min a (x.length : Int))).toNat = a.toNat by omega]
    by_cases h2 : a + k ≤ x.length
    · congr 1; omega
    · rw [List.take_of_length_le (by rw [List.length_drop, lz_length]; omega), List.take_of_length_le (by rw [List.length_drop, lz_length]; omega)]
  · rw [List.drop_of_length_le (by rw [lz_length]; omega), List.drop_of_length_le (by rw [lz_length]; omega)]
    simp
theorem suf_is {x : PySem.Str} {a : Int} {k : Nat} {y : PySem.Str} {m : List Nat} (h0 : 0 ≤ a) (hy : y = St m) : (Txt.slice x (some a) (some (a + k)) == y) = decide ((suf x a).take k = m) := by
  rw [beq_lz, slice_suf k h0, hy, lz_st]
  by_cases h : (suf x a).take k = m
  · rw [decide_eq_true h, h]; simp
  · rw [decide_eq_false h, beq_eq_false_iff_ne]; exact h
theorem suf_is1 {x : PySem.Str} {a : Int} {y : PySem.Str} {m : List Nat} (h0 : 0 ≤ a) (hy : y = St m) : (Txt.slice x (some a) (some (a + 1)) == y) = decide ((suf x a).take 1 = m) := suf_is (k := 1) h0 hy
theorem suf_is2 {x : PySem.Str} {a : Int} {y : PySem.Str} {m : List Nat} (h0 : 0 ≤ a) (hy : y = St m) : (Txt.slice x (some a) (some (a + 2)) == y) = decide ((suf x a).take 2 = m) := suf_is (k := 2) h0 hy
theorem suf_is4 {x : PySem.Str} {a : Int} {y : PySem.Str} {m : List Nat} (h0 : 0 ≤ a) (hy : y = St m) : (Txt.slice x (some a) (some (a + 4)) == y) = decide ((suf x a).take 4 = m) := suf_is (k := 4) h0 hy
theorem beq_swap (a b : PySem.Str) : (a == b) = (b == a) := Bool.beq_comm
theorem o_ss : PySem.Str.ofString "**" = St [42, 42] := by decide +kernel
theorem o_dd : PySem.Str.ofString "$$" = St [36, 36] := by decide +kernel
theorem o_dh : PySem.Str.ofString ".#" = St [46, 35] := by decide +kernel
theorem o_cc : PySem.Str.ofString "^^^^" = St [94, 94, 94, 94] := by decide +kernel
theorem suf_add {x : PySem.Str} {a : Int} (k : Nat) (h0 : 0 ≤ a) : suf x (a + k) = (suf x a).drop k := by
  unfold suf; rw [List.drop_drop]; congr 1; omega
theorem suf_add1 {x : PySem.Str} {a : Int} (h0 : 0 ≤ a) : suf x (a + 1) = (suf x a).drop 1 := suf_add 1 h0
theorem suf_add2 {x : PySem.Str} {a : Int} (h0 : 0 ≤ a) : suf x (a + 2) = (suf x a).drop 2 := suf_add 2 h0
theorem suf_add4 {x : PySem.Str} {a : Int} (h0 : 0 ≤ a) : suf x (a + 4) = (suf x a).drop 4 := suf_add 4 h0
theorem suf_len {x : PySem.Str} {a : Int} : (suf x a).length = x.length - a.toNat := by unfold suf; rw [List.length_drop, lz_length]
/-- begins_number -/
def bgnL (D : List Nat) : Bool := let E := if D.take 1 = [43] then D.drop 1 else D
  decide (E.take 1 = [35]) || (decide (E.take 2 = [42, 42]) || decide (E.take 2 = [36, 36]) || decide (E.take 2 = [46, 35]))
/-- read_ahead -/
def aheadL (p : Pic) (D : List Nat) : Pic × Nat :=
  let s := decide (D.take 1 = [43]); let E := if s = true then D.drop 1 else D; let k := if s = true then 1 else 0
  let p := if s = true then { p with sign := PySem.Str.ofString "+ahead" } else p
  if E.take 2 = [42, 42] then (if (E.drop 2).take 1 = [36] then ({ p with star := true, left := 3, dollar := true }, k + 3) else ({ p with star := true, left := 2 }, k + 2))
  else if E.take 2 = [36, 36] then ({ p with dollar := true, left := 2 }, k + 2) else (p, k)
def plN : List Nat → Nat
  | [] => 0
  | c :: r => if c = 35 ∨ c = 44 then plN r + 1 else 0
def plC : List Nat → Bool
  | [] => false
  | c :: r => if c = 35 ∨ c = 44 then decide (c = 44) || plC r else false
def hsN : List Nat → Nat
  | [] => 0
  | c :: r => if c = 35 then hsN r + 1 else 0
/-- read_places -/
def placesL (p : Pic) (D : List Nat) : Pic × Nat :=
  let E := D.drop (plN D); let q := { p with left := p.left + plN D, comma := p.comma || plC D }
  if E.take 1 = [46] then ({ q with point := true, right := q.right + hsN (E.drop 1) }, plN D + 1 + hsN (E.drop 1)) else (q, plN D)
def pic0 : Pic := ⟨0, 0, false, false, false, false, false, PySem.Str.ofString ""⟩
/-- read_picture -/
def rdL (D : List Nat) : Pic × Nat :=
  let u := aheadL pic0 D; let v := placesL u.1 (D.drop u.2); let E := D.drop (u.2 + v.2)
  let w : Pic × Nat := if E.take 4 = [94, 94, 94, 94] then ({ v.1 with expo := true }, u.2 + v.2 + 4) else (v.1, u.2 + v.2)
  let F := D.drop w.2
  if (w.1.sign == PySem.Str.ofString "") = true ∧ (F.take 1 = [43] ∨ F.take 1 = [45]) then ({ w.1 with sign := if F.take 1 = [43] then PySem.Str.ofString "+behind" else PySem.Str.ofString "-behind" }, w.2 + 1) else w
theorem plN_le : ∀ D : List Nat, plN D ≤ D.length
  | [] => Nat.le_refl _
  | c :: r => by unfold plN; split; · exact Nat.succ_le_succ (plN_le r)
                 · exact Nat.zero_le _
theorem hsN_le : ∀ D : List Nat, hsN D ≤ D.length
  | [] => Nat.le_refl _
  | c :: r => by unfold hsN; split; · exact Nat.succ_le_succ (hsN_le r)
                 · exact Nat.zero_le _
theorem plN_go {c : Nat} {r : List Nat} (h : c = 35 ∨ c = 44) : plN (c :: r) = plN r + 1 := by rw [plN, if_pos h]
theorem plC_go {c : Nat} {r : List Nat} (h : c = 35 ∨ c = 44) : plC (c :: r) = (decide (c = 44) || plC r) := by rw [plC, if_pos h]
theorem hsN_go {c : Nat} {r : List Nat} (h : c = 35) : hsN (c :: r) = hsN r + 1 := by rw [hsN, if_pos h]
/-- the loops of read_places -/
def PlW (x : PySem.Str) (a : Int) (p : Pic) (cm : Bool) (l b : Int) : Prop := a ≤ b ∧ l = p.left + (b - a) ∧ b - a + plN (suf x b) = plN (suf x a) ∧ (cm || plC (suf x b)) = (p.comma || plC (suf x a))
theorem suf_cons {x : PySem.Str} {b : Int} (h0 : 0 ≤ b) (h1 : b < x.length) : ∃ c, suf x b = c :: suf x (b + 1) ∧ Txt.item x b = St [c] ∧ (Lz x)[b.toNat]? = some c := by
  obtain ⟨c, hc, hi⟩ := item_lz h0 h1
  refine ⟨c, ?_, hi, hc⟩
  unfold suf
  have hl := (List.getElem?_eq_some_iff.mp hc).1
  rw [List.drop_eq_getElem_cons hl, (List.getElem?_eq_some_iff.mp hc).2, show (b + 1).toNat = b.toNat + 1 by omega]
theorem suf_out {x : PySem.Str} {b : Int} (h1 : (x.length : Int) ≤ b) : suf x b = [] := by unfold suf; rw [List.drop_of_length_le (by rw [lz_length]; omega)]
theorem slice_lt {x : PySem.Str} {b : Int} {c : Nat} {y : PySem.Str} (hy : y = St [c]) (h0 : 0 ≤ b) (h : (Txt.slice x (some b) (some (b + 1)) == y) = true) : b < x.length := by
  rw [suf_is1 h0 hy, decide_eq_true_eq] at h
  by_cases hb : b < x.length
  · exact hb
  · rw [suf_out (by omega)] at h; simp at h
theorem plW0 {x : PySem.Str} {a : Int} {p : Pic} (h0 : 0 ≤ a) (h1 : a ≤ x.length) : 0 ≤ a ∧ a ≤ x.length ∧ PlW x a p p.comma p.left a := ⟨h0, h1, Int.le_refl _, by omega, by omega, rfl⟩
theorem hc_of {x : PySem.Str} {b : Int} {v : Bool} (h0 : 0 ≤ b) (h : ([PySem.Str.ofString "#", PySem.Str.ofString ","].any fun y => y == Txt.slice x (some b) (some (b + 1))) = v) : ((suf x b).take 1 = [35] ∨ (suf x b).take 1 = [44]) = (v = true) := by
  simp only [List.any_cons, List.any_nil, Bool.or_false, beq_swap _ (Txt.slice _ _ _), suf_is1 h0 o_hash, suf_is1 h0 o_comma] at h
  subst h; simp
theorem plW1 {x : PySem.Str} {a : Int} {p : Pic} {cm : Bool} {l b : Int} (h : PlW x a p cm l b) (h0 : 0 ≤ b) (h1 : b < x.length) (ht : ([PySem.Str.ofString "#", PySem.Str.ofString ","].any fun y => y == Txt.slice x (some b) (some (b + 1))) = true) :
    0 ≤ b + 1 ∧ b + 1 ≤ x.length ∧ PlW x a p (cm || (Txt.item x b == PySem.Str.ofString ",")) (l + 1) (b + 1) := by
  obtain ⟨g1, g2, g3, g4⟩ := h
  obtain ⟨c, e1, e2, _⟩ := suf_cons h0 h1
  have hc := (iff_of_eq (hc_of h0 ht)).mpr rfl
  rw [e1] at hc
  have hc' : c = 35 ∨ c = 44 := by simpa using hc
  rw [e1] at g3 g4
  have e3 : (Txt.item x b == PySem.Str.ofString ",") = decide (c = 44) := by rw [e2, o_comma, beq_lz, lz_st, lz_st]; by_cases q : c = 44 <;> simp [q]
  refine ⟨by omega, by omega, by omega, by omega, ?_, ?_⟩
  · rw [plN_go hc'] at g3; omega
  · rw [plC_go hc'] at g4; rw [e3, ← g4, Bool.or_assoc]
theorem plW1a {x : PySem.Str} {a : Int} {p : Pic} {cm : Bool} {l b : Int} (h : PlW x a p cm l b) (h0 : 0 ≤ b) (h1 : b < x.length) (ht : ([PySem.Str.ofString "#", PySem.Str.ofString ","].any fun y => y == Txt.slice x (some b) (some (b + 1))) = true) (hc : cm = true) :
    0 ≤ b + 1 ∧ b + 1 ≤ x.length ∧ PlW x a p cm (l + 1) (b + 1) := by
  have h2 := plW1 h h0 h1 ht
  subst hc; simpa only [Bool.true_or] using h2
theorem plW1b {x : PySem.Str} {a : Int} {p : Pic} {cm : Bool} {l b : Int} (h : PlW x a p cm l b) (h0 : 0 ≤ b) (h1 : b < x.length) (ht : ([PySem.Str.ofString "#", PySem.Str.ofString ","].any fun y => y == Txt.slice x (some b) (some (b + 1))) = true) (hc : cm = false) :
    0 ≤ b + 1 ∧ b + 1 ≤ x.length ∧ PlW x a p (Txt.item x b == PySem.Str.ofString ",") (l + 1) (b + 1) := by
  have h2 := plW1 h h0 h1 ht
  subst hc; simpa only [Bool.false_or] using h2
def HsW (x : PySem.Str) (a : Int) (p : Pic) (r b : Int) : Prop := a ≤ b ∧ r = p.right + (b - a) ∧ b - a + hsN (suf x b) = hsN (suf x a)
theorem hsW0 {x : PySem.Str} {b : Int} {p : Pic} (h0 : 0 ≤ b) (h : (Txt.slice x (some b) (some (b + 1)) == PySem.Str.ofString ".") = true) : 0 ≤ b + 1 ∧ b + 1 ≤ x.length ∧ HsW x (b + 1) p p.right (b + 1) := by
  have := slice_lt o_dot h0 h
  exact ⟨by omega, by omega, Int.le_refl _, by omega, by omega⟩
theorem hsW1 {x : PySem.Str} {a : Int} {p : Pic} {r b : Int} (h : HsW x a p r b) (h0 : 0 ≤ b) (ht : (Txt.slice x (some b) (some (b + 1)) == PySem.Str.ofString "#") = true) : 0 ≤ b + 1 ∧ b + 1 ≤ x.length ∧ HsW x a p (r + 1) (b + 1) := by
  obtain ⟨g1, g2, g3⟩ := h
  have h1 := slice_lt o_hash h0 ht
  obtain ⟨c, e1, _, _⟩ := suf_cons h0 h1
  rw [suf_is1 h0 o_hash, decide_eq_true_eq, e1] at ht
  have hc : c = 35 := by simpa using ht
  rw [e1] at g3
  refine ⟨by omega, by omega, by omega, by omega, ?_⟩
  rw [hsN_go hc] at g3; omega
theorem hsW_lt {x : PySem.Str} {b : Int} (h0 : 0 ≤ b) (ht : (Txt.slice x (some b) (some (b + 1)) == PySem.Str.ofString "#") = true) : ((x.length : Int) - (b + 1)).toNat < ((x.length : Int) - b).toNat := by
  have := slice_lt o_hash h0 ht; omega
theorem plN_stop {x : PySem.Str} {b : Int} (h0 : 0 ≤ b) (ht : ([PySem.Str.ofString "#", PySem.Str.ofString ","].any fun y => y == Txt.slice x (some b) (some (b + 1))) = false) : plN (suf x b) = 0 ∧ plC (suf x b) = false := by
  have hc := hc_of h0 ht
  by_cases hb : b < x.length
  · obtain ⟨c, e1, _, _⟩ := suf_cons h0 hb
    rw [e1] at hc ⊢
    have hc' : ¬ (c = 35 ∨ c = 44) := by simpa using hc
    unfold plN plC
    rw [if_neg hc', if_neg hc']; exact ⟨rfl, rfl⟩
  · rw [suf_out (by omega)]; exact ⟨rfl, rfl⟩
theorem hsN_stop {x : PySem.Str} {b : Int} (h0 : 0 ≤ b) (ht : (Txt.slice x (some b) (some (b + 1)) == PySem.Str.ofString "#") = false) : hsN (suf x b) = 0 := by
  by_cases hb : b < x.length
  · obtain ⟨c, e1, _, _⟩ := suf_cons h0 hb
    rw [suf_is1 h0 o_hash, decide_eq_false_iff_not, e1] at ht
    rw [e1]
    have hc' : ¬ c = 35 := by simpa using ht
    unfold hsN
    rw [if_neg hc']
  · rw [suf_out (by omega)]; rfl
/-- behind the first loop -/
theorem plW_end {x : PySem.Str} {a : Int} {p : Pic} {cm : Bool} {l b : Int} (h : PlW x a p cm l b) (h0 : 0 ≤ b) (ht : ([PySem.Str.ofString "#", PySem.Str.ofString ","].any fun y => y == Txt.slice x (some b) (some (b + 1))) = false) :
    b = a + plN (suf x a) ∧ l = p.left + plN (suf x a) ∧ cm = (p.comma || plC (suf x a)) := by
  obtain ⟨g1, g2, g3, g4⟩ := h
  obtain ⟨e1, e2⟩ := plN_stop h0 ht
  rw [e1] at g3; rw [e2, Bool.or_false] at g4
  exact ⟨by omega, by omega, g4⟩
theorem hsW_end {x : PySem.Str} {a : Int} {p : Pic} {r b : Int} (h : HsW x a p r b) (h0 : 0 ≤ b) (ht : (Txt.slice x (some b) (some (b + 1)) == PySem.Str.ofString "#") = false) : b = a + hsN (suf x a) ∧ r = p.right + hsN (suf x a) := by
  obtain ⟨g1, g2, g3⟩ := h
  rw [hsN_stop h0 ht] at g3
  exact ⟨by omega, by omega⟩
theorem places_np {x : PySem.Str} {a : Int} {p : Pic} {cm : Bool} {l b : Int} (ha : 0 ≤ a) (h : PlW x a p cm l b) (h0 : 0 ≤ b) (ht : ([PySem.Str.ofString "#", PySem.Str.ofString ","].any fun y => y == Txt.slice x (some b) (some (b + 1))) = false)
    (hd : (Txt.slice x (some b) (some (b + 1)) == PySem.Str.ofString ".") = false) : (placesL p (suf x a)).1 = ⟨l, p.right, p.point, p.star, p.dollar, cm, p.expo, p.sign⟩ ∧ b = a + (placesL p (suf x a)).2 := by
  obtain ⟨e1, e2, e3⟩ := plW_end h h0 ht
  rw [suf_is1 h0 o_dot, decide_eq_false_iff_not, e1, suf_add _ ha] at hd
  unfold placesL
  simp only [hd, if_false]
  rw [e2, e3]
  exact ⟨rfl, e1⟩
theorem places_pt {x : PySem.Str} {a : Int} {p : Pic} {cm : Bool} {l b r b' : Int} (ha : 0 ≤ a) (h : PlW x a p cm l b) (h0 : 0 ≤ b) (ht : ([PySem.Str.ofString "#", PySem.Str.ofString ","].any fun y => y == Txt.slice x (some b) (some (b + 1))) = false)
    (hd : (Txt.slice x (some b) (some (b + 1)) == PySem.Str.ofString ".") = true) (h' : HsW x (b + 1) p r b') (h0' : 0 ≤ b') (ht' : (Txt.slice x (some b') (some (b' + 1)) == PySem.Str.ofString "#") = false) :
    (placesL p (suf x a)).1 = ⟨l, r, true, p.star, p.dollar, cm, p.expo, p.sign⟩ ∧ b' = a + (placesL p (suf x a)).2 := by
  obtain ⟨e1, e2, e3⟩ := plW_end h h0 ht
  obtain ⟨e4, e5⟩ := hsW_end h' h0' ht'
  rw [suf_is1 h0 o_dot, decide_eq_true_eq, e1, suf_add _ ha] at hd
  rw [e1, suf_add1 (by omega), suf_add _ ha] at e4 e5
  unfold placesL
  simp only [hd, if_true]
  rw [e2, e3, e5]
  exact ⟨rfl, by omega⟩
theorem any_lt {x : PySem.Str} {b : Int} (ht : ([PySem.Str.ofString "#", PySem.Str.ofString ","].any fun y => y == Txt.slice x (some b) (some (b + 1))) = true) (hn : ¬ b < x.length) (h0 : 0 ≤ b) : False := by
  have hc := (iff_of_eq (hc_of h0 ht)).mpr rfl
  rw [suf_out (by omega)] at hc
  simp at hc
theorem take_len {D m : List Nat} {k : Nat} (h : D.take k = m) : m.length ≤ D.length := by rw [← h, List.length_take]; omega
theorem ahead_bd (D : List Nat) : 0 ≤ (aheadL pic0 D).1.left ∧ (aheadL pic0 D).1.left ≤ 10 ∧ (aheadL pic0 D).1.right = 0 ∧ (aheadL pic0 D).2 ≤ D.length := by
  unfold aheadL
  simp only
  by_cases h1 : D.take 1 = [43]
  · have g1 := take_len h1
    simp only [h1, decide_true, if_true]
    split
    · rename_i h2
      have g2 := take_len h2
      split
      · rename_i h3
        have g3 := take_len h3
        simp only [List.length_drop, List.length_cons, List.length_nil] at g1 g2 g3
        exact ⟨by decide, by decide, rfl, by omega⟩
      · simp only [List.length_drop, List.length_cons, List.length_nil] at g1 g2
        exact ⟨by decide, by decide, rfl, by omega⟩
    · split
      · rename_i h2
        have g2 := take_len h2
        simp only [List.length_drop, List.length_cons, List.length_nil] at g1 g2
        exact ⟨by decide, by decide, rfl, by omega⟩
      · simp only [List.length_cons, List.length_nil] at g1
        exact ⟨by decide, by decide, rfl, by omega⟩
  · simp only [h1, decide_false, Bool.false_eq_true, if_false]
    split
    · rename_i h2
      have g2 := take_len h2
      split
      · rename_i h3
        have g3 := take_len h3
        simp only [List.length_drop, List.length_cons, List.length_nil] at g2 g3
        exact ⟨by decide, by decide, rfl, by omega⟩
      · simp only [List.length_cons, List.length_nil] at g2
        exact ⟨by decide, by decide, rfl, by omega⟩
    · split
      · rename_i h2
        have g2 := take_len h2
        simp only [List.length_cons, List.length_nil] at g2
        exact ⟨by decide, by decide, rfl, by omega⟩
      · exact ⟨by decide, by decide, rfl, by omega⟩
theorem places_le (p : Pic) (D : List Nat) : (placesL p D).2 ≤ D.length := by
  unfold placesL
  simp only
  have h1 := plN_le D
  split
  · rename_i h
    have h2 := take_len h
    have h3 := hsN_le (List.drop 1 (List.drop (plN D) D))
    simp only [List.length_drop, List.length_cons, List.length_nil] at h2 h3
    show plN D + 1 + hsN (List.drop 1 (List.drop (plN D) D)) ≤ D.length
    omega
  · exact h1
abbrev uA (x : PySem.Str) (a : Int) : Pic × Nat := aheadL pic0 (suf x a)
abbrev vA (x : PySem.Str) (a : Int) : Pic × Nat := placesL (uA x a).1 (suf x (a + (uA x a).2))
abbrev bA (x : PySem.Str) (a : Int) : Int := a + (uA x a).2 + (vA x a).2
theorem o_behind : PySem.Str.ofString "behind" = St [98, 101, 104, 105, 110, 100] := by decide +kernel
theorem o_pbehind : PySem.Str.ofString "+behind" = St [43, 98, 101, 104, 105, 110, 100] := by decide +kernel
theorem o_mbehind : PySem.Str.ofString "-behind" = St [45, 98, 101, 104, 105, 110, 100] := by decide +kernel
section
variable {x : PySem.Str} {a : Int}
theorem vA_eq (h0 : 0 ≤ a) : vA x a = placesL (aheadL pic0 (suf x a)).1 ((suf x a).drop (aheadL pic0 (suf x a)).2) := by unfold vA uA; rw [suf_add _ h0]
theorem bA_suf (h0 : 0 ≤ a) : suf x (bA x a) = (suf x a).drop ((uA x a).2 + (vA x a).2) := by
  unfold bA; rw [suf_add _ (by omega), suf_add _ h0, List.drop_drop]
theorem pm_of {b : Int} {v : Bool} (h0 : 0 ≤ b) (h : ([PySem.Str.ofString "+", PySem.Str.ofString "-"].any fun y => y == Txt.slice x (some b) (some (b + 1))) = v) : ((suf x b).take 1 = [43] ∨ (suf x b).take 1 = [45]) = (v = true) := by
  simp only [List.any_cons, List.any_nil, Bool.or_false, beq_swap _ (Txt.slice _ _ _), suf_is1 h0 o_plus, suf_is1 h0 o_minus] at h
  subst h; simp
theorem pm_lt {b : Int} (h : ([PySem.Str.ofString "+", PySem.Str.ofString "-"].any fun y => y == Txt.slice x (some b) (some (b + 1))) = true) (hn : ¬ b < x.length) (h0 : 0 ≤ b) : False := by
  have hc := (iff_of_eq (pm_of h0 h)).mpr rfl
  rw [suf_out (by omega)] at hc
  simp at hc
theorem pm_item {b : Int} (h : ([PySem.Str.ofString "+", PySem.Str.ofString "-"].any fun y => y == Txt.slice x (some b) (some (b + 1))) = true) (h0 : 0 ≤ b) :
    Txt.item x b ++ PySem.Str.ofString "behind" = if (suf x b).take 1 = [43] then PySem.Str.ofString "+behind" else PySem.Str.ofString "-behind" := by
  have hc := (iff_of_eq (pm_of h0 h)).mpr rfl
  by_cases hb : b < x.length
  · obtain ⟨c, e1, e2, _⟩ := suf_cons h0 hb
    rw [e1] at hc ⊢
    rw [e2, o_behind, st_append, o_pbehind, o_mbehind]
    have hc' : c = 43 ∨ c = 45 := by simpa using hc
    rcases hc' with rfl | rfl
    · rw [if_pos (by rfl)]; rfl
    · rw [if_neg (by simp)]; rfl
  · exact (pm_lt h hb h0).elim
theorem rdL_eq (h0 : 0 ≤ a) : rdL (suf x a) =
    (let w : Pic × Nat := if (suf x (bA x a)).take 4 = [94, 94, 94, 94] then ({ (vA x a).1 with expo := true }, (uA x a).2 + (vA x a).2 + 4) else ((vA x a).1, (uA x a).2 + (vA x a).2)
     let F := (suf x a).drop w.2
     if (w.1.sign == PySem.Str.ofString "") = true ∧ (F.take 1 = [43] ∨ F.take 1 = [45]) then ({ w.1 with sign := if F.take 1 = [43] then PySem.Str.ofString "+behind" else PySem.Str.ofString "-behind" }, w.2 + 1) else w) := by
  rw [bA_suf h0, vA_eq h0]; rfl
theorem rd_b4 (h0 : 0 ≤ a) : (suf x a).drop ((uA x a).2 + (vA x a).2 + 4) = suf x (bA x a + 4) := by
  rw [suf_add4 (by unfold bA; omega), bA_suf h0, List.drop_drop]
theorem rd1 (h0 : 0 ≤ a) (e4 : (Txt.slice x (some (bA x a)) (some (bA x a + 4)) == PySem.Str.ofString "^^^^") = true) (sg : ((vA x a).1.sign == PySem.Str.ofString "") = true)
    (an : ([PySem.Str.ofString "+", PySem.Str.ofString "-"].any fun y => y == Txt.slice x (some (bA x a + 4)) (some (bA x a + 4 + 1))) = true) :
    (rdL (suf x a)).1 = ⟨(vA x a).1.left, (vA x a).1.right, (vA x a).1.point, (vA x a).1.star, (vA x a).1.dollar, (vA x a).1.comma, true, Txt.item x (bA x a + 4) ++ PySem.Str.ofString "behind"⟩ ∧ bA x a + 4 + 1 = a + (rdL (suf x a)).2 := by
  have hb : 0 ≤ bA x a := by unfold bA; omega
  have hp := (iff_of_eq (pm_of (by omega) an)).mpr rfl
  have hi := pm_item an (by omega)
  rw [suf_is4 hb o_cc, decide_eq_true_eq] at e4
  rw [rdL_eq h0]
  simp only [e4, if_true, rd_b4 h0, sg, hp, and_self, true_and]
  rw [hi]
  exact ⟨rfl, by unfold bA; omega⟩
theorem rd3 (h0 : 0 ≤ a) (e4 : (Txt.slice x (some (bA x a)) (some (bA x a + 4)) == PySem.Str.ofString "^^^^") = true)
    (an : ([PySem.Str.ofString "+", PySem.Str.ofString "-"].any fun y => y == Txt.slice x (some (bA x a + 4)) (some (bA x a + 4 + 1))) = false) :
    (rdL (suf x a)).1 = ⟨(vA x a).1.left, (vA x a).1.right, (vA x a).1.point, (vA x a).1.star, (vA x a).1.dollar, (vA x a).1.comma, true, (vA x a).1.sign⟩ ∧ bA x a + 4 = a + (rdL (suf x a)).2 := by
  have hb : 0 ≤ bA x a := by unfold bA; omega
  have hp : ¬ _ := fun q => Bool.false_ne_true ((iff_of_eq (pm_of (x := x) (b := bA x a + 4) (by omega) an)).mp q)
  rw [suf_is4 hb o_cc, decide_eq_true_eq] at e4
  rw [rdL_eq h0]
  simp only [e4, if_true, rd_b4 h0, hp, and_false, if_false]
  exact ⟨trivial, by unfold bA; omega⟩
theorem rd4 (h0 : 0 ≤ a) (e4 : (Txt.slice x (some (bA x a)) (some (bA x a + 4)) == PySem.Str.ofString "^^^^") = true) (sg : ((vA x a).1.sign == PySem.Str.ofString "") = false) :
    (rdL (suf x a)).1 = ⟨(vA x a).1.left, (vA x a).1.right, (vA x a).1.point, (vA x a).1.star, (vA x a).1.dollar, (vA x a).1.comma, true, (vA x a).1.sign⟩ ∧ bA x a + 4 = a + (rdL (suf x a)).2 := by
  have hb : 0 ≤ bA x a := by unfold bA; omega
  rw [suf_is4 hb o_cc, decide_eq_true_eq] at e4
  rw [rdL_eq h0]
  simp only [e4, if_true, sg, Bool.false_eq_true, false_and, if_false]
  exact ⟨trivial, by unfold bA; omega⟩
theorem rd5 (h0 : 0 ≤ a) (e4 : (Txt.slice x (some (bA x a)) (some (bA x a + 4)) == PySem.Str.ofString "^^^^") = false) (sg : ((vA x a).1.sign == PySem.Str.ofString "") = true)
    (an : ([PySem.Str.ofString "+", PySem.Str.ofString "-"].any fun y => y == Txt.slice x (some (bA x a)) (some (bA x a + 1))) = true) :
    (rdL (suf x a)).1 = ⟨(vA x a).1.left, (vA x a).1.right, (vA x a).1.point, (vA x a).1.star, (vA x a).1.dollar, (vA x a).1.comma, (vA x a).1.expo, Txt.item x (bA x a) ++ PySem.Str.ofString "behind"⟩ ∧ bA x a + 1 = a + (rdL (suf x a)).2 := by
  have hb : 0 ≤ bA x a := by unfold bA; omega
  have hp := (iff_of_eq (pm_of hb an)).mpr rfl
  have hi := pm_item an hb
  rw [suf_is4 hb o_cc, decide_eq_false_iff_not] at e4
  rw [rdL_eq h0]
  simp only [e4, if_false, ← bA_suf h0, sg, hp, and_self, true_and, if_true]
  rw [hi]
  exact ⟨rfl, by unfold bA; omega⟩
theorem rd7 (h0 : 0 ≤ a) (e4 : (Txt.slice x (some (bA x a)) (some (bA x a + 4)) == PySem.Str.ofString "^^^^") = false)
    (an : ([PySem.Str.ofString "+", PySem.Str.ofString "-"].any fun y => y == Txt.slice x (some (bA x a)) (some (bA x a + 1))) = false) :
    (rdL (suf x a)).1 = ⟨(vA x a).1.left, (vA x a).1.right, (vA x a).1.point, (vA x a).1.star, (vA x a).1.dollar, (vA x a).1.comma, (vA x a).1.expo, (vA x a).1.sign⟩ ∧ bA x a = a + (rdL (suf x a)).2 := by
  have hb : 0 ≤ bA x a := by unfold bA; omega
  have hp : ¬ _ := fun q => Bool.false_ne_true ((iff_of_eq (pm_of (x := x) (b := bA x a) hb an)).mp q)
  rw [suf_is4 hb o_cc, decide_eq_false_iff_not] at e4
  rw [rdL_eq h0]
  simp only [e4, if_false, ← bA_suf h0, hp, and_false]
  exact ⟨trivial, by unfold bA; omega⟩
theorem rd8 (h0 : 0 ≤ a) (e4 : (Txt.slice x (some (bA x a)) (some (bA x a + 4)) == PySem.Str.ofString "^^^^") = false) (sg : ((vA x a).1.sign == PySem.Str.ofString "") = false) :
    (rdL (suf x a)).1 = ⟨(vA x a).1.left, (vA x a).1.right, (vA x a).1.point, (vA x a).1.star, (vA x a).1.dollar, (vA x a).1.comma, (vA x a).1.expo, (vA x a).1.sign⟩ ∧ bA x a = a + (rdL (suf x a)).2 := by
  have hb : 0 ≤ bA x a := by unfold bA; omega
  rw [suf_is4 hb o_cc, decide_eq_false_iff_not] at e4
  rw [rdL_eq h0]
  simp only [e4, if_false, sg, Bool.false_eq_true, false_and]
  exact ⟨trivial, by unfold bA; omega⟩
end

-- piece 09
-- needs: 08
-- pure
/-- a picture with an exponent and no more -/
def ExpoPic (p : Pic) : Prop := p = ⟨p.left, p.right, p.point, false, false, false, true, Str.ofString ""⟩
/-- a picture that shows numbers in bounds -/
def GP (p : Pic) : Prop := (p.expo = false ∧ 0 ≤ p.left ∧ p.left ≤ 30 ∧ 0 ≤ p.right ∧ p.right ≤ 10) ∨ (ExpoPic p ∧ p.expo = true ∧ p.comma = false ∧ 2 ≤ p.left ∧ p.left ≤ 10 ∧ 0 ≤ p.right ∧ p.right ≤ 10)
/-- number_by -/
def shw (p : Pic) (c e : Int) : List Nat :=
  if p.expo = true then nbO p (decide (c < 0)) (wx1 (max (p.left - 1) 0) p.right c.natAbs e) (wx2 (max (p.left - 1) 0) p.right c.natAbs e) (wx3 (max (p.left - 1) 0) p.right c.natAbs e)
  else nbO p (decide (c < 0)) ((padL (scl c.natAbs e p.right) (p.right + 1) []).take ((padL (scl c.natAbs e p.right) (p.right + 1) []).length - p.right.toNat)) ((padL (scl c.natAbs e p.right) (p.right + 1) []).drop ((padL (scl c.natAbs e p.right) (p.right + 1) []).length - p.right.toNat)) []

-- piece 10
-- needs: 02
/-- the contract of a def: at any state that the frames allow, with arguments that meet H over the ledger, it ends with R. -/
def Con (f : Addr) (d : Nat) (vs : List Value) (H : Params → List (Addr × Obj) → Prop) (R : Params → List (Addr × Obj) → Value → List (Addr × Obj) → Prop) : Prop :=
  ∀ (w : World) (mean : ExcName → Option Value) (mg mb : Str → Option Value) (dp un : Nat) (gd : Option (List Code)) (cn : Str) (cs : Scope) (a : Addr) (ccd : Value) (cl : List (Str × Addr)) (outer : List Env) (A₀ : Around) (base h₀ : Heap) (L : Addr) (m : Str → Option Value) (news : List (Addr × Obj)) (s : Shared) (Q E : Value → Shared → Prop),
    Below A₀ base outer h₀ → Fr h₀ L s.heap m → (hd.heap_39 w.params).In h₀ → News h₀ L s.heap news → Top hd.view_39 (looseW hd.view_39 [Str.ofString "BasicError"]) mean mg mb h₀ → cs.kind = .function → dp + d < recursionLimit → un + 8 * d < cLine → H w.params news →
    (∀ (v : Value) (nx : List (Addr × Obj)) (h' : Heap) (tk' : Nat), R w.params news v nx → Fr h₀ L h' m → News h₀ L h' nx → Q v { s with heap := h', toks := tk' }) →
    wpAny (model PySem.Challenge.rw_sa0063_01.row.prog w) (ktrTop dp un gd cn cs L a ccd cl outer) (call (.ref f) vs) Q E s

theorem con_use {f : Addr} {d : Nat} {vs : List Value} {H : Params → List (Addr × Obj) → Prop} {R : Params → List (Addr × Obj) → Value → List (Addr × Obj) → Prop} (C : Con f d vs H R)
    {w : World} {mean : ExcName → Option Value} {mg mb : Str → Option Value} {dp un : Nat} {gd : Option (List Code)} {cn : Str} {cs : Scope} {a : Addr} {ccd : Value} {cl : List (Str × Addr)} {outer : List Env} {A₀ : Around} {base h₀ : Heap} {L : Addr} {m : Str → Option Value} {news : List (Addr × Obj)} {s : Shared} {Q E : Value → Shared → Prop}
    (B : Below A₀ base outer h₀) (F : Fr h₀ L s.heap m) (X : (hd.heap_39 w.params).In h₀) (N : News h₀ L s.heap news) (T : Top hd.view_39 (looseW hd.view_39 [Str.ofString "BasicError"]) mean mg mb h₀) (hk : cs.kind = .function) (hH : H w.params news) (hd : dp + d < recursionLimit) (hu : un + 8 * d < cLine)
    (k : ∀ (v : Value) (nx : List (Addr × Obj)) (h' : Heap) (tk' : Nat), R w.params news v nx → Fr h₀ L h' m → News h₀ L h' nx → Q v { s with heap := h', toks := tk' }) :
    wpAny (model PySem.Challenge.rw_sa0063_01.row.prog w) (ktrTop dp un gd cn cs L a ccd cl outer) (call (.ref f) vs) Q E s :=
  C w mean mg mb dp un gd cn cs a ccd cl outer A₀ base h₀ L m news s Q E B F X N T hk hd hu hH k

/-- an int, a text, a bool that comes back; the ledger as it stood -/
def RV (R : Tok → Value) (_ : Params) (news : List (Addr × Obj)) (v : Value) (nx : List (Addr × Obj)) : Prop := (∃ t, v = R t) ∧ nx = news

theorem con_ret {h₀ : Heap} {L : Addr} {m : Str → Option Value} {s : Shared} {Q : Value → Shared → Prop} {news : List (Addr × Obj)} {P : Params} {R : Params → List (Addr × Obj) → Value → List (Addr × Obj) → Prop}
    (k : ∀ (v : Value) (nx : List (Addr × Obj)) (h' : Heap) (tk' : Nat), R P news v nx → Fr h₀ L h' m → News h₀ L h' nx → Q v { s with heap := h', toks := tk' })
    {v : Value} {nx nx' : List (Addr × Obj)} {h' : Heap} {tk' : Nat} (hR : R P news v nx) (F : Fr h₀ L h' m) (N : News h₀ L h' nx') (hs : ∀ p ∈ nx, p ∈ nx') : Q v { s with heap := h', toks := tk' } :=
  k v nx h' tk' hR F fun p hp => N p (hs p hp)


theorem ret_V {h₀ : Heap} {L : Addr} {m : Str → Option Value} {s : Shared} {Q : Value → Shared → Prop} {news : List (Addr × Obj)} {P : Params} {R : Tok → Value}
    (k : ∀ (v : Value) (nx : List (Addr × Obj)) (h' : Heap) (tk' : Nat), RV R P news v nx → Fr h₀ L h' m → News h₀ L h' nx → Q v { s with heap := h', toks := tk' })
    {v : Value} {nx' : List (Addr × Obj)} {h' : Heap} {tk' : Nat} (F : Fr h₀ L h' m) (N : News h₀ L h' nx') (hs : ∀ p ∈ news, p ∈ nx') (hv : ∃ t, v = R t) : Q v { s with heap := h', toks := tk' } :=
  k v news h' tk' ⟨hv, rfl⟩ F fun p hp => N p (hs p hp)
theorem RV.elim {R : Tok → Value} {P : Params} {news nx : List (Addr × Obj)} {v : Value} {G : Value → List (Addr × Obj) → Prop} (h : RV R P news v nx) (k : ∀ t, G (R t) news) : G v nx := by
  obtain ⟨⟨t, rfl⟩, rfl⟩ := h; exact k t
theorem sub_refl {l : List (Addr × Obj)} : ∀ p ∈ l, p ∈ l := fun _ h => h
theorem sub_cons {l l' : List (Addr × Obj)} {q : Addr × Obj} (h : ∀ p ∈ l, p ∈ l') : ∀ p ∈ l, p ∈ q :: l' := fun p hp => .tail _ (h p hp)
theorem int_eq {x y : Int} {t : Tok} (h : x = y) : ∃ t', Value.int x t = Value.int y t' := ⟨t, by rw [h]⟩
theorem str_eq {x y : PySem.Str} {t : Tok} (h : x = y) : ∃ t', Value.str x t = Value.str y t' := ⟨t, by rw [h]⟩
theorem bool_eq {x y : Bool} (h : x = y) : ∃ _t : Tok, Value.bool x = Value.bool y := ⟨0, by rw [h]⟩

-- @use
local macro_rules | `(tactic| size_fits) => `(tactic| exact Nat.le_of_ble_eq_true rfl)
local macro_rules | `(tactic| ktr_room) => `(tactic| first
  | ((with_reducible rename _ < recursionLimit => hdp9); refine Nat.lt_of_le_of_lt ?_ hdp9; (try simp only [depth_under_make, depth_under_kw, depth_in1, depth_deeper, depth_caller]); (try dsimp only [ktrTop]); omega)
  | ((simp only [depth_under_make, depth_under_kw, depth_in1, depth_deeper, depth_caller]); decide))
local macro_rules | `(tactic| ktr_units) => `(tactic| first
  | ((with_reducible rename _ < cLine => hun9); refine Nat.lt_of_le_of_lt ?_ hun9; (try simp only [units_in1, units_deeper, Around.mark_units, units_caller]); (try dsimp only [ktrTop]); omega)
  | ((have hcL9 := cLine_is); (simp only [units_in1, units_deeper, Around.mark_units, units_caller]); omega))
-- @end
-- @use
local macro_rules | `(tactic| walk_at "U in") => `(tactic| (
  unfold Con; k_fill
  intro w mean mg mb dp un gd cn cs a ccd cl outer A₀ base h₀ L m news s Q E B F X N T hk hdp hu hH hret
  refine wpAny_call ?_
  k_dflt cell_enter))
local macro_rules | `(tactic| walk_at "U sub") => `(tactic| (first | exact sub_refl | exact sub_cons sub_refl | exact sub_cons (sub_cons sub_refl) | exact sub_cons (sub_cons (sub_cons sub_refl)) | exact sub_cons (sub_cons (sub_cons (sub_cons sub_refl))) | exact sub_cons (sub_cons (sub_cons (sub_cons (sub_cons sub_refl)))) | exact sub_cons (sub_cons (sub_cons (sub_cons (sub_cons (sub_cons sub_refl)))))))
local macro_rules | `(tactic| walk_at "U ret") => `(tactic| (refine' ret_V (by assumption) ?eF ?eN ?eS ?_; (case eF => k_asm); (case eN => k_asm); (case eS => walk_at "U sub")))
local macro_rules | `(tactic| walk_at "U use") => `(tactic| (
  (case cB => first | k_asm | ktn_no "U use: the frames below"); (case cF => first | k_asm | ktn_no "U use: the frame"); (case cX => first | k_asm | ktn_no "U use: the written part"); (case cN => first | k_asm | ktn_no "U use: the ledger"); (case cT => first | k_asm | ktn_no "U use: the top"); (case cK => first | exact rfl | assumption | ktn_no "U use: the caller is no def"); (case cD => first | ktr_room | ktn_no "U use: the room"); (case cU => first | ktr_units | ktn_no "U use: the units")))
local macro_rules | `(tactic| walk_at "U RV") => `(tactic| (intro v9 nx9 h9 tk9 hR9 F9 N9; obtain ⟨⟨t9, e9⟩, e9'⟩ := hR9; subst e9; subst e9'; (try dsimp only); (try k_fold)))
-- @end
section
variable {prog : Program} {w : World} {A : Around} {E : Value → Shared → Prop} {s : Shared} {a b : Int} {t u : Tok} {Q : Value → Shared → Prop}
theorem fdivP (hb : 0 < b) (hl : b.natAbs.log2 < 9000) (h : Q (.int (a / b) s.toks) { s with toks := s.toks + 1 }) : wpAny (model prog w) A (binaryOp .FloorDiv (.int a t) (.int b u)) Q E s :=
  floordiv_int (Int.ne_of_gt hb) (by rw [fdiv_pos hb]; exact h) (Or.inl (PyProof.noPylong_of_log2 hl))
theorem fmodP (hb : 0 < b) (h : Q (.int (a % b) s.toks) { s with toks := s.toks + 1 }) : wpAny (model prog w) A (binaryOp .Mod (.int a t) (.int b u)) Q E s :=
  mod_int' (Int.ne_of_gt hb) (by rw [fmod_pos hb]; exact h)
theorem minP {h₀ : Heap} {L : Addr} {m : Str → Option Value} {news : List (Addr × Obj)} (hh : A.handled = none) (F : Fr h₀ L s.heap m) (N : News h₀ L s.heap news)
    (h : ∀ u h' tk, Fr h₀ L h' m → News h₀ L h' news → Q (.int (min a b) u) { s with heap := h', toks := tk }) : wpAny (model prog w) A (call (.builtin "min") [.int a t, .int b u]) Q E s :=
  min_two_N hh F N fun h' tk F N => by rw [show (if b < a then b else a) = min a b from by split <;> omega]; exact h _ _ _ F N
theorem maxP {h₀ : Heap} {L : Addr} {m : Str → Option Value} {news : List (Addr × Obj)} (hh : A.handled = none) (F : Fr h₀ L s.heap m) (N : News h₀ L s.heap news)
    (h : ∀ u h' tk, Fr h₀ L h' m → News h₀ L h' news → Q (.int (max a b) u) { s with heap := h', toks := tk }) : wpAny (model prog w) A (call (.builtin "max") [.int a t, .int b u]) Q E s :=
  max_two_N hh F N fun h' tk F N => by rw [show (if b > a then b else a) = max a b from by split <;> omega]; exact h _ _ _ F N
theorem absP (h : ∀ u tk, Q (.int (a.natAbs : Int) u) { s with toks := tk }) : wpAny (model prog w) A (call (.builtin "abs") [.int a t]) Q E s :=
  call_abs_int fun u tk => by rw [show (if a < 0 then -a else a) = (a.natAbs : Int) from by split <;> omega]; exact h u tk
end
-- @use
local macro_rules | `(tactic| walk_at "call builtin:min") => `(tactic| (k_here; (with_reducible show wpAny _ _ (call (Value.builtin "min") [Value.int _ _, Value.int _ _] _) _ _ _); (refine minP rfl (by k_asm) (by k_asm) ?_); intro _ _ _ F' N'; (try k_sweep)))
local macro_rules | `(tactic| walk_at "call builtin:max") => `(tactic| (k_here; (with_reducible show wpAny _ _ (call (Value.builtin "max") [Value.int _ _, Value.int _ _] _) _ _ _); (refine maxP rfl (by k_asm) (by k_asm) ?_); intro _ _ _ F' N'; (try k_sweep)))
local macro_rules | `(tactic| walk_at "call builtin:abs") => `(tactic| (k_here; (with_reducible refine absP ?_); intro _ _))
local macro_rules | `(tactic| walk_at "binaryOp FloorDiv int int") => `(tactic| (k_here; with_reducible (refine' fdivP ?ga ?gb ?_); (case ga => first | exact pow10_lt _ | decide); (case gb => first | exact pow10_log (by omega) | exact pow10_log (by (rw [Int.min_def]; split) <;> omega) | decide +kernel)))
local macro_rules | `(tactic| walk_at "binaryOp Mod int int") => `(tactic| (k_here; with_reducible (refine' fmodP ?ga ?_); (case ga => first | exact pow10_lt _ | decide)))
-- @end
-- @use
local macro_rules | `(tactic| walk_at "U sz") => `(tactic| ((try simp only [PySem.sizeLine_eq, PySem.Str.length_append]); omega))
local macro_rules | `(tactic| walk_at "call builtin:len") => `(tactic| (k_here; (with_reducible show wpAny _ _ (call (Value.builtin "len") [Value.str _ _] _) _ _ _); (refine P.len_str (by walk_at "U sz") ?_)))
local macro_rules | `(tactic| walk_at "binaryOp Add str str") => `(tactic| (k_here; (with_reducible show wpAny _ _ (binaryOp Operator.Add (Value.str _ _) (Value.str _ _)) _ _ _); (refine KOpn.add (by walk_at "U sz") ?_); intro _ _ _))
-- @end
/-- says the int at which two ways are to meet -/
def JR (_ : Int) : Prop := True
theorem jr (R : Int) : JR R := trivial
/-- two ways meet: the name x holds the int R -/
def JoinI (h₀ : Heap) (L : Addr) (s : Shared) (m : Str → Option Value) (news : List (Addr × Obj)) (x : Str) (R : Int) (f : Flow) (s' : Shared) : Prop :=
  f = .next ∧ ∃ t h' tk, s' = { s with heap := h', toks := tk } ∧ Fr h₀ L h' (fun y => if y = x then some (.int R t) else m y) ∧ News h₀ L h' news
section
variable {M : Model} {A : Around} {E : Value → Shared → Prop} {s : Shared} {h₀ h' : Heap} {L : Addr} {m : Str → Option Value} {news nx : List (Addr × Obj)} {x : Str} {R R' : Int} {t : Tok} {tk : Nat}
theorem joinI {c : Sem Flow} {Q : Flow → Shared → Prop} (x : Str) (_ : JR R) (_F : Fr h₀ L s.heap m) (_N : News h₀ L s.heap news) (h : wpAny M A c (JoinI h₀ L s m news x R) E s)
    (k : ∀ t h' tk, Fr h₀ L h' (fun y => if y = x then some (.int R t) else m y) → News h₀ L h' news → Q .next { s with heap := h', toks := tk }) : wpAny M A c Q E s := by
  refine wpAny_mono h (fun f s' hj => ?_) fun _ _ h => h
  obtain ⟨rfl, t, h', tk, rfl, F, N⟩ := hj
  exact k t h' tk F N
theorem joinI_set (F : Fr h₀ L h' (fun y => if y = x then some (.int R' t) else m y)) (N : News h₀ L h' nx) (hs : ∀ p ∈ news, p ∈ nx) (e : R' = R) : JoinI h₀ L s m news x R .next { s with heap := h', toks := tk } := by
  subst e
  exact ⟨rfl, t, h', tk, rfl, F, fun p hp => N p (hs p hp)⟩
theorem joinI_same (F : Fr h₀ L h' m) (N : News h₀ L h' nx) (hs : ∀ p ∈ news, p ∈ nx) (hm : m x = some (.int R' t)) (e : R' = R) : JoinI h₀ L s m news x R .next { s with heap := h', toks := tk } := by
  subst e
  refine ⟨rfl, t, h', tk, rfl, ?_, fun p hp => N p (hs p hp)⟩
  have em : (fun y => if y = x then some (.int R' t) else m y) = m := by
    funext y
    by_cases hy : y = x
    · rw [if_pos hy, hy, hm]
    · rw [if_neg hy]
  rw [em]; exact F
end
-- @use
local macro_rules | `(tactic| walk_at "JoinI") => `(tactic| (first
  | (refine' joinI_set ?jF ?jN ?jS ?jE; (case jF => assumption); (case jN => assumption); (case jS => walk_at "U sub"); (case jE => walk_at "U je"))
  | (refine' joinI_same ?jF ?jN ?jS ?jM ?jE; (case jF => assumption); (case jN => assumption); (case jS => walk_at "U sub"); (case jM => exact rfl); (case jE => walk_at "U je"))))
-- @end
/-- off a fresh address -/
theorem offNe {l : List (Addr × Obj)} {d : Addr} (h : ∀ p ∈ l, p.1 < d) : ∀ p ∈ l, p.1 ≠ d := fun p hp => Nat.ne_of_lt (h p hp)
theorem lenLit {prog : Program} {w : World} {A : Around} {E : Value → Shared → Prop} {s : Shared} {l : Addr} {items : Array Value} {k : Int} {Q : Value → Shared → Prop} (hl : s.heap.IsList l items) (hk : (items.size : Int) = k) (hfit : k < 2 ^ 63)
    (h : Q (.int k (s.toks + 1)) { s with toks := s.toks + 1 + 1 }) : wpAny (model prog w) A (call (.builtin "len") [.ref l]) Q E s := by
  subst hk; exact len_list hl hfit h
-- @use
local macro_rules | `(tactic| k_mem) => `(tactic| (first
  | exact List.Mem.head _
  | exact List.Mem.tail _ (List.Mem.head _)
  | exact List.Mem.tail _ (List.Mem.tail _ (List.Mem.head _))
  | exact List.Mem.tail _ (List.Mem.tail _ (List.Mem.tail _ (List.Mem.head _)))
  | exact List.Mem.tail _ (List.Mem.tail _ (List.Mem.tail _ (List.Mem.tail _ (List.Mem.head _))))
  | exact List.Mem.tail _ (List.Mem.tail _ (List.Mem.tail _ (List.Mem.tail _ (List.Mem.tail _ (List.Mem.head _)))))
  | exact List.Mem.tail _ (List.Mem.tail _ (List.Mem.tail _ (List.Mem.tail _ (List.Mem.tail _ (List.Mem.tail _ (List.Mem.head _))))))
  | exact List.Mem.tail _ (List.Mem.tail _ (List.Mem.tail _ (List.Mem.tail _ (List.Mem.tail _ (List.Mem.tail _ (List.Mem.tail _ (List.Mem.head _)))))))
  | exact List.Mem.tail _ (List.Mem.tail _ (List.Mem.tail _ (List.Mem.tail _ (List.Mem.tail _ (List.Mem.tail _ (List.Mem.tail _ (List.Mem.tail _ (List.Mem.head _))))))))
  | exact List.Mem.tail _ (List.Mem.tail _ (List.Mem.tail _ (List.Mem.tail _ (List.Mem.tail _ (List.Mem.tail _ (List.Mem.tail _ (List.Mem.tail _ (List.Mem.tail _ (List.Mem.head _)))))))))
  | ((with_reducible rename (_ : Addr × Obj) ∈ (_ : List (Addr × Obj)) => hm9); first
    | assumption
    | exact List.Mem.tail _ ((by assumption))
    | exact List.Mem.tail _ (List.Mem.tail _ ((by assumption)))
    | exact List.Mem.tail _ (List.Mem.tail _ (List.Mem.tail _ ((by assumption))))
    | exact List.Mem.tail _ (List.Mem.tail _ (List.Mem.tail _ (List.Mem.tail _ ((by assumption)))))
    | exact List.Mem.tail _ (List.Mem.tail _ (List.Mem.tail _ (List.Mem.tail _ (List.Mem.tail _ ((by assumption))))))
    | exact List.Mem.tail _ (List.Mem.tail _ (List.Mem.tail _ (List.Mem.tail _ (List.Mem.tail _ (List.Mem.tail _ ((by assumption)))))))
    | exact List.Mem.tail _ (List.Mem.tail _ (List.Mem.tail _ (List.Mem.tail _ (List.Mem.tail _ (List.Mem.tail _ (List.Mem.tail _ ((by assumption))))))))
    | exact List.Mem.tail _ (List.Mem.tail _ (List.Mem.tail _ (List.Mem.tail _ (List.Mem.tail _ (List.Mem.tail _ (List.Mem.tail _ (List.Mem.tail _ ((by assumption)))))))))
    | exact List.Mem.tail _ (List.Mem.tail _ (List.Mem.tail _ (List.Mem.tail _ (List.Mem.tail _ (List.Mem.tail _ (List.Mem.tail _ (List.Mem.tail _ (List.Mem.tail _ ((by assumption)))))))))))))
-- @end
-- @use
local macro_rules | `(tactic| walk_at "subscriptTail Name Slice str ref") => `(tactic| (k_here; (with_reducible show wpAny _ _ (subscriptTail _ (Expr.Slice none (some _) none _) (Value.str _ _) _) _ _ _); (with_reducible rename Fr _ _ _ _ => F'); (with_reducible rename News _ _ _ _ => N'); (refine slice_strN_ns (hsz := ?hsz) (s := ⟨_, _, _, _, _⟩) F' N' ?_); (case hsz => walk_at "U sz"); clear F' N'; intro h' _ _ F' N'))
local macro_rules | `(tactic| walk_at "subscriptTail Name Slice str ref") => `(tactic| (k_here; (with_reducible show wpAny _ _ (subscriptTail _ (Expr.Slice (some _) none none _) (Value.str _ _) _) _ _ _); (with_reducible rename Fr _ _ _ _ => F'); (with_reducible rename News _ _ _ _ => N'); (refine slice_strN_sn (hsz := ?hsz) (s := ⟨_, _, _, _, _⟩) F' N' ?_); (case hsz => walk_at "U sz"); clear F' N'; intro h' _ _ F' N'))
local macro_rules | `(tactic| walk_at "subscriptTail Name Slice str ref") => `(tactic| (k_here; (with_reducible show wpAny _ _ (subscriptTail _ (Expr.Slice (some _) (some _) none _) (Value.str _ _) _) _ _ _); (with_reducible rename Fr _ _ _ _ => F'); (with_reducible rename News _ _ _ _ => N'); (refine slice_strN_ss (hsz := ?hsz) (s := ⟨_, _, _, _, _⟩) F' N' ?_); (case hsz => walk_at "U sz"); clear F' N'; intro h' _ _ F' N'))
-- @end
-- @use
local macro_rules | `(tactic| walk_at "binaryOp Pow int int") => `(tactic| (k_here; (with_reducible refine pow_int_small ?g1 ?g2 ?g3 ?_); (case g1 => omega); (case g2 => omega); (case g3 => decide)))
local macro_rules | `(tactic| walk_at "binaryOp Mult int int") => `(tactic| (k_here; (with_reducible refine mul_int ?_ ?g1); (case g1 => first | exact PySem.IntMulOk.of_left (PySem.intBits_le_64 (by omega) (by omega)) | exact PySem.IntMulOk.of_right (PySem.intBits_le_64 (by omega) (by omega)))))
-- @end
/-- the values at which ways are to meet, in their order -/
def JK (_ : List (Tok → Value)) : Prop := True
theorem jk (l : List (Tok → Value)) : JK l := trivial
/-- ways meet in a value -/
def JoinV (h₀ : Heap) (L : Addr) (s : Shared) (m : Str → Option Value) (news : List (Addr × Obj)) (R : Tok → Value) (v : Value) (s' : Shared) : Prop :=
  ∃ t h' tk, v = R t ∧ s' = { s with heap := h', toks := tk } ∧ Fr h₀ L h' m ∧ News h₀ L h' news
/-- ways meet: the name x holds R -/
def JoinX (h₀ : Heap) (L : Addr) (s : Shared) (m : Str → Option Value) (news : List (Addr × Obj)) (x : Str) (R : Tok → Value) (f : Flow) (s' : Shared) : Prop :=
  f = .next ∧ ∃ t h' tk, s' = { s with heap := h', toks := tk } ∧ Fr h₀ L h' (fun y => if y = x then some (R t) else m y) ∧ News h₀ L h' news
section
variable {M : Model} {A : Around} {E : Value → Shared → Prop} {s : Shared} {h₀ h' : Heap} {L : Addr} {m : Str → Option Value} {news nx : List (Addr × Obj)} {x : Str} {R : Tok → Value} {Rs : List (Tok → Value)} {t : Tok} {tk : Nat} {v : Value}
theorem joinV {c : Sem Value} {Q : Value → Shared → Prop} (_ : JK (R :: Rs)) (_F : Fr h₀ L s.heap m) (_N : News h₀ L s.heap news) (h : wpAny M A c (JoinV h₀ L s m news R) E s)
    (k : JK Rs → ∀ t h' tk, Fr h₀ L h' m → News h₀ L h' news → Q (R t) { s with heap := h', toks := tk }) : wpAny M A c Q E s := by
  refine wpAny_mono h (fun f s' hj => ?_) fun _ _ h => h
  obtain ⟨t, h', tk, rfl, rfl, F, N⟩ := hj
  exact k trivial t h' tk F N
theorem joinV_mk (F : Fr h₀ L h' m) (N : News h₀ L h' nx) (hs : ∀ p ∈ news, p ∈ nx) (e : ∃ t, v = R t) : JoinV h₀ L s m news R v { s with heap := h', toks := tk } := by
  obtain ⟨t, rfl⟩ := e
  exact ⟨t, h', tk, rfl, rfl, F, fun p hp => N p (hs p hp)⟩
theorem joinX {c : Sem Flow} {Q : Flow → Shared → Prop} (x : Str) (_ : JK (R :: Rs)) (_F : Fr h₀ L s.heap m) (_N : News h₀ L s.heap news) (h : wpAny M A c (JoinX h₀ L s m news x R) E s)
    (k : JK Rs → ∀ t h' tk, Fr h₀ L h' (fun y => if y = x then some (R t) else m y) → News h₀ L h' news → Q .next { s with heap := h', toks := tk }) : wpAny M A c Q E s := by
  refine wpAny_mono h (fun f s' hj => ?_) fun _ _ h => h
  obtain ⟨rfl, t, h', tk, rfl, F, N⟩ := hj
  exact k trivial t h' tk F N
theorem joinX_set (F : Fr h₀ L h' (fun y => if y = x then some v else m y)) (N : News h₀ L h' nx) (hs : ∀ p ∈ news, p ∈ nx) (e : ∃ t, v = R t) : JoinX h₀ L s m news x R .next { s with heap := h', toks := tk } := by
  obtain ⟨t, rfl⟩ := e
  exact ⟨rfl, t, h', tk, rfl, F, fun p hp => N p (hs p hp)⟩
theorem joinX_same (F : Fr h₀ L h' m) (N : News h₀ L h' nx) (hs : ∀ p ∈ news, p ∈ nx) (hm : m x = some v) (e : ∃ t, v = R t) : JoinX h₀ L s m news x R .next { s with heap := h', toks := tk } := by
  obtain ⟨t, rfl⟩ := e
  refine ⟨rfl, t, h', tk, rfl, ?_, fun p hp => N p (hs p hp)⟩
  have em : (fun y => if y = x then some (R t) else m y) = m := by
    funext y
    by_cases hy : y = x
    · rw [if_pos hy, hy, hm]
    · rw [if_neg hy]
  rw [em]; exact F
end
-- @use
local macro_rules | `(tactic| walk_at "U joinV") => `(tactic| (k_here; (fail_if_success (with_reducible show wpAny _ _ _ (JoinV _ _ _ _ _ _) _ _)); (with_reducible rename Fr _ _ _ _ => jF'); (with_reducible rename News _ _ _ _ => jN'); (with_reducible rename JK _ => jK'); refine' joinV jK' jF' jN' ?_ (fun jK t' h' tk' F' N' => ?_); (clear jK'); rotate_left; (clear jF' jN' jK'; (try dsimp only); (try k_fold)); rotate_left))
local macro_rules | `(tactic| walk_at "JoinV") => `(tactic| (refine' joinV_mk ?jF ?jN ?jS ?jE; (case jF => assumption); (case jN => assumption); (case jS => walk_at "U sub"); (case jE => walk_at "U jv")))
local macro_rules | `(tactic| walk_at "JoinX") => `(tactic| (first
  | (refine' joinX_set ?jF ?jN ?jS ?jE; (case jF => assumption); (case jN => assumption); (case jS => walk_at "U sub"); (case jE => walk_at "U jv"))
  | (refine' joinX_same ?jF ?jN ?jS ?jM ?jE; (case jF => assumption); (case jN => assumption); (case jS => walk_at "U sub"); (case jM => exact rfl); (case jE => walk_at "U jv"))))
-- @end
-- @use
local macro_rules | `(tactic| walk_at "ite") => `(tactic| (k_closed; first | refine ite_pos (by decide +kernel) ?_ | refine ite_neg (by decide +kernel) ?_))
-- @end
/-- as RV, with a fact beside it -/
def RVF (Φ : Prop) (R : Tok → Value) (P : Params) (news : List (Addr × Obj)) (v : Value) (nx : List (Addr × Obj)) : Prop := RV R P news v nx ∧ Φ
theorem ret_VF {h₀ : Heap} {L : Addr} {m : Str → Option Value} {s : Shared} {Q : Value → Shared → Prop} {news : List (Addr × Obj)} {P : Params} {Φ : Prop} {R : Tok → Value}
    (k : ∀ (v : Value) (nx : List (Addr × Obj)) (h' : Heap) (tk' : Nat), RVF Φ R P news v nx → Fr h₀ L h' m → News h₀ L h' nx → Q v { s with heap := h', toks := tk' })
    {v : Value} {nx' : List (Addr × Obj)} {h' : Heap} {tk' : Nat} (F : Fr h₀ L h' m) (N : News h₀ L h' nx') (hs : ∀ p ∈ news, p ∈ nx') (hΦ : Φ) (hv : ∃ t, v = R t) : Q v { s with heap := h', toks := tk' } :=
  ret_V (fun v nx h' tk' r F N => k v nx h' tk' ⟨r, hΦ⟩ F N) F N hs hv
/-- two ways meet: two names hold R1, R2 -/
def JoinX2 (h₀ : Heap) (L : Addr) (s : Shared) (m : Str → Option Value) (news : List (Addr × Obj)) (x1 x2 : Str) (R1 R2 : Tok → Value) (f : Flow) (s' : Shared) : Prop :=
  f = .next ∧ ∃ t1 t2 h' tk, s' = { s with heap := h', toks := tk } ∧ Fr h₀ L h' (fun y => if y = x2 then some (R2 t2) else if y = x1 then some (R1 t1) else m y) ∧ News h₀ L h' news
section
variable {M : Model} {A : Around} {E : Value → Shared → Prop} {s : Shared} {h₀ h' : Heap} {L : Addr} {m : Str → Option Value} {news nx : List (Addr × Obj)} {x1 x2 : Str} {R1 R2 : Tok → Value} {Rs : List (Tok → Value)} {tk : Nat} {v1 v2 : Value}
theorem joinX2 {c : Sem Flow} {Q : Flow → Shared → Prop} (x1 x2 : Str) (_ : JK (R1 :: R2 :: Rs)) (_F : Fr h₀ L s.heap m) (_N : News h₀ L s.heap news) (h : wpAny M A c (JoinX2 h₀ L s m news x1 x2 R1 R2) E s)
    (k : JK Rs → ∀ t1 t2 h' tk, Fr h₀ L h' (fun y => if y = x2 then some (R2 t2) else if y = x1 then some (R1 t1) else m y) → News h₀ L h' news → Q .next { s with heap := h', toks := tk }) : wpAny M A c Q E s := by
  refine wpAny_mono h (fun f s' hj => ?_) fun _ _ h => h
  obtain ⟨rfl, t1, t2, h', tk, rfl, F, N⟩ := hj
  exact k trivial t1 t2 h' tk F N
theorem joinX2_set (F : Fr h₀ L h' (fun y => if y = x2 then some v2 else if y = x1 then some v1 else m y)) (N : News h₀ L h' nx) (hs : ∀ p ∈ news, p ∈ nx) (e1 : ∃ t, v1 = R1 t) (e2 : ∃ t, v2 = R2 t) : JoinX2 h₀ L s m news x1 x2 R1 R2 .next { s with heap := h', toks := tk } := by
  obtain ⟨t1, rfl⟩ := e1
  obtain ⟨t2, rfl⟩ := e2
  exact ⟨rfl, t1, t2, h', tk, rfl, F, fun p hp => N p (hs p hp)⟩
theorem joinX2_same (F : Fr h₀ L h' m) (N : News h₀ L h' nx) (hs : ∀ p ∈ news, p ∈ nx) (h1 : m x1 = some v1) (h2 : m x2 = some v2) (e1 : ∃ t, v1 = R1 t) (e2 : ∃ t, v2 = R2 t) : JoinX2 h₀ L s m news x1 x2 R1 R2 .next { s with heap := h', toks := tk } := by
  obtain ⟨t1, rfl⟩ := e1
  obtain ⟨t2, rfl⟩ := e2
  refine ⟨rfl, t1, t2, h', tk, rfl, ?_, fun p hp => N p (hs p hp)⟩
  have em : (fun y => if y = x2 then some (R2 t2) else if y = x1 then some (R1 t1) else m y) = m := by
    funext y
    by_cases hy : y = x2
    · rw [if_pos hy, hy, h2]
    · rw [if_neg hy]
      by_cases hz : y = x1
      · rw [if_pos hz, hz, h1]
      · rw [if_neg hz]
  rw [em]; exact F
end
-- @use
local macro_rules | `(tactic| walk_at "U retF") => `(tactic| (refine' ret_VF (by assumption) ?eF ?eN ?eS ?eP ?_; (case eF => k_asm); (case eN => k_asm); (case eS => walk_at "U sub")))
local macro_rules | `(tactic| walk_at "U RVF") => `(tactic| (intro v9 nx9 h9 tk9 hR9 F9 N9; obtain ⟨⟨⟨t9, e9⟩, e9'⟩, hf9⟩ := hR9; subst e9; subst e9'; (try dsimp only); (try k_fold)))
local macro_rules | `(tactic| walk_at "U sz") => `(tactic| first | ((try simp only [PySem.sizeLine_eq, PySem.Str.length_append]); omega) | kopn_len)
local macro_rules | `(tactic| walk_at "JoinX2") => `(tactic| (first
  | (refine' joinX2_set ?jF ?jN ?jS ?jE ?jG; (case jF => assumption); (case jN => assumption); (case jS => walk_at "U sub"); (case jE => walk_at "U jv"); (case jG => walk_at "U jv"))
  | (refine' joinX2_same ?jF ?jN ?jS ?jM ?jL ?jE ?jG; (case jF => assumption); (case jN => assumption); (case jS => walk_at "U sub"); (case jM => exact rfl); (case jL => exact rfl); (case jE => walk_at "U jv"); (case jG => walk_at "U jv"))))
-- @end

-- piece 11
-- needs: 01 10
section
local macro_rules | `(tactic| walk_at "exec While Compare cons nil") => `(tactic| (k_while_given ["number"] (fun number _ many bound => FigW number many bound) (fun number _ many bound => (number + 1 - bound).toNat) "many" "bound"))
theorem figures_of_c (n : Int) (tk : Tok) : Con 44 1 [.int n tk] (fun _ _ => True) (RV fun t => .int (figs n) t) := by
  walk_at "U in"
  k_with "state" => first | exact figW0 | exact figW1 (by assumption) (by assumption)
  k_with "measure" => exact figW_pos (by assumption) (by assumption)
  k_steps
  walk_at "U ret"
  exact int_eq (figs_end (by assumption) (by assumption))
end
-- @use
local macro_rules | `(tactic| walk_at "call ref") => `(tactic| (k_here; (with_reducible show wpAny _ _ (call (Value.ref 44) _ _) _ _ _); k_dflt (refine' con_use (figures_of_c _ _) ?cB ?cF ?cX ?cN ?cT ?cK ?cH ?cD ?cU ?_; (case cH => exact True.intro); walk_at "U use"; walk_at "U RV")))
-- @end

-- piece 12
-- needs: 11
theorem rounded_by_c (n p : Int) (t1 t2 : Tok) (hp : p ≤ 100) : Con 51 2 [.int n t1, .int p t2] (fun _ _ => True) (RV fun t => .int (rnd n p) t) := by
  walk_at "U in"
  k_steps
  all_goals (walk_at "U ret"; refine int_eq ?_; unfold rnd)
  all_goals ((repeat' split) <;> first | rfl | omega)
-- @use
local macro_rules | `(tactic| walk_at "call ref") => `(tactic| (k_here; (with_reducible show wpAny _ _ (call (Value.ref 51) _ _) _ _ _); k_dflt (refine' con_use (rounded_by_c _ _ _ _ ?c1) ?cB ?cF ?cX ?cN ?cT ?cK ?cH ?cD ?cU ?_; (case c1 => first | omega | ktn_no "rounded_by"); (case cH => exact True.intro); walk_at "U use"; walk_at "U RV")))
-- @end

-- piece 13
-- needs: 12 03
abbrev tupO (vs : List Value) : Obj := { cls := .type "tuple", data := .seq vs.toArray }
/-- a new pair of ints comes back -/
def RT (a b : Int) (_ : Params) (news : List (Addr × Obj)) (v : Value) (nx : List (Addr × Obj)) : Prop :=
  ∃ D t1 t2, v = .ref D ∧ nx = (D, tupO [.int a t1, .int b t2]) :: news ∧ AllLt D news
theorem ret_T {h₀ : Heap} {L : Addr} {m : Str → Option Value} {s : Shared} {Q : Value → Shared → Prop} {news : List (Addr × Obj)} {P : Params} {a b : Int}
    (k : ∀ (v : Value) (nx : List (Addr × Obj)) (h' : Heap) (tk' : Nat), RT a b P news v nx → Fr h₀ L h' m → News h₀ L h' nx → Q v { s with heap := h', toks := tk' })
    {D : Addr} {nx' : List (Addr × Obj)} {h' : Heap} {tk' : Nat} {x y : Int} {t1 t2 : Tok} (F : Fr h₀ L h' m) (N : News h₀ L h' ((D, tupO [.int x t1, .int y t2]) :: nx')) (hs : ∀ p ∈ news, p ∈ nx') (hl : AllLt D news) (hx : x = a) (hy : y = b) : Q (.ref D) { s with heap := h', toks := tk' } := by
  subst hx; subst hy
  exact k _ _ h' tk' ⟨D, t1, t2, rfl, rfl, hl⟩ F fun p hp => by
    rcases List.mem_cons.mp hp with rfl | hp
    · exact N _ (.head _)
    · exact N _ (.tail _ (hs p hp))
theorem allLt_sub {d : Addr} : ∀ {l l' : List (Addr × Obj)}, (∀ p ∈ l, p ∈ l') → (∀ p ∈ l', p.1 < d) → AllLt d l := fun h k => allLt_of fun p hp => k p (h p hp)
-- @use
local macro_rules | `(tactic| walk_at "U lt") => `(tactic| (first | assumption | exact allLt_of (by assumption) | exact And.right (by assumption) | exact And.right (And.right (by assumption)) | exact And.right (And.right (And.right (by assumption))) | exact And.right (And.right (And.right (And.right (by assumption)))) | exact And.right (And.right (And.right (And.right (And.right (by assumption)))))))
local macro_rules | `(tactic| walk_at "U retT") => `(tactic| (refine' ret_T (by assumption) ?eF ?eN ?eS ?eL ?_ ?_; (case eF => k_asm); (case eN => k_asm); (case eS => walk_at "U sub"); (case eL => walk_at "U lt")))
local macro_rules | `(tactic| walk_at "U RT") => `(tactic| (intro v9 nx9 h9 tk9 hR9 F9 N9; obtain ⟨D9, t9, u9, e9, e9', lt9⟩ := hR9; subst e9; subst e9'; (try dsimp only); (try k_fold)))
-- @end
section
local macro_rules | `(tactic| walk_at "exec While Compare cons nil") => `(tactic| (k_while_given ["size!", "exponent!"] (fun s0 e0 _ s e => MadW s0 e0 s e) (fun _ _ _ s _ => s.toNat) "size" "exponent"))
local macro_rules | `(tactic| walk_at "ite") => `(tactic| (k_here; (have hW9 := madW_end (by assumption) (by assumption)); refine ite_neg (by (try simp only [decide_eq_true_eq]); omega) ?_; clear hW9))
theorem made_c (c e d : Int) (t1 t2 t3 : Tok) (hc : (c.natAbs : Int) < 10 ^ 20) (he1 : -60 ≤ e) (he2 : e ≤ 20) (hd : 1 ≤ d) : Con 58 3 [.int c t1, .int e t2, .int d t3] (fun _ _ => True) (RT (mad c e d).1 (mad c e d).2) := by
  have hf := figs_le (n := c.natAbs) (k := 20) (by decide) hc
  have hf0 := figs_pos c.natAbs
  have hr : 0 < figs c.natAbs - d → figs (rnd c.natAbs (figs c.natAbs - d)) ≤ d + 1 := figs_rnd (by omega)
  have hr0 := figs_pos (rnd c.natAbs (figs c.natAbs - d))
  have hr1 : 0 ≤ rnd c.natAbs (figs c.natAbs - d) := rnd_nonneg (by omega)
  walk_at "U in"
  k_with "state" => first | exact madW1 (by assumption) (by assumption) | exact madW0 (by omega) (by first | with_reducible assumption | omega) (by omega) (by omega)
  k_with "measure" => exact madW_m (by assumption) (by assumption)
  k_steps
  · walk_at "U retT" <;> simp only [mad, *, if_true]
  · have hW := madW_end (by assumption) (by assumption)
    walk_at "U retT" <;> simp only [mad, *, if_true, if_false]
  · have hW := madW_end (by assumption) (by assumption)
    walk_at "U retT" <;> simp only [mad, *, if_true, if_false]
  · walk_at "U retT" <;> (unfold mad; rw [if_neg (by assumption), if_pos (by assumption)])
  · have hW := madW_end (by assumption) (by assumption)
    walk_at "U retT" <;> simp only [mad, *, if_true, if_false]
  · have hW := madW_end (by assumption) (by assumption)
    walk_at "U retT" <;> simp only [mad, *, if_true, if_false]
end
-- @use
local macro_rules | `(tactic| walk_at "call ref") => `(tactic| (k_here; (with_reducible show wpAny _ _ (call (Value.ref 58) _ _) _ _ _); k_dflt (refine' con_use (made_c _ _ _ _ _ _ ?c1 ?c2 ?c3 ?c4) ?cB ?cF ?cX ?cN ?cT ?cK ?cH ?cD ?cU ?_; (case c1 => first | omega | ktn_no "made 1"); (case c2 => first | omega | ktn_no "made 2"); (case c3 => first | omega | ktn_no "made 3"); (case c4 => first | omega | ktn_no "made 4"); (case cH => exact True.intro); walk_at "U use"; walk_at "U RT")))
-- @end

-- piece 14
-- needs: 13
theorem decimal_of_i (c : Int) (t1 t2 : Tok) (hc : (c.natAbs : Int) < 10 ^ 20) : Con 65 4 [.int c t1, .int 9 t2] (fun _ _ => True) (RT (mad c 0 9).1 (mad c 0 9).2) := by
  walk_at "U in"
  k_steps
  walk_at "U retT" <;> rfl

-- piece 15
-- needs: 13
theorem d_size_c (D : Addr) (c e : Int) (t1 t2 : Tok) : Con 211 4 [.ref D] (fun _ news => (D, tupO [.int c t1, .int e t2]) ∈ news) (RT c.natAbs e) := by
  walk_at "U in"
  k_steps
  walk_at "U retT" <;> rfl
theorem scaled_c (c e p : Int) (t1 t2 t3 : Tok) (h0 : 0 ≤ c) (hc : c < 10 ^ 12) (he : -100 ≤ e + p) (he2 : e + p ≤ 100) : Con 142 3 [.int c t1, .int e t2, .int p t3] (fun _ _ => True) (RV fun t => .int (scl c e p) t) := by
  walk_at "U in"
  k_steps
  · walk_at "U ret"
    exact int_eq (by rw [scl, if_pos (by omega)])
  · walk_at "U ret"
    exact int_eq (by rw [scl, if_neg (by omega)])
-- @use
local macro_rules | `(tactic| walk_at "call ref") => `(tactic| (k_here; (with_reducible show wpAny _ _ (call (Value.ref 142) _ _) _ _ _); k_dflt (refine' con_use (scaled_c _ _ _ _ _ _ ?c1 ?c2 ?c3 ?c4) ?cB ?cF ?cX ?cN ?cT ?cK ?cH ?cD ?cU ?_; (case c1 => first | with_reducible assumption | omega | ktn_no "scaled 1"); (case c2 => first | with_reducible assumption | omega | ktn_no "scaled 2"); (case c3 => first | with_reducible assumption | omega | ktn_no "scaled 3"); (case c4 => first | with_reducible assumption | omega | ktn_no "scaled 4"); (case cH => exact True.intro); walk_at "U use"; walk_at "U RV")))
-- @end

-- piece 16
-- needs: 13 05
section
variable {prog : Program} {w : World} {A : Around} {E : Value → Shared → Prop} {s : Shared} {t u : Tok} {n : Int} {Q : Value → Shared → Prop} {value slice : PySem.Expr}
theorem item_tab (h : Q (.str (Txt.item (PySem.Str.ofString "0123456789") (n % 10)) s.toks) { s with toks := s.toks + 1 })
    (hs : subscripted slice false (.str (PySem.Str.ofString "0123456789") t) (.int (n % 10) u) = operate [.str (PySem.Str.ofString "0123456789") t, .int (n % 10) u] (getItem (.str (PySem.Str.ofString "0123456789") t) (.int (n % 10) u)) := by with_unfolding_all rfl)
    (ht : ∀ r, letTemporaryGo value (.str (PySem.Str.ofString "0123456789") t) r = pure () := by intro _; with_unfolding_all rfl) :
    wpAny (model prog w) A (subscriptTail value slice (.str (PySem.Str.ofString "0123456789") t) (.int (n % 10) u)) Q E s :=
  item_str (fitsSsize_of (N := 9223372036854775808) (by omega) (by omega) (Int.le_refl _)) (by rw [show (PySem.Str.ofString "0123456789").length = 10 by decide +kernel]; omega) (by rw [show (PySem.Str.ofString "0123456789").length = 10 by decide +kernel]; omega) (fun _ => h) hs ht
end
section
local macro_rules | `(tactic| walk_at "subscriptTail") => `(tactic| (k_here; refine item_tab ?_))
local macro_rules | `(tactic| walk_at "U sz") => `(tactic| ((have hW9 := padW_len (by assumption)); (try rw [item_digit]); (try simp only [PySem.sizeLine_eq]); first | omega | (show 1 + _ ≤ _; omega)))
local macro_rules | `(tactic| walk_at "exec While BoolOp cons nil") => `(tactic| (k_here; k_while_given ["many", "number!"] (fun many n0 _ found number => PadW n0 many found number) (fun many _ _ found number => number.toNat + (many - found.length).toNat) "found" "number"))
theorem padded_figures_c (n k : Int) (t1 t2 : Tok) (h0 : 0 ≤ n) (hn : figs n ≤ 50) (hk : k ≤ 100) : Con 135 1 [.int n t1, .int k t2] (fun _ _ => True) (RVF ((St (padL n k [])).length ≤ 101) fun t => .str (St (padL n k [])) t) := by
  walk_at "U in"
  k_with "state" => first | exact padW0 (by assumption) (by assumption) | exact padW1 (by assumption) (by assumption) (by first | exact Or.inl (by assumption) | exact Or.inr (by assumption))
  k_with "measure" => exact padW_m (by assumption) (by first | exact Or.inl (by assumption) | exact Or.inr (by assumption))
  k_steps
  have hE := padW_end (by assumption) (by assumption) (by assumption)
  walk_at "U retF"
  case eP => rw [← hE]; exact padW_len (by assumption)
  exact str_eq hE
end
-- @use
local macro_rules | `(tactic| walk_at "call ref") => `(tactic| (k_here; (with_reducible show wpAny _ _ (call (Value.ref 135) _ _) _ _ _); k_dflt (refine' con_use (padded_figures_c _ _ _ _ ?c1 ?c2 ?c3) ?cB ?cF ?cX ?cN ?cT ?cK ?cH ?cD ?cU ?_; (case c1 => first | with_reducible assumption | omega | exact (scl_bd (by omega) (by omega) (by omega)).1 | ktn_no "padded 1"); (case c2 => first | with_reducible assumption | omega | exact (scl_bd (by omega) (by omega) (by omega)).2 | exact figs_le (k := 50) (by decide) (by omega) | ktn_no "padded 2"); (case c3 => first | with_reducible assumption | omega | ktn_no "padded 3"); (case cH => exact True.intro); walk_at "U use"; walk_at "U RVF")))
-- @end

-- piece 17
-- needs: 13
/-- a pair of ints that the ledger or the written part bears -/
def TV (P : Params) (news : List (Addr × Obj)) (v : Value) (a b : Int) : Prop :=
  ∃ D t1 t2, v = .ref D ∧ ((D, tupO [.int a t1, .int b t2]) ∈ news ∨ (hd.heap_39 P).lookup D = some (tupO [.int a t1, .int b t2]))
/-- a pair comes back: a new one, or nought's own -/
def RD (a b : Int) (P : Params) (news : List (Addr × Obj)) (v : Value) (nx : List (Addr × Obj)) : Prop :=
  RT a b P news v nx ∨ (v = .ref 204 ∧ nx = news ∧ a = 0 ∧ b = 0)
theorem ret_D {h₀ : Heap} {L : Addr} {m : Str → Option Value} {s : Shared} {Q : Value → Shared → Prop} {news : List (Addr × Obj)} {P : Params} {a b : Int}
    (k : ∀ (v : Value) (nx : List (Addr × Obj)) (h' : Heap) (tk' : Nat), RD a b P news v nx → Fr h₀ L h' m → News h₀ L h' nx → Q v { s with heap := h', toks := tk' })
    {D : Addr} {nx' : List (Addr × Obj)} {h' : Heap} {tk' : Nat} {x y : Int} {t1 t2 : Tok} (F : Fr h₀ L h' m) (N : News h₀ L h' ((D, tupO [.int x t1, .int y t2]) :: nx')) (hs : ∀ p ∈ news, p ∈ nx') (hl : AllLt D news) (hx : x = a) (hy : y = b) : Q (.ref D) { s with heap := h', toks := tk' } :=
  ret_T (fun v nx h' tk' r F N => k v nx h' tk' (.inl r) F N) F N hs hl hx hy
theorem ret_N {h₀ : Heap} {L : Addr} {m : Str → Option Value} {s : Shared} {Q : Value → Shared → Prop} {news : List (Addr × Obj)} {P : Params} {a b : Int}
    (k : ∀ (v : Value) (nx : List (Addr × Obj)) (h' : Heap) (tk' : Nat), RD a b P news v nx → Fr h₀ L h' m → News h₀ L h' nx → Q v { s with heap := h', toks := tk' })
    {nx' : List (Addr × Obj)} {h' : Heap} {tk' : Nat} (F : Fr h₀ L h' m) (N : News h₀ L h' nx') (hs : ∀ p ∈ news, p ∈ nx') (hx : a = 0) (hy : b = 0) : Q (.ref 204) { s with heap := h', toks := tk' } :=
  k _ news h' tk' (.inr ⟨rfl, rfl, hx, hy⟩) F fun p hp => N p (hs p hp)
-- @use
local macro_rules | `(tactic| walk_at "U retD") => `(tactic| (refine' ret_D (by assumption) ?eF ?eN ?eS ?eL ?_ ?_; (case eF => k_asm); (case eN => k_asm); (case eS => walk_at "U sub"); (case eL => walk_at "U lt")))
local macro_rules | `(tactic| walk_at "U retN") => `(tactic| (refine' ret_N (by assumption) ?eF ?eN ?eS ?_ ?_; (case eF => k_asm); (case eN => k_asm); (case eS => walk_at "U sub")))
local macro_rules | `(tactic| walk_at "U RD") => `(tactic| (intro v9 nx9 h9 tk9 hR9 F9 N9; (rcases hR9 with ⟨D9, t9, u9, e9, e9', lt9⟩ | ⟨e9, e9', e0a, e0b⟩) <;> (subst e9; subst e9'; (try dsimp only); (try k_fold))))
-- @end
/-- told_decimal, where no bound is met -/
theorem told_decimal_c (c e : Int) (t1 t2 t3 : Tok) (hc : (c.natAbs : Int) < 10 ^ 20) (he1 : -60 ≤ e) (he2 : e ≤ 20) : Con 260 4 [.int c t1, .int e t2, .int 9 t3] (fun _ _ => True) (RD (mad c e 9).1 (mad c e 9).2) := by
  have hf := figs_le (n := c.natAbs) (k := 20) (by decide) hc
  have hf0 := figs_pos c.natAbs
  walk_at "U in"
  k_steps
  · have h0 : c = 0 := by omega
    subst h0
    walk_at "U retN" <;> rw [mad_zero (by decide)]
  · refine ret_D (by assumption) (by k_asm) (by k_asm) (by walk_at "U sub") (by walk_at "U lt") rfl rfl
-- @use
local macro_rules | `(tactic| walk_at "call ref") => `(tactic| (k_here; (with_reducible show wpAny _ _ (call (Value.ref 260) _ _) _ _ _); k_dflt (refine' con_use (told_decimal_c _ _ _ _ _ ?c1 ?c2 ?c3) ?cB ?cF ?cX ?cN ?cT ?cK ?cH ?cD ?cU ?_; (case c1 => first | with_reducible assumption | omega | ktn_no "told 1"); (case c2 => first | with_reducible assumption | omega | ktn_no "told 2"); (case c3 => first | with_reducible assumption | omega | ktn_no "told 3"); (case cH => exact True.intro); walk_at "U use"; walk_at "U RD")))
-- @end

-- piece 18
-- needs: 17
/-- d_round: the argument itself, nought's own, or a new pair -/
def RDr (D : Addr) (a b : Int) (P : Params) (news : List (Addr × Obj)) (v : Value) (nx : List (Addr × Obj)) : Prop :=
  RD a b P news v nx ∨ (v = .ref D ∧ nx = news ∧ ∃ t1 t2, (D, tupO [.int a t1, .int b t2]) ∈ news)
section
variable {h₀ : Heap} {L : Addr} {m : Str → Option Value} {s : Shared} {Q : Value → Shared → Prop} {news nx' : List (Addr × Obj)} {P : Params} {D D' : Addr} {a b x y : Int} {h' : Heap} {tk' : Nat} {t1 t2 : Tok}
theorem ret_r1 (k : ∀ (v : Value) (nx : List (Addr × Obj)) (h' : Heap) (tk' : Nat), RDr D a b P news v nx → Fr h₀ L h' m → News h₀ L h' nx → Q v { s with heap := h', toks := tk' })
    (F : Fr h₀ L h' m) (N : News h₀ L h' nx') (hs : ∀ p ∈ news, p ∈ nx') (hm : (D, tupO [.int x t1, .int y t2]) ∈ news) (hx : x = a) (hy : y = b) : Q (.ref D) { s with heap := h', toks := tk' } := by
  subst hx; subst hy
  exact k _ news h' tk' (.inr ⟨rfl, rfl, t1, t2, hm⟩) F fun p hp => N p (hs p hp)
theorem ret_r2 (k : ∀ (v : Value) (nx : List (Addr × Obj)) (h' : Heap) (tk' : Nat), RDr D a b P news v nx → Fr h₀ L h' m → News h₀ L h' nx → Q v { s with heap := h', toks := tk' })
    (F : Fr h₀ L h' m) (N : News h₀ L h' nx') (hs : ∀ p ∈ news, p ∈ nx') (hx : a = 0) (hy : b = 0) : Q (.ref 204) { s with heap := h', toks := tk' } :=
  ret_N (fun v nx h' tk' r F N => k v nx h' tk' (.inl r) F N) F N hs hx hy
theorem ret_r3 (k : ∀ (v : Value) (nx : List (Addr × Obj)) (h' : Heap) (tk' : Nat), RDr D a b P news v nx → Fr h₀ L h' m → News h₀ L h' nx → Q v { s with heap := h', toks := tk' })
    (F : Fr h₀ L h' m) (N : News h₀ L h' ((D', tupO [.int x t1, .int y t2]) :: nx')) (hs : ∀ p ∈ news, p ∈ nx') (hl : AllLt D' news) (hx : x = a) (hy : y = b) : Q (.ref D') { s with heap := h', toks := tk' } :=
  ret_D (fun v nx h' tk' r F N => k v nx h' tk' (.inl r) F N) F N hs hl hx hy
end
section
local macro_rules | `(tactic| walk_at "U je") => `(tactic| ((try dsimp only); (rw [← rnd_min (by omega) (by assumption)]); unfold hlf; split <;> first | rfl | omega))
local macro_rules | `(tactic| walk_at "exec If BoolOp") => `(tactic| (k_here; (with_reducible show wpAny _ _ (exec (Stmt.If _ [Stmt.AugAssign _ _ _ _] [] _) _) _ _ _); (fail_if_success (with_reducible show wpAny _ _ _ (JoinI _ _ _ _ _ _ _) _ _)); (with_reducible rename Fr _ _ _ _ => jF'); (with_reducible rename News _ _ _ _ => jN'); refine joinI (Str.ofString "found") (by assumption) jF' jN' ?_ ?_))
theorem d_round_c (D : Addr) (c e p : Int) (t1 t2 t3 t4 : Tok) (hc : (c.natAbs : Int) < 10 ^ 19) (he1 : -60 ≤ e) (he2 : e ≤ 20) (hp : 0 ≤ p) (hp2 : p ≤ 10) :
    Con 232 4 [.ref D, .int p t3, .int 9 t4] (fun _ news => (D, tupO [.int c t1, .int e t2]) ∈ news) (RDr D (drd c e p).1 (drd c e p).2) := by
  have hf := figs_le (n := c.natAbs) (k := 20) (by decide) (by omega)
  have hf0 := figs_pos c.natAbs
  have hr := rnd_lt (n := c.natAbs) (p := 0 - p - e) (k := 19) (by omega) hc
  have hr0 := rnd_nonneg (n := c.natAbs) (p := 0 - p - e) (by omega)
  have hJ := jr (rnd c.natAbs (0 - p - e))
  walk_at "U in"
  k_steps
  · refine ret_r1 (by assumption) (by k_asm) (by k_asm) (by walk_at "U sub") (by assumption) ?_ ?_ <;> (unfold drd; rw [if_pos (by assumption)])
  · refine ret_r1 (by assumption) (by k_asm) (by k_asm) (by walk_at "U sub") (by assumption) ?_ ?_ <;> (unfold drd; rw [if_neg (by assumption), if_pos (by assumption)])
  · refine ret_r2 (by assumption) (by k_asm) (by k_asm) (by walk_at "U sub") ?_ ?_ <;> (unfold drd; rw [if_neg (by assumption), if_neg (by assumption), if_pos (by assumption)])
  · refine ret_r3 (by assumption) (by k_asm) (by k_asm) (by walk_at "U sub") (by walk_at "U lt") ?_ ?_ <;> (unfold drd; rw [if_neg (by assumption), if_neg (by assumption), if_neg (by assumption), if_pos (by assumption)])
  · refine ret_r3 (by assumption) (by k_asm) (by k_asm) (by walk_at "U sub") (by walk_at "U lt") ?_ ?_ <;> (unfold drd; rw [if_neg (by assumption), if_neg (by assumption), if_neg (by assumption), if_neg (by assumption)])
end

-- piece 19
-- needs: 17
/-- a pair of ints, by its tokens: of the ledger, or of the written part -/
def TA (P : Params) (news : List (Addr × Obj)) (D : Addr) (a b : Int) (t1 t2 : Tok) : Prop :=
  (D, tupO [.int a t1, .int b t2]) ∈ news ∨ (hd.heap_39 P).lookup D = some (tupO [.int a t1, .int b t2])
theorem TA.isTup {w : World} {news nx : List (Addr × Obj)} {D : Addr} {a b : Int} {t1 t2 : Tok} {h₀ h : Heap} {L : Addr} {m : Str → Option Value}
    (T : TA w.params news D a b t1 t2) (F : Fr h₀ L h m) (X : (hd.heap_39 w.params).In h₀) (N : News h₀ L h nx) (hs : ∀ p ∈ news, p ∈ nx) : IsTup h D [.int a t1, .int b t2].toArray := by
  rcases T with T | T
  · exact News.isTup N (hs _ T)
  · exact tupK (n := 0) (dd := none) (sl := #[]) (X.keeps F.keep) T
theorem TA.of_mem {P : Params} {news : List (Addr × Obj)} {D : Addr} {a b : Int} {t1 t2 : Tok} (h : (D, tupO [.int a t1, .int b t2]) ∈ news) : TA P news D a b t1 t2 := .inl h
theorem TA.more {P : Params} {news nx : List (Addr × Obj)} {D : Addr} {a b : Int} {t1 t2 : Tok} (T : TA P news D a b t1 t2) (hs : ∀ p ∈ news, p ∈ nx) : TA P nx D a b t1 t2 := T.imp_left (hs _)
theorem beq_pair {a b c d : Int} {e : Nat → Bool} (h0 : e 0 = (a == c)) (h1 : e 1 = (b == d)) : ((List.range (min 2 2)).all e && 2 == 2) = decide ((a, b) = (c, d)) := by
  rw [show List.range (min 2 2) = [0, 1] from rfl]
  simp only [List.all_cons, List.all_nil, h0, h1, Bool.and_true, Prod.mk.injEq, Bool.decide_and]
  rw [show (a == c) = decide (a = c) from by by_cases h : a = c <;> simp [h], show (b == d) = decide (b = d) from by by_cases h : b = d <;> simp [h]]
  simp
theorem TA.eq {prog : Program} {w w' : World} {A : Around} {E : Value → Shared → Prop} {s : Shared} {Q : Value → Shared → Prop} {D1 D2 : Addr} {a b c d : Int} {t1 t2 t3 t4 : Tok}
    (h1 : IsTup s.heap D1 [.int a t1, .int b t2].toArray) (h2 : IsTup s.heap D2 [.int c t3, .int d t4].toArray) (hu : A.units < cLine)
    (h : Q (.bool (decide ((a, b) = (c, d)))) s) : wpAny (model prog w) A (compareOp .Eq (.ref D1) (.ref D2)) Q E s := by
  refine PySem.SeqAt.eq_tupleAt (e := fun j => if j = 0 then a == c else b == d) h1 h2 hu (fun j k1 k2 => ?_) ?_
  · have hj : j = 0 ∨ j = 1 := by have : j < 2 := k1; omega
    rcases hj with rfl | rfl
    · show PySem.SeqAt.EqAt A.in1 s (.int a t1) (.int c t3) (a == c)
      exact PySem.SeqAt.EqAt.int_int _ _ _ _
    · show PySem.SeqAt.EqAt A.in1 s (.int b t2) (.int d t4) (b == d)
      exact PySem.SeqAt.EqAt.int_int _ _ _ _
  · show Q (.bool ((List.range (min 2 2)).all _ && 2 == 2)) s
    rw [beq_pair (a := a) (b := b) (c := c) (d := d) rfl rfl]
    exact h
-- @use
local macro_rules | `(tactic| walk_at "U tup") => `(tactic| (first | exact TA.isTup (by assumption) (by k_asm) (by k_asm) (by k_asm) (by walk_at "U sub") | exact News.isTup (by k_asm) (by k_mem)))
local macro_rules | `(tactic| kun_tup) => `(tactic| exact TA.isTup (by assumption) (by k_asm) (by k_asm) (by k_asm) (by walk_at "U sub"))
local macro_rules | `(tactic| walk_at "subscriptTail") => `(tactic| (k_here; (with_reducible show wpAny _ _ (subscriptTail _ _ (Value.ref _) (Value.int _ _)) _ _ _); (with_reducible rename TA _ _ _ _ _ _ _ => hT9); k_dflt (refine' item_tupleT ?t ?a ?b ?c ?d ?_; (case t => walk_at "U tup"); (case a => decide); (case b => decide); (case c => rfl); (case d => rfl); k_whole)))
local macro_rules | `(tactic| walk_at "call builtin:isinstance") => `(tactic| (k_here; (with_reducible show wpAny _ _ (call (Value.builtin "isinstance") [Value.ref _, Value.type "str"] _) _ _ _); k_dflt (refine IsiPair.isTuple_str (by walk_at "U tup") (fun _ _ h => h) ?_)))
local macro_rules | `(tactic| walk_at "call builtin:isinstance") => `(tactic| (k_here; (with_reducible show wpAny _ _ (call (Value.builtin "isinstance") [Value.ref _, Value.type "tuple"] _) _ _ _); k_dflt (refine IsiPair.isTuple_tuple (by walk_at "U tup") (fun _ _ h => h) ?_)))
-- @end

-- piece 20
-- needs: 19
/-- a new triple of ints comes back -/
def R3 (a b c : Int) (_ : Params) (news : List (Addr × Obj)) (v : Value) (nx : List (Addr × Obj)) : Prop :=
  ∃ D t1 t2 t3, v = .ref D ∧ nx = (D, tupO [.int a t1, .int b t2, .int c t3]) :: news ∧ AllLt D news
theorem ret_3 {h₀ : Heap} {L : Addr} {m : Str → Option Value} {s : Shared} {Q : Value → Shared → Prop} {news : List (Addr × Obj)} {P : Params} {a b c : Int}
    (k : ∀ (v : Value) (nx : List (Addr × Obj)) (h' : Heap) (tk' : Nat), R3 a b c P news v nx → Fr h₀ L h' m → News h₀ L h' nx → Q v { s with heap := h', toks := tk' })
    {D : Addr} {nx' : List (Addr × Obj)} {h' : Heap} {tk' : Nat} {x y z : Int} {t1 t2 t3 : Tok} (F : Fr h₀ L h' m) (N : News h₀ L h' ((D, tupO [.int x t1, .int y t2, .int z t3]) :: nx')) (hs : ∀ p ∈ news, p ∈ nx') (hl : AllLt D news) (hx : x = a) (hy : y = b) (hz : z = c) : Q (.ref D) { s with heap := h', toks := tk' } := by
  subst hx; subst hy; subst hz
  exact k _ _ h' tk' ⟨D, t1, t2, t3, rfl, rfl, hl⟩ F fun p hp => by
    rcases List.mem_cons.mp hp with rfl | hp
    · exact N _ (.head _)
    · exact N _ (.tail _ (hs p hp))
-- @use
local macro_rules | `(tactic| walk_at "U ret3") => `(tactic| (refine' ret_3 (by assumption) ?eF ?eN ?eS ?eL ?_ ?_ ?_; (case eF => k_asm); (case eN => k_asm); (case eS => walk_at "U sub"); (case eL => walk_at "U lt")))
local macro_rules | `(tactic| walk_at "U R3") => `(tactic| (intro v9 nx9 h9 tk9 hR9 F9 N9; obtain ⟨D9, t9, u9, w9, e9, e9', lt9⟩ := hR9; subst e9; subst e9'; (try dsimp only); (try k_fold)))
-- @end
def alk (c1 e1 e2 : Int) : Int := c1 * 10 ^ (e1 - min e1 e2).toNat
theorem alike_c (D1 D2 : Addr) (c1 e1 c2 e2 : Int) (t1 t2 t3 t4 : Tok) (h1 : (c1.natAbs : Int) < 10 ^ 18) (h2 : (c2.natAbs : Int) < 10 ^ 18) (he1 : -60 ≤ e1) (he2 : e1 ≤ 20) (he3 : -60 ≤ e2) (he4 : e2 ≤ 20) :
    Con 218 1 [.ref D1, .ref D2] (fun P news => TA P news D1 c1 e1 t1 t2 ∧ TA P news D2 c2 e2 t3 t4) (R3 (alk c1 e1 e2) (alk c2 e2 e1) (min e1 e2)) := by
  walk_at "U in"
  obtain ⟨hH1, hH2⟩ := ‹_ ∧ _›
  k_steps
  walk_at "U ret3" <;> first | rfl | (unfold alk; rw [Int.min_comm e2 e1])
-- @use
local macro_rules | `(tactic| walk_at "call ref") => `(tactic| (k_here; (with_reducible show wpAny _ _ (call (Value.ref 218) _ _) _ _ _); k_dflt (refine' con_use (alike_c _ _ _ _ _ _ _ _ _ _ ?c1 ?c2 ?c3 ?c4 ?c5 ?c6) ?cB ?cF ?cX ?cN ?cT ?cK ?cH ?cD ?cU ?_; walk_at "U use"; (case cH => exact And.intro (TA.more (by assumption) (by walk_at "U sub")) (TA.more (by assumption) (by walk_at "U sub"))); (case c1 => first | with_reducible assumption | omega | ktn_no "alike 1"); (case c2 => first | with_reducible assumption | omega | ktn_no "alike 2"); (case c3 => first | with_reducible assumption | omega | ktn_no "alike 3"); (case c4 => first | with_reducible assumption | omega | ktn_no "alike 4"); (case c5 => first | with_reducible assumption | omega | ktn_no "alike 5"); (case c6 => first | with_reducible assumption | omega | ktn_no "alike 6"); walk_at "U R3")))
-- @end
theorem d_compare_c (D1 D2 : Addr) (c1 e1 c2 e2 : Int) (t1 t2 t3 t4 : Tok) (h1 : (c1.natAbs : Int) < 10 ^ 18) (h2 : (c2.natAbs : Int) < 10 ^ 18) (he1 : -60 ≤ e1) (he2 : e1 ≤ 20) (he3 : -60 ≤ e2) (he4 : e2 ≤ 20) :
    Con 225 2 [.ref D1, .ref D2] (fun P news => TA P news D1 c1 e1 t1 t2 ∧ TA P news D2 c2 e2 t3 t4) (RV fun t => .int (b2i (decide (alk c2 e2 e1 < alk c1 e1 e2)) - b2i (decide (alk c1 e1 e2 < alk c2 e2 e1))) t) := by
  walk_at "U in"
  obtain ⟨hH1, hH2⟩ := ‹_ ∧ _›
  k_steps
  walk_at "U ret"
  exact int_eq rfl
-- @use
local macro_rules | `(tactic| walk_at "call ref") => `(tactic| (k_here; (with_reducible show wpAny _ _ (call (Value.ref 225) _ _) _ _ _); k_dflt (refine' con_use (d_compare_c _ _ _ _ _ _ _ _ _ _ ?c1 ?c2 ?c3 ?c4 ?c5 ?c6) ?cB ?cF ?cX ?cN ?cT ?cK ?cH ?cD ?cU ?_; walk_at "U use"; (case cH => exact And.intro (TA.more (by assumption) (by walk_at "U sub")) (TA.more (by assumption) (by walk_at "U sub"))); (case c1 => first | with_reducible assumption | omega | ktn_no "compare 1"); (case c2 => first | with_reducible assumption | omega | ktn_no "compare 2"); (case c3 => first | with_reducible assumption | omega | ktn_no "compare 3"); (case c4 => first | with_reducible assumption | omega | ktn_no "compare 4"); (case c5 => first | with_reducible assumption | omega | ktn_no "compare 5"); (case c6 => first | with_reducible assumption | omega | ktn_no "compare 6"); walk_at "U RV")))
-- @end

-- piece 21
-- needs: 13 06
section
local macro_rules | `(tactic| walk_at "U sz") => `(tactic| ((have hW9 := grpW_len (by assumption)); (try simp only [PySem.sizeLine_eq, PySem.Str.length_append, len_last3, len_but3, len_comma]); omega))
local macro_rules | `(tactic| walk_at "exec While Compare cons nil") => `(tactic| (k_here; k_while_given ["figures!"] (fun x0 _ figures found => GrpW x0 figures found) (fun _ _ figures _ => figures.length) "figures" "found"))
theorem grouped_c (x : PySem.Str) (t1 : Tok) (hx : x.length ≤ 100) : Con 149 1 [.str x t1] (fun _ _ => True) (RVF ((St (grp (Lz x))).length ≤ 203) fun t => .str (St (grp (Lz x))) t) := by
  walk_at "U in"
  k_with "state" => first | exact grpW0 (by assumption) | exact grpW1 (by assumption) (by assumption)
  k_with "measure" => exact grpW_m (by assumption)
  k_steps
  have hE := grpW_end (by assumption) (by assumption)
  walk_at "U retF"
  case eP => rw [← hE]; exact (grpW_len (by assumption)).2
  exact str_eq hE
end
-- @use
local macro_rules | `(tactic| walk_at "call ref") => `(tactic| (k_here; (with_reducible show wpAny _ _ (call (Value.ref 149) _ _) _ _ _); k_dflt (refine' con_use (grouped_c _ _ ?c1) ?cB ?cF ?cX ?cN ?cT ?cK ?cH ?cD ?cU ?_; (case c1 => first | with_reducible assumption | omega | ktn_no "grouped 1"); (case cH => exact True.intro); walk_at "U use"; walk_at "U RVF")))
-- @end

-- piece 22
-- needs: 20 06
section
local macro_rules | `(tactic| walk_at "exec While BoolOp cons nil") => `(tactic| (k_here; k_while_given ["text", "at!"] (fun text a0 _ found at_ => 0 ≤ at_ ∧ at_ ≤ text.length ∧ a0 ≤ at_ ∧ runF (Lz text) at_.toNat found = runF (Lz text) a0.toNat 0) (fun text _ _ _ at_ => ((text.length : Int) - at_).toNat) "found" "at"))
theorem run_of_figures_c (x : PySem.Str) (a : Int) (t1 t2 : Tok) (hx : x.length ≤ 100) (h0 : 0 ≤ a) (h1 : a ≤ x.length) : Con 239 1 [.str x t1, .int a t2] (fun _ _ => True) (R3 (runF (Lz x) a.toNat 0).1 ((runF (Lz x) a.toNat 0).2 - a) (runF (Lz x) a.toNat 0).2) := by
  walk_at "U in"
  k_with "state" => first | exact runW0 (by with_reducible assumption) (by with_reducible assumption) | exact runW1 (And.intro (by with_reducible assumption) (And.intro (by with_reducible assumption) (And.intro (by with_reducible assumption) (by with_reducible assumption)))) (by with_reducible assumption) (by with_reducible assumption) (by with_reducible assumption)
  k_steps
  · have hW := runW_end2 (by with_reducible assumption) (by with_reducible assumption) (by with_reducible assumption) (by with_reducible assumption)
    walk_at "U ret3" <;> (rw [hW]; try simp only; try omega)
  · have hW := runW_end3 (by with_reducible assumption) (by with_reducible assumption) (by with_reducible assumption) (by with_reducible assumption)
    walk_at "U ret3" <;> (rw [hW]; try simp only; try omega)
  · have hW := runW_end1 (by with_reducible assumption) (by with_reducible assumption) (by with_reducible assumption)
    walk_at "U ret3" <;> (rw [hW]; try simp only; try omega)
end
-- @use
local macro_rules | `(tactic| walk_at "call ref") => `(tactic| (k_here; (with_reducible show wpAny _ _ (call (Value.ref 239) _ _) _ _ _); k_dflt (refine' con_use (run_of_figures_c _ _ _ _ ?c1 ?c2 ?c3) ?cB ?cF ?cX ?cN ?cT ?cK ?cH ?cD ?cU ?_; (case c1 => first | with_reducible assumption | omega | ktn_no "run 1"); (case c2 => first | with_reducible assumption | omega | ktn_no "run 2"); (case c3 => first | with_reducible assumption | omega | ktn_no "run 3"); (case cH => exact True.intro); walk_at "U use"; walk_at "U R3")))
-- @end

-- piece 23
-- needs: 13 07
/-- the tokens of its keys and of three of its values -/
structure PTk where
  k1 : Tok
  k2 : Tok
  k3 : Tok
  k4 : Tok
  k5 : Tok
  k6 : Tok
  k7 : Tok
  k8 : Tok
  vl : Tok
  vr : Tok
  vs : Tok
abbrev picEs (P : Params) (p : Pic) (k : PTk) : List DictEntry := [
  ⟨PyData.keyHash P (Str.ofString "left"), .str (Str.ofString "left") k.k1, .int p.left k.vl⟩,
  ⟨PyData.keyHash P (Str.ofString "right"), .str (Str.ofString "right") k.k2, .int p.right k.vr⟩,
  ⟨PyData.keyHash P (Str.ofString "has_point"), .str (Str.ofString "has_point") k.k3, .bool p.point⟩,
  ⟨PyData.keyHash P (Str.ofString "has_star"), .str (Str.ofString "has_star") k.k4, .bool p.star⟩,
  ⟨PyData.keyHash P (Str.ofString "has_dollar"), .str (Str.ofString "has_dollar") k.k5, .bool p.dollar⟩,
  ⟨PyData.keyHash P (Str.ofString "has_comma"), .str (Str.ofString "has_comma") k.k6, .bool p.comma⟩,
  ⟨PyData.keyHash P (Str.ofString "has_exponent"), .str (Str.ofString "has_exponent") k.k7, .bool p.expo⟩,
  ⟨PyData.keyHash P (Str.ofString "sign"), .str (Str.ofString "sign") k.k8, .str p.sign k.vs⟩]
/-- the ledger bears the picture p at X -/
def PicAt (P : Params) (news : List (Addr × Obj)) (X : Addr) (p : Pic) : Prop :=
  ∃ dx k n, (X, instObj 82 dx) ∈ news ∧ (dx, dictOf (picEs P p k) n) ∈ news
theorem lead_of_c (X : Addr) (p : Pic) (b : Bool) : Con 170 1 [.ref X, .bool b] (fun P news => PicAt P news X p) (RVF ((St (leadS p b)).length ≤ 1) fun t => .str (St (leadS p b)) t) := by
  walk_at "U in"
  obtain ⟨dx, k, n, hx, hd⟩ := ‹PicAt _ _ _ _›
  k_steps
  all_goals (walk_at "U retF"; (case eP => (show (leadS p b).length ≤ 1); unfold leadS; (repeat' split) <;> decide); refine str_eq ?_; (simp only [leadS, *, if_true, if_false, Bool.false_eq_true]); first | exact o_minus | exact o_plus | exact o_empty)
-- @use
local macro_rules | `(tactic| walk_at "call ref") => `(tactic| (k_here; (with_reducible show wpAny _ _ (call (Value.ref 170) _ _) _ _ _); k_dflt (refine' con_use (lead_of_c _ _ _) ?cB ?cF ?cX ?cN ?cT ?cK ?cH ?cD ?cU ?_; walk_at "U use"; (case cH => walk_at "U pic"); walk_at "U RVF")))
local macro_rules | `(tactic| walk_at "U pic") => `(tactic| exact ⟨_, _, _, by k_mem, by k_mem⟩)
-- @end
theorem tail_of_c (X : Addr) (p : Pic) (b : Bool) : Con 177 1 [.ref X, .bool b] (fun P news => PicAt P news X p) (RVF ((St (tailS p b)).length ≤ 1) fun t => .str (St (tailS p b)) t) := by
  walk_at "U in"
  obtain ⟨dx, k, n, hx, hd⟩ := ‹PicAt _ _ _ _›
  k_steps
  all_goals (walk_at "U retF"; (case eP => (show (tailS p b).length ≤ 1); unfold tailS; (repeat' split) <;> decide); refine str_eq ?_; (simp only [tailS, *, if_true, if_false, Bool.false_eq_true]); first | exact o_minus | exact o_plus | exact o_empty | exact o_blank)
-- @use
local macro_rules | `(tactic| walk_at "call ref") => `(tactic| (k_here; (with_reducible show wpAny _ _ (call (Value.ref 177) _ _) _ _ _); k_dflt (refine' con_use (tail_of_c _ _ _) ?cB ?cF ?cX ?cN ?cT ?cK ?cH ?cD ?cU ?_; walk_at "U use"; (case cH => walk_at "U pic"); walk_at "U RVF")))
-- @end

-- piece 24
-- needs: 22 07
section
local macro_rules | `(tactic| walk_at "call ref") => `(tactic| (k_here; (with_reducible show wpAny _ _ (call (Value.ref 239) _ _) _ _ _); k_dflt (refine' con_use (run_of_figures_c _ _ _ _ ?c1 ?c2 ?c3) ?cB ?cF ?cX ?cN ?cT ?cK ?cH ?cD ?cU ?_; (case c1 => first | with_reducible assumption | omega | ktn_no "run 1"); (case c2 => first | with_reducible assumption | omega | ktn_no "run 2"); (case c3 => first | with_reducible assumption | omega | (have hS9 := sign_lt' (by with_reducible assumption) (by omega); omega) | ktn_no "run 3"); (case cH => exact True.intro); walk_at "U use"; walk_at "U R3")))
theorem exponent_at_c (x : PySem.Str) (a : Int) (t1 t2 : Tok) (hx : x.length ≤ 100) (hA : ∀ c ∈ Lz x, c < 128) (h0 : 0 ≤ a) (h1 : a ≤ x.length) : Con 246 2 [.str x t1, .int a t2] (fun _ _ => True) (RT (expA (Lz x) a).1 (expA (Lz x) a).2) := by
  walk_at "U in"
  k_steps
  · walk_at "U retT" <;> rw [expA_out (by rw [lz_length]; omega)]
  · obtain ⟨c, hc, hE⟩ := at_E hA h0 (by assumption) (by with_reducible assumption)
    walk_at "U retT" <;> rw [expA_no hc (by rw [hE]; decide)]
  all_goals (
    obtain ⟨c, hc, hE⟩ := at_E hA h0 (by assumption) (by with_reducible assumption)
    have hm := at_minus (a := a + 1) (by omega) (by with_reducible assumption)
    have hs := at_sign (a := a + 1) (by omega) (by with_reducible assumption)
    walk_at "U retT" <;> (rw [expA_yes hc (by rw [hE]) hm hs]; simp only [if_true, if_false, Bool.false_eq_true]; first | rw [if_pos (by with_reducible assumption)] | rw [if_neg (by with_reducible assumption)]))
end
-- @use
local macro_rules | `(tactic| walk_at "call ref") => `(tactic| (k_here; (with_reducible show wpAny _ _ (call (Value.ref 246) _ _) _ _ _); k_dflt (refine' con_use (exponent_at_c _ _ _ _ ?c1 ?c2 ?c3 ?c4) ?cB ?cF ?cX ?cN ?cT ?cK ?cH ?cD ?cU ?_; (case c1 => first | with_reducible assumption | omega | ktn_no "exponent 1"); (case c2 => first | with_reducible assumption | ktn_no "exponent 2"); (case c3 => first | with_reducible assumption | omega | ktn_no "exponent 3"); (case c4 => first | with_reducible assumption | omega | walk_at "U at" | ktn_no "exponent 4"); (case cH => exact True.intro); walk_at "U use"; walk_at "U RT")))
-- @end

-- piece 25
-- needs: 24 19 40
/-- a new pair of a pair of ints and an int -/
def RDT (a b n : Int) (P : Params) (news : List (Addr × Obj)) (v : Value) (nx : List (Addr × Obj)) : Prop :=
  ∃ D D1 t1 t2 t3 q, v = .ref D ∧ nx = (D, tupO [.ref D1, .int n t3]) :: q :: news ∧ TA P nx D1 a b t1 t2
theorem ret_DT {h₀ : Heap} {L : Addr} {m : Str → Option Value} {s : Shared} {Q : Value → Shared → Prop} {news : List (Addr × Obj)} {P : Params} {a b n : Int}
    (k : ∀ (v : Value) (nx : List (Addr × Obj)) (h' : Heap) (tk' : Nat), RDT a b n P news v nx → Fr h₀ L h' m → News h₀ L h' nx → Q v { s with heap := h', toks := tk' })
    {D D1 : Addr} {nx' : List (Addr × Obj)} {h' : Heap} {tk' : Nat} {x y z : Int} {t1 t2 t3 : Tok} (F : Fr h₀ L h' m) (N : News h₀ L h' ((D, tupO [.ref D1, .int z t3]) :: (D1, tupO [.int x t1, .int y t2]) :: nx')) (hs : ∀ p ∈ news, p ∈ nx') (hx : x = a) (hy : y = b) (hz : z = n) : Q (.ref D) { s with heap := h', toks := tk' } := by
  subst hx; subst hy; subst hz
  exact k _ _ h' tk' ⟨D, D1, t1, t2, t3, _, rfl, rfl, .inl (.tail _ (.head _))⟩ F fun p hp => by
    rcases List.mem_cons.mp hp with rfl | hp
    · exact N _ (.head _)
    · rcases List.mem_cons.mp hp with rfl | hp
      · exact N _ (.tail _ (.head _))
      · exact N _ (.tail _ (.tail _ (hs p hp)))
theorem ret_DN {h₀ : Heap} {L : Addr} {m : Str → Option Value} {s : Shared} {Q : Value → Shared → Prop} {news : List (Addr × Obj)} {P : Params} {a b n : Int}
    (k : ∀ (v : Value) (nx : List (Addr × Obj)) (h' : Heap) (tk' : Nat), RDT a b n P news v nx → Fr h₀ L h' m → News h₀ L h' nx → Q v { s with heap := h', toks := tk' })
    {D : Addr} {nx' : List (Addr × Obj)} {h' : Heap} {tk' : Nat} {z : Int} {t3 : Tok} (F : Fr h₀ L h' m) (N : News h₀ L h' ((D, tupO [.ref 204, .int z t3]) :: nx')) (hs : ∀ p ∈ news, p ∈ nx') (hx : a = 0) (hy : b = 0) (hz : z = n) : Q (.ref D) { s with heap := h', toks := tk' } := by
  subst hx; subst hy; subst hz
  have e : ∃ t1 t2, (hd.heap_39 P).lookup 204 = some (tupO [.int 0 t1, .int 0 t2]) := ⟨_, _, rfl⟩
  obtain ⟨t1, t2, e⟩ := e
  exact k _ _ h' tk' ⟨D, 204, t1, t2, t3, (D, tupO [.ref 204, .int z t3]), rfl, rfl, .inr e⟩ F fun p hp => by
    rcases List.mem_cons.mp hp with rfl | hp
    · exact N _ (.head _)
    · rcases List.mem_cons.mp hp with rfl | hp
      · exact N _ (.head _)
      · exact N _ (.tail _ (hs p hp))
theorem run_of_figures_e (x : PySem.Str) (a f n : Int) (t1 t2 : Tok) (he : runF (Lz x) a.toNat 0 = (f, n.toNat)) (hn : 0 ≤ n) (hx : x.length ≤ 100) (h0 : 0 ≤ a) (h1 : a ≤ x.length) : Con 239 1 [.str x t1, .int a t2] (fun _ _ => True) (R3 f (n - a) n) := by
  have h := run_of_figures_c x a t1 t2 hx h0 h1
  rw [he] at h
  simpa only [Int.toNat_of_nonneg hn] using h
theorem exponent_at_e (x : PySem.Str) (a e n : Int) (t1 t2 : Tok) (he : expA (Lz x) a = (e, n)) (hx : x.length ≤ 100) (hA : ∀ c ∈ Lz x, c < 128) (h0 : 0 ≤ a) (h1 : a ≤ x.length) : Con 246 2 [.str x t1, .int a t2] (fun _ _ => True) (RT e n) := by
  have h := exponent_at_c x a t1 t2 hx hA h0 h1
  rwa [he] at h
theorem occ_blank : ∀ c : Nat, c < 128 → (Builtin.Str.occurrences (PySem.Str.ofString " \t") (St [c]) 0 (PySem.Str.ofString " \t").length 1).isEmpty = !decide (c = 32 ∨ c = 9) := by decide +kernel
theorem no_blank {x : PySem.Str} {a : Int} (hx : ∀ c ∈ Lz x, c < 128) (hb : ∀ c, (Lz x)[0]? = some c → c ≠ 32 ∧ c ≠ 9) (h0 : a = 0) (h1 : a < x.length) (h : (Builtin.Str.occurrences (PySem.Str.ofString " \t") (Txt.item x a) 0 (PySem.Str.ofString " \t").length 1).isEmpty = false) : False := by
  obtain ⟨c, hc, hi⟩ := item_lz (x := x) (i := a) (by omega) h1
  rw [hi, occ_blank c (hx c (List.mem_of_getElem? hc))] at h
  subst h0
  have := hb c hc
  simp only [Bool.not_eq_false', decide_eq_true_eq] at h
  omega
theorem sg0_of {x : PySem.Str} {a : Int} {b : Bool} (h0 : a = 0) (h : ([PySem.Str.ofString "+", PySem.Str.ofString "-"].any fun y => y == Txt.slice x (some a) (some (a + 1))) = b) : sg0 (Lz x) = if b = true then 1 else 0 := by
  subst h0
  have := at_sign (x := x) (a := 0) (by decide) h
  unfold sg0
  simp only [show ((0 : Int).toNat) = 0 from rfl] at this
  simp only [this]
theorem neg_of {x : PySem.Str} {a : Int} {b : Bool} (h : (Txt.slice x (some a) (some (a + 1)) == PySem.Str.ofString "-") = b) (h0 : a = 0) : ((Lz x)[0]? = some 45) = (b = true) := by
  subst h0
  exact at_minus (x := x) (a := 0) (by decide) h
section
local macro_rules | `(tactic| walk_at "exec While BoolOp cons nil") => `(tactic| (k_here; k_while_given ["text"] (fun _ _ at_ => at_ = 0) (fun text _ at_ => ((text.length : Int) - at_).toNat) "at"))
local macro_rules | `(tactic| walk_at "exec If") => `(tactic| (k_here; (with_reducible show wpAny _ _ (exec (Stmt.If _ [Stmt.AugAssign (Expr.Name (Str.ofString "at") _) _ _ _] [] _) _) _ _ _); (fail_if_success (with_reducible show wpAny _ _ _ (JoinX _ _ _ _ _ _ _) _ _)); (with_reducible rename Fr _ _ _ _ => jF'); (with_reducible rename News _ _ _ _ => jN'); (with_reducible rename JK _ => jK'); refine joinX (Str.ofString "at") jK' jF' jN' ?_ ?_; (clear jK'); rotate_left; (clear jF' jN' jK'; intro jK t1' h' tk' F' N'; (try dsimp only); (try k_fold)); rotate_left))
local macro_rules | `(tactic| walk_at "U jv") => `(tactic| (have hs9 := sg0_of (by with_reducible assumption) (by with_reducible assumption); refine int_eq ?_; (with_reducible rename _ = sg0 _ => ha9); (with_reducible rename _ = (0 : Int) => hz9); rw [ha9, hs9, hz9]; rfl))
local macro_rules | `(tactic| walk_at "call ref") => `(tactic| (k_here; (with_reducible show wpAny _ _ (call (Value.ref 239) _ _) _ _ _); k_dflt (refine' con_use (run_of_figures_e _ _ _ _ _ _ ?c1 ?c2 ?c3 ?c4 ?c5) ?cB ?cF ?cX ?cN ?cT ?cK ?cH ?cD ?cU ?_; (case c1 => with_reducible assumption); (case c2 => omega); (case c3 => with_reducible assumption); (case c4 => omega); (case c5 => omega); (case cH => exact True.intro); walk_at "U use"; walk_at "U R3")))
local macro_rules | `(tactic| walk_at "call ref") => `(tactic| (k_here; (with_reducible show wpAny _ _ (call (Value.ref 246) _ _) _ _ _); k_dflt (refine' con_use (exponent_at_e _ _ _ _ _ _ ?c0 ?c1 ?c2 ?c3 ?c4) ?cB ?cF ?cX ?cN ?cT ?cK ?cH ?cD ?cU ?_; (case c0 => with_reducible assumption); (case c1 => with_reducible assumption); (case c2 => with_reducible assumption); (case c3 => omega); (case c4 => omega); (case cH => exact True.intro); walk_at "U use"; walk_at "U RT")))
local macro_rules | `(tactic| walk_at "binaryOp Pow int int") => `(tactic| (k_here; (with_reducible refine pow_int_small ?g1 ?g2 ?g3 ?_); (case g1 => omega); (case g2 => show _ ≤ (100 : Int); omega); (case g3 => decide)))
theorem d_of_text_pt (x : PySem.Str) (t1 t2 : Tok) (a0 a1 a2 n f1 f2 ex : Int) (hx : x.length ≤ 100) (hA : ∀ c ∈ Lz x, c < 128) (hb : ∀ c, (Lz x)[0]? = some c → c ≠ 32 ∧ c ≠ 9) (ha0 : a0 = sg0 (Lz x))
    (h1 : runF (Lz x) a0.toNat 0 = (f1, a1.toNat)) (hp : (Txt.slice x (some a1) (some (a1 + 1)) == PySem.Str.ofString ".") = true) (h2 : runF (Lz x) (a1 + 1).toNat 0 = (f2, a2.toNat)) (hE : expA (Lz x) a2 = (ex, n))
    (o0 : 0 ≤ a0) (o1 : a0 ≤ a1) (o2 : a1 < x.length) (o3 : a1 + 1 ≤ a2) (o4 : a2 ≤ x.length) (hn : 0 < a1 - a0 + (a2 - (a1 + 1))) (q0 : 0 ≤ f1) (q1 : f1 < 10 ^ 18) (q2 : 0 ≤ f1 * 10 ^ (a2 - (a1 + 1)).toNat + f2) (q3 : f1 * 10 ^ (a2 - (a1 + 1)).toNat + f2 < 10 ^ 19)
    (e0 : -60 ≤ ex - (a2 - (a1 + 1))) (e1 : ex - (a2 - (a1 + 1)) ≤ 20) :
    Con 253 6 [.str x t1, .int 9 t2] (fun _ _ => True) (RDT (mad (if (Lz x)[0]? = some 45 then 0 - (f1 * 10 ^ (a2 - (a1 + 1)).toNat + f2) else f1 * 10 ^ (a2 - (a1 + 1)).toNat + f2) (ex - (a2 - (a1 + 1))) 9).1 (mad (if (Lz x)[0]? = some 45 then 0 - (f1 * 10 ^ (a2 - (a1 + 1)).toNat + f2) else f1 * 10 ^ (a2 - (a1 + 1)).toNat + f2) (ex - (a2 - (a1 + 1))) 9).2 n) := by
  have hJ := jk [fun t => .int a0 t]
  walk_at "U in"
  k_with "state" => first | rfl | (exfalso; exact no_blank (by with_reducible assumption) (by with_reducible assumption) (by with_reducible assumption) (by omega) (by with_reducible assumption))
  k_steps
  · exfalso; omega
  all_goals (
    have hs := neg_of (by with_reducible assumption) (by with_reducible assumption)
    simp only [hs, if_true, if_false, Bool.false_eq_true] at *
    first
    | (refine ret_DT (by assumption) (by k_asm) (by k_asm) (by walk_at "U sub") ?_ ?_ ?_ <;> rfl)
    | (refine ret_DN (by assumption) (by k_asm) (by k_asm) (by walk_at "U sub") ?_ ?_ ?_ <;> first | rfl | assumption))
theorem d_of_text_np (x : PySem.Str) (t1 t2 : Tok) (a0 a1 n f1 ex : Int) (hx : x.length ≤ 100) (hA : ∀ c ∈ Lz x, c < 128) (hb : ∀ c, (Lz x)[0]? = some c → c ≠ 32 ∧ c ≠ 9) (ha0 : a0 = sg0 (Lz x))
    (h1 : runF (Lz x) a0.toNat 0 = (f1, a1.toNat)) (hp : (Txt.slice x (some a1) (some (a1 + 1)) == PySem.Str.ofString ".") = false) (hE : expA (Lz x) a1 = (ex, n))
    (o0 : 0 ≤ a0) (o1 : a0 < a1) (o2 : a1 ≤ x.length) (q0 : 0 ≤ f1) (q1 : f1 < 10 ^ 18)
    (e0 : -60 ≤ ex) (e1 : ex ≤ 20) :
    Con 253 6 [.str x t1, .int 9 t2] (fun _ _ => True) (RDT (mad (if (Lz x)[0]? = some 45 then 0 - f1 else f1) (ex - 0) 9).1 (mad (if (Lz x)[0]? = some 45 then 0 - f1 else f1) (ex - 0) 9).2 n) := by
  have hJ := jk [fun t => .int a0 t]
  walk_at "U in"
  k_with "state" => first | rfl | (exfalso; exact no_blank (by with_reducible assumption) (by with_reducible assumption) (by with_reducible assumption) (by omega) (by with_reducible assumption))
  k_steps
  · exfalso; omega
  all_goals (
    have hs := neg_of (by with_reducible assumption) (by with_reducible assumption)
    simp only [hs, if_true, if_false, Bool.false_eq_true] at *
    first
    | (refine ret_DT (by assumption) (by k_asm) (by k_asm) (by walk_at "U sub") ?_ ?_ ?_ <;> rfl)
    | (refine ret_DN (by assumption) (by k_asm) (by k_asm) (by walk_at "U sub") ?_ ?_ ?_ <;> first | rfl | assumption))
end

-- piece 26
-- needs: 16 07 15
/-- a new pair of texts comes back -/
def RS2 (a b : List Nat) (_ : Params) (news : List (Addr × Obj)) (v : Value) (nx : List (Addr × Obj)) : Prop :=
  ∃ D t1 t2, v = .ref D ∧ nx = (D, tupO [.str (St a) t1, .str (St b) t2]) :: news ∧ AllLt D news ∧ (St a).length ≤ 60 ∧ (St b).length ≤ 60
theorem ret_S2 {h₀ : Heap} {L : Addr} {m : Str → Option Value} {s : Shared} {Q : Value → Shared → Prop} {news : List (Addr × Obj)} {P : Params} {a b : List Nat}
    (k : ∀ (v : Value) (nx : List (Addr × Obj)) (h' : Heap) (tk' : Nat), RS2 a b P news v nx → Fr h₀ L h' m → News h₀ L h' nx → Q v { s with heap := h', toks := tk' })
    {D : Addr} {nx' : List (Addr × Obj)} {h' : Heap} {tk' : Nat} {x y : Str} {t1 t2 : Tok} (F : Fr h₀ L h' m) (N : News h₀ L h' ((D, tupO [.str x t1, .str y t2]) :: nx')) (hs : ∀ p ∈ news, p ∈ nx') (hl : AllLt D news) (ha : (St a).length ≤ 60) (hb : (St b).length ≤ 60) (hx : x = St a) (hy : y = St b) : Q (.ref D) { s with heap := h', toks := tk' } := by
  subst hx; subst hy
  exact k _ _ h' tk' ⟨D, t1, t2, rfl, rfl, hl, ha, hb⟩ F fun p hp => by
    rcases List.mem_cons.mp hp with rfl | hp
    · exact N _ (.head _)
    · exact N _ (.tail _ (hs p hp))
-- @use
local macro_rules | `(tactic| walk_at "U retS2") => `(tactic| (refine' ret_S2 (by assumption) ?eF ?eN ?eS ?eL ?eA ?eB ?_ ?_; (case eF => k_asm); (case eN => k_asm); (case eS => walk_at "U sub"); (case eL => walk_at "U lt")))
local macro_rules | `(tactic| walk_at "U RS2") => `(tactic| (intro v9 nx9 h9 tk9 hR9 F9 N9; obtain ⟨D9, t9, u9, e9, e9', lt9, hfa9, hfb9⟩ := hR9; subst e9; subst e9'; (try dsimp only); (try k_fold)))
-- @end
theorem split_figures_c (u p : Int) (t1 t2 : Tok) (h0 : 0 ≤ u) (hu : figs u ≤ 50) (hp : 0 ≤ p) (hp2 : p ≤ 20) : Con 156 2 [.int u t1, .int p t2] (fun _ _ => True)
    (RS2 ((padL u (p + 1) []).take ((padL u (p + 1) []).length - p.toNat)) ((padL u (p + 1) []).drop ((padL u (p + 1) []).length - p.toNat))) := by
  have hl := padL_le (k := p + 1) h0 hu (by omega)
  have hl0 : p + 1 ≤ (St (padL u (p + 1) [])).length := by show p + 1 ≤ ((padL u (p + 1) []).length : Int); rw [padL_length h0]; omega
  walk_at "U in"
  k_steps
  walk_at "U retS2"
  case eA => exact Nat.le_trans (List.length_take_le _ _) (by have h : (padL u (p + 1) []).length ≤ 50 := hl; omega)
  case eB => exact Nat.le_trans (by rw [show (St _).length = (List.drop _ _).length from rfl, List.length_drop]; exact Nat.sub_le _ _) (by have h : (padL u (p + 1) []).length ≤ 50 := hl; omega)
  · exact (to_st (by omega)).trans (by congr 1; rw [lz_st]; congr 1; show ((St _).length - p : Int).toNat = (St _).length - p.toNat; omega)
  · exact (from_st (by omega)).trans (by congr 1; rw [lz_st]; congr 1; show ((St _).length - p : Int).toNat = (St _).length - p.toNat; omega)
-- @use
local macro_rules | `(tactic| walk_at "call ref") => `(tactic| (k_here; (with_reducible show wpAny _ _ (call (Value.ref 156) _ _) _ _ _); k_dflt (refine' con_use (split_figures_c _ _ _ _ ?c1 ?c2 ?c3 ?c4) ?cB ?cF ?cX ?cN ?cT ?cK ?cH ?cD ?cU ?_; (case c1 => first | with_reducible assumption | omega | exact (scl_bd (by omega) (by omega) (by omega)).1 | ktn_no "split 1"); (case c2 => first | with_reducible assumption | omega | exact (scl_bd (by omega) (by omega) (by omega)).2 | ktn_no "split 2"); (case c3 => first | with_reducible assumption | omega | ktn_no "split 3"); (case c4 => first | with_reducible assumption | omega | ktn_no "split 4"); (case cH => exact True.intro); walk_at "U use"; walk_at "U RS2")))
-- @end

-- piece 27
-- needs: 26 23
/-- a new triple of texts comes back -/
def RS3 (a b c : List Nat) (_ : Params) (news : List (Addr × Obj)) (v : Value) (nx : List (Addr × Obj)) : Prop :=
  ∃ D t1 t2 t3, v = .ref D ∧ nx = (D, tupO [.str (St a) t1, .str (St b) t2, .str (St c) t3]) :: news ∧ AllLt D news ∧ (St a).length ≤ 101 ∧ (St b).length ≤ 101 ∧ (St c).length ≤ 103
theorem ret_S3 {h₀ : Heap} {L : Addr} {m : Str → Option Value} {s : Shared} {Q : Value → Shared → Prop} {news : List (Addr × Obj)} {P : Params} {a b c : List Nat}
    (k : ∀ (v : Value) (nx : List (Addr × Obj)) (h' : Heap) (tk' : Nat), RS3 a b c P news v nx → Fr h₀ L h' m → News h₀ L h' nx → Q v { s with heap := h', toks := tk' })
    {D : Addr} {nx' : List (Addr × Obj)} {h' : Heap} {tk' : Nat} {x y z : Str} {t1 t2 t3 : Tok} (F : Fr h₀ L h' m) (N : News h₀ L h' ((D, tupO [.str x t1, .str y t2, .str z t3]) :: nx')) (hs : ∀ p ∈ news, p ∈ nx') (hl : AllLt D news)
    (ha : (St a).length ≤ 101) (hb : (St b).length ≤ 101) (hc : (St c).length ≤ 103) (hx : x = St a) (hy : y = St b) (hz : z = St c) : Q (.ref D) { s with heap := h', toks := tk' } := by
  subst hx; subst hy; subst hz
  exact k _ _ h' tk' ⟨D, t1, t2, t3, rfl, rfl, hl, ha, hb, hc⟩ F fun p hp => by
    rcases List.mem_cons.mp hp with rfl | hp
    · exact N _ (.head _)
    · exact N _ (.tail _ (hs p hp))
-- @use
local macro_rules | `(tactic| walk_at "U retS3") => `(tactic| (refine' ret_S3 (by assumption) ?eF ?eN ?eS ?eL ?eA ?eB ?eC ?_ ?_ ?_; (case eF => k_asm); (case eN => k_asm); (case eS => walk_at "U sub"); (case eL => walk_at "U lt")))
local macro_rules | `(tactic| walk_at "U RS3") => `(tactic| (intro v9 nx9 h9 tk9 hR9 F9 N9; obtain ⟨D9, t9, u9, w9, e9, e9', lt9, hfa9, hfb9, hfc9⟩ := hR9; subst e9; subst e9'; (try dsimp only); (try k_fold)))
-- @end
theorem wx_len {pl r c e : Int} (hp : 0 ≤ pl) (hp2 : pl ≤ 10) (hr : 0 ≤ r) (hr2 : r ≤ 10) (hU : 0 ≤ wxU pl r c e) (hU2 : figs (wxU pl r c e) ≤ 50) (hL : (wxL pl r c e).natAbs ≤ 100) :
    (St (wx1 pl r c e)).length ≤ 101 ∧ (St (wx2 pl r c e)).length ≤ 101 ∧ (St (wx3 pl r c e)).length ≤ 103 := by
  have h1 : (padL (wxU pl r c e) (pl + r) []).length ≤ 50 := padL_le hU hU2 (by omega)
  have h2 : (padL ((wxL pl r c e).natAbs : Int) 2 []).length ≤ 50 := padL_le (by omega) (figs_le (k := 50) (by decide) (by omega)) (by decide)
  refine ⟨?_, ?_, ?_⟩
  · show (wx1 pl r c e).length ≤ 101
    unfold wx1; split
    · rw [List.length_replicate]; omega
    · rw [List.length_take]; omega
  · show (wx2 pl r c e).length ≤ 101
    unfold wx2; split
    · rw [List.length_replicate]; omega
    · rw [List.length_drop]; omega
  · show (wx3 pl r c e).length ≤ 103
    unfold wx3; split
    · decide
    · rw [List.length_append, List.length_append]
      have : (if wxL pl r c e < 0 then [45] else [43] : List Nat).length = 1 := by split <;> rfl
      rw [this]
      simp only [List.length_cons, List.length_nil]
      omega
section
local macro_rules | `(tactic| walk_at "exec If") => `(tactic| (k_here; (with_reducible show wpAny _ _ (exec (Stmt.If _ [_, _] [] _) _) _ _ _); (fail_if_success (with_reducible show wpAny _ _ _ (JoinX2 _ _ _ _ _ _ _ _ _) _ _)); (with_reducible rename Fr _ _ _ _ => jF'); (with_reducible rename News _ _ _ _ => jN'); (with_reducible rename JK _ => jK'); refine joinX2 (Str.ofString "lift") (Str.ofString "units") jK' jF' jN' ?_ ?_; (clear jK'); rotate_left; (clear jF' jN' jK'; intro jK t1' t2' h' tk' F' N'; (try dsimp only); (try k_fold)); rotate_left))
local macro_rules | `(tactic| walk_at "eval IfExp") => `(tactic| (k_here; (with_reducible show wpAny _ _ (eval (Expr.IfExp _ (Expr.Constant (Const.str _) _ _) _ _) _) _ _ _); walk_at "U joinV"))
local macro_rules | `(tactic| walk_at "U jv") => `(tactic| (first | (refine int_eq ?_; unfold wxL; first | rw [if_pos (by with_reducible assumption)] | rw [if_neg (by with_reducible assumption)]) | (refine int_eq ?_; unfold wxU; first | rw [if_pos (by with_reducible assumption)] | rw [if_neg (by with_reducible assumption)]) | (refine str_eq ?_; first | (rw [if_pos (by with_reducible assumption)]; first | exact o_minus | exact o_plus) | (rw [if_neg (by with_reducible assumption)]; first | exact o_minus | exact o_plus))))
theorem with_exponent_c (X : Addr) (l r : Int) (pt : Bool) (c e : Int) (t1 t2 : Tok) (hl : 2 ≤ l) (hl2 : l ≤ 10) (hr : 0 ≤ r) (hr2 : r ≤ 10) (h0 : 0 ≤ c) (hc : c < 10 ^ 12) (he : -20 ≤ e) (he2 : e ≤ 20) :
    Con 163 4 [.ref X, .int c t1, .int e t2] (fun P news => PicAt P news X ⟨l, r, pt, false, false, false, true, Str.ofString ""⟩) (RS3 (wx1 (max (l - 1) 0) r c e) (wx2 (max (l - 1) 0) r c e) (wx3 (max (l - 1) 0) r c e)) := by
  have hf := figs_le (n := c) (k := 12) (by decide) hc
  have hf0 := figs_pos c
  have hJ := jk [fun t => .int (wxL (max (l - 1) 0) r c e) t, fun t => .int (wxU (max (l - 1) 0) r c e) t, fun t => .str (if wxL (max (l - 1) 0) r c e < 0 then St [45] else St [43]) t]
  have hu : 0 ≤ wxU (max (l - 1) 0) r c e ∧ figs (wxU (max (l - 1) 0) r c e) ≤ 50 := by
    unfold wxU; split <;> exact scl_bd h0 hc (by omega)
  obtain ⟨hu0, hu1⟩ := hu
  have hw : -30 ≤ wxL (max (l - 1) 0) r c e ∧ wxL (max (l - 1) 0) r c e ≤ 40 := by unfold wxL; split <;> omega
  have hn := wx_len (pl := max (l - 1) 0) (by omega) (by omega) hr hr2 hu0 hu1 (by omega)
  walk_at "U in"
  obtain ⟨dx, k, n, hx, hd⟩ := ‹PicAt _ _ _ _›
  dsimp only [picEs] at hd
  k_steps
  · walk_at "U retS3"
    case eA => exact hn.1
    case eB => exact hn.2.1
    case eC => exact hn.2.2
    · rw [o_zero, mul_st, wx1, if_pos (by assumption)]
    · rw [o_zero, mul_st, wx2, if_pos (by assumption)]
    · rw [o_E00, wx3, if_pos (by assumption)]
  · walk_at "U retS3"
    case eA => exact hn.1
    case eB => exact hn.2.1
    case eC => exact hn.2.2
    · rw [to_st (by omega), wx1, if_neg (by assumption)]
    · rw [from_st (by omega), wx2, if_neg (by assumption)]
    · have e3 : wx3 (max (l - 1) 0) r c e = [69] ++ (if wxL (max (l - 1) 0) r c e < 0 then [45] else [43]) ++ padL (wxL (max (l - 1) 0) r c e).natAbs 2 [] := if_neg (by assumption)
      rw [o_E, e3, ← st_append, ← st_append]
      congr 2
      split <;> rfl
end
-- @use
local macro_rules | `(tactic| walk_at "call ref") => `(tactic| (k_here; (with_reducible show wpAny _ _ (call (Value.ref 163) _ _) _ _ _); k_dflt (refine' con_use (with_exponent_c _ _ _ _ _ _ _ _ ?c1 ?c2 ?c3 ?c4 ?c5 ?c6 ?c7 ?c8) ?cB ?cF ?cX ?cN ?cT ?cK ?cH ?cD ?cU ?_; (case c1 => first | with_reducible assumption | omega | ktn_no "withexp 1"); (case c2 => first | with_reducible assumption | omega | ktn_no "withexp 2"); (case c3 => first | with_reducible assumption | omega | ktn_no "withexp 3"); (case c4 => first | with_reducible assumption | omega | ktn_no "withexp 4"); (case c5 => first | with_reducible assumption | omega | ktn_no "withexp 5"); (case c6 => first | with_reducible assumption | omega | ktn_no "withexp 6"); (case c7 => first | with_reducible assumption | omega | ktn_no "withexp 7"); (case c8 => first | with_reducible assumption | omega | ktn_no "withexp 8"); walk_at "U use"; (case cH => walk_at "U pic"); walk_at "U RS3")))
-- @end

-- piece 28
-- needs: 27 21 19
theorem split_figures_e (u p : Int) (t1 t2 : Tok) (A B : List Nat) (hA : A = (padL u (p + 1) []).take ((padL u (p + 1) []).length - p.toNat)) (hB : B = (padL u (p + 1) []).drop ((padL u (p + 1) []).length - p.toNat))
    (h0 : 0 ≤ u) (hu : figs u ≤ 50) (hp : 0 ≤ p) (hp2 : p ≤ 20) : Con 156 2 [.int u t1, .int p t2] (fun _ _ => True) (RS2 A B) := by
  subst hA; subst hB; exact split_figures_c u p t1 t2 h0 hu hp hp2
theorem nbG_t {p : Pic} {A : List Nat} (h1 : p.comma = true) (h2 : p.expo = false) : St (grp (Lz (St A))) = St (nbG p A) := by rw [nbG, if_pos ⟨h1, h2⟩]
theorem nbG_f {p : Pic} {A : List Nat} (h1 : p.comma = false) : St A = St (nbG p A) := by rw [nbG, if_neg (by rw [h1]; simp)]
/-- a number as a value: an int, or a pair -/
def NV (P : Params) (news : List (Addr × Obj)) (v : Value) (c e : Int) : Prop := (∃ t, v = .int c t ∧ e = 0) ∨ ∃ D t1 t2, v = .ref D ∧ TA P news D c e t1 t2
theorem NV.more {P : Params} {news nx : List (Addr × Obj)} {v : Value} {c e : Int} (h : NV P news v c e) (hs : ∀ p ∈ news, p ∈ nx) : NV P nx v c e :=
  h.imp_right fun ⟨D, t1, t2, e, T⟩ => ⟨D, t1, t2, e, T.more hs⟩
section
local macro_rules | `(tactic| walk_at "exec Assign") => `(tactic| (k_here; (with_reducible show wpAny _ _ (exec (Stmt.Assign [Expr.Tuple [Expr.Name (Str.ofString "coefficient") _, _] _ _] _ _) _) _ _ _); (fail_if_success (with_reducible show wpAny _ _ _ (JoinX2 _ _ _ _ _ _ _ _ _) _ _)); (with_reducible rename Fr _ _ _ _ => jF'); (with_reducible rename News _ _ _ _ => jN'); (with_reducible rename JK _ => jK'); refine joinX2 (Str.ofString "coefficient") (Str.ofString "exponent") jK' jF' jN' ?_ ?_; (clear jK'); rotate_left; (clear jF' jN' jK'; intro jK t1' t2' h' tk' F' N'; (try dsimp only); (try k_fold)); rotate_left; (with_reducible rename NV _ _ _ _ _ => jV'); (rcases jV' with ⟨_, e1', e2'⟩ | ⟨_, _, _, e1', jT'⟩); (subst e1'; subst e2'); rotate_left; (subst e1'); rotate_left))
local macro_rules | `(tactic| walk_at "U sz") => `(tactic| first | ((try simp only [PySem.sizeLine_eq, PySem.Str.length_append, mulS_len, o_len0, o_len1]); omega) | kopn_len)
local macro_rules | `(tactic| walk_at "call ref") => `(tactic| (k_here; (with_reducible show wpAny _ _ (call (Value.ref 156) _ _) _ _ _); k_dflt (refine' con_use (split_figures_e _ _ _ _ _ _ ?cy ?cz ?c1 ?c2 ?c3 ?c4) ?cB ?cF ?cX ?cN ?cT ?cK ?cH ?cD ?cU ?_; (case cy => assumption); (case cz => assumption); (case c1 => exact (scl_bd (by omega) (by omega) (by omega)).1); (case c2 => exact (scl_bd (by omega) (by omega) (by omega)).2); (case c3 => first | with_reducible assumption | omega | ktn_no "split 3"); (case c4 => first | with_reducible assumption | omega | ktn_no "split 4"); (case cH => exact True.intro); walk_at "U use"; walk_at "U RS2")))
local macro_rules | `(tactic| walk_at "exec If") => `(tactic| (k_here; (with_reducible show wpAny _ _ (exec (Stmt.If _ [Stmt.Assign [Expr.Name (Str.ofString "ahead") _] _ _] [] _) _) _ _ _); (fail_if_success (with_reducible show wpAny _ _ _ (JoinX _ _ _ _ _ _ _) _ _)); (with_reducible rename Fr _ _ _ _ => jF'); (with_reducible rename News _ _ _ _ => jN'); (with_reducible rename JK _ => jK'); refine joinX (Str.ofString "ahead") jK' jF' jN' ?_ ?_; (clear jK'); rotate_left; (clear jF' jN' jK'; intro jK t1' h' tk' F' N'; (try dsimp only); (try k_fold)); rotate_left))
local macro_rules | `(tactic| walk_at "eval IfExp") => `(tactic| (k_here; (with_reducible show wpAny _ _ (eval (Expr.IfExp _ (Expr.Constant _ _ _) (Expr.Constant _ _ _) _) _) _ _ _); walk_at "U joinV"))
local macro_rules | `(tactic| walk_at "U jv") => `(tactic| first
  | exact ⟨_, rfl⟩
  | exact str_eq (nbG_t (by with_reducible assumption) (by with_reducible assumption))
  | exact str_eq (nbG_f (by with_reducible assumption))
  | exact str_eq (nbA1 (by with_reducible assumption) (by with_reducible assumption) (by with_reducible assumption))
  | exact str_eq (nbA2 (by with_reducible assumption))
  | exact str_eq (nbA3 (by with_reducible assumption))
  | exact str_eq (nbA4 (by with_reducible assumption))
  | (refine str_eq ?_; (simp only [*, if_true, if_false, Bool.false_eq_true]); first | exact o_dollar | exact o_empty | exact o_star | exact o_blank | exact o_dot)
  | (refine int_eq ?_; (simp only [*, if_true, if_false, Bool.false_eq_true]); done)
  | walk_at "JV SHOW")
theorem number_plain_c (X : Addr) (p : Pic) (v : Value) (c e : Int) (A B : List Nat) (hp : p.expo = false) (hl : 0 ≤ p.left) (hl2 : p.left ≤ 30) (hr : 0 ≤ p.right) (hr2 : p.right ≤ 10) (hc : (c.natAbs : Int) < 10 ^ 12) (he : -20 ≤ e) (he2 : e ≤ 20)
    (hA : A = (padL (scl c.natAbs e p.right) (p.right + 1) []).take ((padL (scl c.natAbs e p.right) (p.right + 1) []).length - p.right.toNat))
    (hB : B = (padL (scl c.natAbs e p.right) (p.right + 1) []).drop ((padL (scl c.natAbs e p.right) (p.right + 1) []).length - p.right.toNat)) :
    Con 184 4 [.ref X, v] (fun P news => PicAt P news X p ∧ NV P news v c e) (RVF ((St (nbO p (decide (c < 0)) A B [])).length ≤ 400) fun t => .str (St (nbO p (decide (c < 0)) A B [])) t) := by
  have hJ := jk [fun t => .int c t, fun t => .int e t, fun t => .str (St (nbG p A)) t, fun t => .str (if p.dollar = true then St [36] else St []) t, fun t => .int (if (p.sign == Str.ofString "+ahead") = true then 1 else 0) t,
    fun t => .str (St (nbA p (decide (c < 0)) A B)) t, fun t => .str (if p.star = true then St [42] else St [32]) t, fun t => .str (if p.point = true then St [46] else St []) t]
  have hb := scl_bd (c := c.natAbs) (e := e) (p := p.right) (by omega) hc (by omega)
  have hpl := padL_le (k := p.right + 1) hb.1 hb.2 (by omega)
  have hAl : A.length ≤ 60 := by rw [hA]; exact Nat.le_trans (List.length_take_le _ _) (Nat.le_trans (Nat.sub_le _ _) (Nat.le_trans hpl (by decide)))
  have hBl : B.length ≤ 101 := by rw [hB, List.length_drop]; exact Nat.le_trans (Nat.sub_le _ _) (Nat.le_trans hpl (by decide))
  have hO := nbO_len (p := p) (b := decide (c < 0)) (T := []) hl2 hAl hBl (by decide)
  have hGl := nbG_len (p := p) hAl
  have hNl := nbA_len (p := p) (b := decide (c < 0)) (B := B) hAl
  have hS1 : (if p.dollar = true then St [36] else St []).length ≤ 1 := by split <;> decide
  have hS2 : (if p.star = true then St [42] else St [32]).length ≤ 1 := by split <;> decide
  have hS3 : (if p.point = true then St [46] else St []).length ≤ 1 := by split <;> decide
  clear hb hpl
  walk_at "U in"
  obtain ⟨⟨dx, k, n, hx, hd⟩, hv⟩ := ‹PicAt _ _ _ _ ∧ _›
  k_steps
  · walk_at "U retF"
    case eP => exact hO
    exact str_eq (nbO1 o_empty (by with_reducible assumption))
  · walk_at "U retF"
    case eP => exact hO
    exact str_eq (nbO2 o_empty (by with_reducible assumption))
end

-- piece 29
-- needs: 28 09
theorem with_exponent_p (X : Addr) (p : Pic) (c e : Int) (t1 t2 : Tok) (A B T : List Nat) (hp : ExpoPic p)
    (hA : A = wx1 (max (p.left - 1) 0) p.right c e) (hB : B = wx2 (max (p.left - 1) 0) p.right c e) (hT : T = wx3 (max (p.left - 1) 0) p.right c e)
    (hl : 2 ≤ p.left) (hl2 : p.left ≤ 10) (hr : 0 ≤ p.right) (hr2 : p.right ≤ 10) (h0 : 0 ≤ c) (hc : c < 10 ^ 12) (he : -20 ≤ e) (he2 : e ≤ 20) :
    Con 163 4 [.ref X, .int c t1, .int e t2] (fun P news => PicAt P news X p) (RS3 A B T) := by
  subst hA; subst hB; subst hT
  have h := with_exponent_c X p.left p.right p.point c e t1 t2 hl hl2 hr hr2 h0 hc he he2
  rw [← show p = ⟨p.left, p.right, p.point, false, false, false, true, Str.ofString ""⟩ from hp] at h
  exact h
theorem wx_len' {pl r c e : Int} (hp : 0 ≤ pl) (hp2 : pl ≤ 10) (hr : 0 ≤ r) (hr2 : r ≤ 10) (h0 : 0 ≤ c) (hc : c < 10 ^ 12) (he : -20 ≤ e) (he2 : e ≤ 20) :
    (wx1 pl r c e).length ≤ 60 ∧ (wx2 pl r c e).length ≤ 60 ∧ (wx3 pl r c e).length ≤ 103 := by
  have hf := figs_le (n := c) (k := 12) (by decide) hc
  have hf0 := figs_pos c
  have hu : 0 ≤ wxU pl r c e ∧ figs (wxU pl r c e) ≤ 50 := by
    unfold wxU; split <;> exact scl_bd h0 hc (by omega)
  have hw : -30 ≤ wxL pl r c e ∧ wxL pl r c e ≤ 40 := by unfold wxL; split <;> omega
  have hn := (wx_len (pl := pl) hp hp2 hr hr2 hu.1 hu.2 (by omega)).2.2
  have h1 : (padL (wxU pl r c e) (pl + r) []).length ≤ 50 := padL_le hu.1 hu.2 (by omega)
  refine ⟨?_, ?_, hn⟩
  · unfold wx1; split
    · rw [List.length_replicate]; omega
    · rw [List.length_take]; omega
  · unfold wx2; split
    · rw [List.length_replicate]; omega
    · rw [List.length_drop]; omega
theorem nbG_f' {p : Pic} {A : List Nat} (h1 : p.comma = false) : St A = St (nbG p A) := by rw [nbG, if_neg (by rw [h1]; simp)]
section
local macro_rules | `(tactic| walk_at "exec Assign") => `(tactic| (k_here; (with_reducible show wpAny _ _ (exec (Stmt.Assign [Expr.Tuple [Expr.Name (Str.ofString "coefficient") _, _] _ _] _ _) _) _ _ _); (fail_if_success (with_reducible show wpAny _ _ _ (JoinX2 _ _ _ _ _ _ _ _ _) _ _)); (with_reducible rename Fr _ _ _ _ => jF'); (with_reducible rename News _ _ _ _ => jN'); (with_reducible rename JK _ => jK'); refine joinX2 (Str.ofString "coefficient") (Str.ofString "exponent") jK' jF' jN' ?_ ?_; (clear jK'); rotate_left; (clear jF' jN' jK'; intro jK t1' t2' h' tk' F' N'; (try dsimp only); (try k_fold)); rotate_left; (with_reducible rename NV _ _ _ _ _ => jV'); (rcases jV' with ⟨_, e1', e2'⟩ | ⟨_, _, _, e1', jT'⟩); (subst e1'; subst e2'); rotate_left; (subst e1'); rotate_left))
local macro_rules | `(tactic| walk_at "U sz") => `(tactic| first | ((try simp only [PySem.sizeLine_eq, PySem.Str.length_append, mulS_len, o_len0, o_len1]); omega) | kopn_len)
local macro_rules | `(tactic| walk_at "exec If") => `(tactic| (k_here; (with_reducible show wpAny _ _ (exec (Stmt.If _ [Stmt.Assign [Expr.Name (Str.ofString "ahead") _] _ _] [] _) _) _ _ _); (fail_if_success (with_reducible show wpAny _ _ _ (JoinX _ _ _ _ _ _ _) _ _)); (with_reducible rename Fr _ _ _ _ => jF'); (with_reducible rename News _ _ _ _ => jN'); (with_reducible rename JK _ => jK'); refine joinX (Str.ofString "ahead") jK' jF' jN' ?_ ?_; (clear jK'); rotate_left; (clear jF' jN' jK'; intro jK t1' h' tk' F' N'; (try dsimp only); (try k_fold)); rotate_left))
local macro_rules | `(tactic| walk_at "eval IfExp") => `(tactic| (k_here; (with_reducible show wpAny _ _ (eval (Expr.IfExp _ (Expr.Constant _ _ _) (Expr.Constant _ _ _) _) _) _ _ _); walk_at "U joinV"))
local macro_rules | `(tactic| walk_at "U jv") => `(tactic| first
  | exact ⟨_, rfl⟩
  | exact str_eq (nbG_t (by with_reducible assumption) (by with_reducible assumption))
  | exact str_eq (nbG_f (by with_reducible assumption))
  | exact str_eq (nbA1 (by with_reducible assumption) (by with_reducible assumption) (by with_reducible assumption))
  | exact str_eq (nbA2 (by with_reducible assumption))
  | exact str_eq (nbA3 (by with_reducible assumption))
  | exact str_eq (nbA4 (by with_reducible assumption))
  | (refine str_eq ?_; (simp only [*, if_true, if_false, Bool.false_eq_true]); first | exact o_dollar | exact o_empty | exact o_star | exact o_blank | exact o_dot)
  | (refine int_eq ?_; (simp only [*, if_true, if_false, Bool.false_eq_true]); done)
  | walk_at "JV SHOW")
local macro_rules | `(tactic| walk_at "call ref") => `(tactic| (k_here; (with_reducible show wpAny _ _ (call (Value.ref 163) _ _) _ _ _); k_dflt (refine' con_use (with_exponent_p _ _ _ _ _ _ _ _ _ ?cp ?cx ?cy ?cz ?c1 ?c2 ?c3 ?c4 ?c5 ?c6 ?c7 ?c8) ?cB ?cF ?cX ?cN ?cT ?cK ?cH ?cD ?cU ?_; (case cp => assumption); (case cx => assumption); (case cy => assumption); (case cz => assumption); (case c1 => omega); (case c2 => omega); (case c3 => omega); (case c4 => omega); (case c5 => omega); (case c6 => omega); (case c7 => omega); (case c8 => omega); walk_at "U use"; (case cH => walk_at "U pic"); walk_at "U RS3")))
theorem number_exp_c (X : Addr) (p : Pic) (v : Value) (c e : Int) (A B T : List Nat) (hpp : ExpoPic p) (hpe : p.expo = true) (hpc : p.comma = false)
    (hl : 2 ≤ p.left) (hl2 : p.left ≤ 10) (hr : 0 ≤ p.right) (hr2 : p.right ≤ 10) (hc : (c.natAbs : Int) < 10 ^ 12) (he : -20 ≤ e) (he2 : e ≤ 20)
    (hA : A = wx1 (max (p.left - 1) 0) p.right c.natAbs e) (hB : B = wx2 (max (p.left - 1) 0) p.right c.natAbs e) (hT : T = wx3 (max (p.left - 1) 0) p.right c.natAbs e) :
    Con 184 5 [.ref X, v] (fun P news => PicAt P news X p ∧ NV P news v c e) (RVF ((St (nbO p (decide (c < 0)) A B T)).length ≤ 400) fun t => .str (St (nbO p (decide (c < 0)) A B T)) t) := by
  have hJ := jk [fun t => .int c t, fun t => .int e t, fun t => .str (St (nbG p A)) t, fun t => .str (if p.dollar = true then St [36] else St []) t, fun t => .int (if (p.sign == Str.ofString "+ahead") = true then 1 else 0) t,
    fun t => .str (St (nbA p (decide (c < 0)) A B)) t, fun t => .str (if p.star = true then St [42] else St [32]) t, fun t => .str (if p.point = true then St [46] else St []) t]
  have hw := wx_len' (pl := max (p.left - 1) 0) (r := p.right) (c := c.natAbs) (e := e) (by omega) (by omega) hr hr2 (by omega) hc he he2
  rw [← hA, ← hB, ← hT] at hw
  obtain ⟨hAl, hBl, hTl⟩ := hw
  have hO := nbO_len (p := p) (b := decide (c < 0)) (T := T) (by omega) hAl (by omega : B.length ≤ 101) hTl
  have hGl := nbG_len (p := p) hAl
  have hNl := nbA_len (p := p) (b := decide (c < 0)) (B := B) hAl
  have hS1 : (if p.dollar = true then St [36] else St []).length ≤ 1 := by split <;> decide
  have hS2 : (if p.star = true then St [42] else St [32]).length ≤ 1 := by split <;> decide
  have hS3 : (if p.point = true then St [46] else St []).length ≤ 1 := by split <;> decide
  walk_at "U in"
  obtain ⟨⟨dx, k, n, hx, hd⟩, hv⟩ := ‹PicAt _ _ _ _ ∧ _›
  k_steps
  · walk_at "U retF"
    case eP => exact hO
    exact str_eq (nbO1 rfl (by with_reducible assumption))
  · walk_at "U retF"
    case eP => exact hO
    exact str_eq (nbO2 rfl (by with_reducible assumption))
end

-- piece 30
-- needs: 13 08
section
variable {x : PySem.Str} {a : Int}
theorem bgn_suf (h0 : 0 ≤ a) : suf x (if (suf x a).take 1 = [43] then a + 1 else a) = if (suf x a).take 1 = [43] then (suf x a).drop 1 else suf x a := by
  split
  · exact suf_add 1 h0
  · rfl
theorem bgn_nn (h0 : 0 ≤ a) : 0 ≤ (if (suf x a).take 1 = [43] then a + 1 else a) := by split <;> omega
theorem bgn1 (h0 : 0 ≤ a) (h : (Txt.slice x (some (if (suf x a).take 1 = [43] then a + 1 else a)) (some ((if (suf x a).take 1 = [43] then a + 1 else a) + 1)) == PySem.Str.ofString "#") = true) :
    (Txt.slice x (some (if (suf x a).take 1 = [43] then a + 1 else a)) (some ((if (suf x a).take 1 = [43] then a + 1 else a) + 1)) == PySem.Str.ofString "#") = bgnL (suf x a) := by
  rw [h]
  rw [suf_is1 (bgn_nn h0) o_hash, bgn_suf h0] at h
  unfold bgnL
  simp only [h, Bool.true_or]
theorem bgn2 (h0 : 0 ≤ a) (h : (Txt.slice x (some (if (suf x a).take 1 = [43] then a + 1 else a)) (some ((if (suf x a).take 1 = [43] then a + 1 else a) + 1)) == PySem.Str.ofString "#") = false) :
    ([PySem.Str.ofString "**", PySem.Str.ofString "$$", PySem.Str.ofString ".#"].any fun y => y == Txt.slice x (some (if (suf x a).take 1 = [43] then a + 1 else a)) (some ((if (suf x a).take 1 = [43] then a + 1 else a) + 2))) = bgnL (suf x a) := by
  rw [suf_is1 (bgn_nn h0) o_hash, bgn_suf h0] at h
  unfold bgnL
  simp only [h, Bool.false_or, List.any_cons, List.any_nil, Bool.or_false, beq_swap _ (Txt.slice _ _ _), suf_is2 (bgn_nn h0) o_ss, suf_is2 (bgn_nn h0) o_dd, suf_is2 (bgn_nn h0) o_dh, bgn_suf h0, Bool.or_assoc]
end
section
local macro_rules | `(tactic| walk_at "exec If") => `(tactic| (k_here; (with_reducible show wpAny _ _ (exec (Stmt.If _ [Stmt.Assign [Expr.Name (Str.ofString "at") _] _ _] [] _) _) _ _ _); (fail_if_success (with_reducible show wpAny _ _ _ (JoinX _ _ _ _ _ _ _) _ _)); (with_reducible rename Fr _ _ _ _ => jF'); (with_reducible rename News _ _ _ _ => jN'); (with_reducible rename JK _ => jK'); refine joinX (Str.ofString "at") jK' jF' jN' ?_ ?_; (clear jK'); rotate_left; (clear jF' jN' jK'; intro jK t1' h' tk' F' N'; (try dsimp only); (try k_fold)); rotate_left))
local macro_rules | `(tactic| walk_at "U jv") => `(tactic| (refine int_eq ?_; (with_reducible rename _ = _ => hs9); (rw [suf_is1 (by assumption) o_plus] at hs9); (simp only [decide_eq_true_eq, decide_eq_false_iff_not] at hs9); (simp only [hs9, if_true, if_false])))
theorem begins_number_c (x : PySem.Str) (a : Int) (t1 t2 : Tok) (hx : x.length ≤ 100) (h0 : 0 ≤ a) (h1 : a ≤ x.length) : Con 93 1 [.str x t1, .int a t2] (fun _ _ => True) (RV fun _ => .bool (bgnL (suf x a))) := by
  have hJ := jk [fun t => .int (if (suf x a).take 1 = [43] then a + 1 else a) t]
  have hB : 0 ≤ (if (suf x a).take 1 = [43] then a + 1 else a) ∧ (if (suf x a).take 1 = [43] then a + 1 else a) ≤ 101 := by split <;> omega
  walk_at "U in"
  k_steps
  · walk_at "U ret"
    exact bool_eq (bgn1 h0 (by with_reducible assumption))
  · walk_at "U ret"
    exact bool_eq (bgn2 h0 (by with_reducible assumption))
end
-- @use
local macro_rules | `(tactic| walk_at "call ref") => `(tactic| (k_here; (with_reducible show wpAny _ _ (call (Value.ref 93) _ _) _ _ _); k_dflt (refine' con_use (begins_number_c _ _ _ _ ?c1 ?c2 ?c3) ?cB ?cF ?cX ?cN ?cT ?cK ?cH ?cD ?cU ?_; (case c1 => omega); (case c2 => omega); (case c3 => omega); (case cH => exact True.intro); walk_at "U use"; walk_at "U RV")))
-- @end

-- piece 31
-- needs: 13 08 23
/-- the picture p stands first in the ledger -/
def PicHd (X dx : Addr) (p : Pic) (rest : List (Addr × Obj)) (P : Params) (news : List (Addr × Obj)) : Prop := ∃ k : PTk, news = (X, instObj 82 dx) :: (dx, dictOf (picEs P p k) 8) :: rest
def RPic (X dx : Addr) (rest : List (Addr × Obj)) (S : Pic × Nat) (a : Int) (P : Params) (_ : List (Addr × Obj)) (v : Value) (nx : List (Addr × Obj)) : Prop := (∃ t, v = .int (a + S.2) t) ∧ PicHd X dx S.1 rest P nx
theorem ret_P {h₀ : Heap} {L : Addr} {m : Str → Option Value} {s : Shared} {Q : Value → Shared → Prop} {news : List (Addr × Obj)} {P : Params} {X dx : Addr} {rest : List (Addr × Obj)} {S : Pic × Nat} {a : Int}
    (k : ∀ (v : Value) (nx : List (Addr × Obj)) (h' : Heap) (tk' : Nat), RPic X dx rest S a P news v nx → Fr h₀ L h' m → News h₀ L h' nx → Q v { s with heap := h', toks := tk' })
    {nx' : List (Addr × Obj)} {h' : Heap} {tk' : Nat} {z : Int} {t k1 k2 k3 k4 k5 k6 k7 k8 vl vr vs : Tok} {l r : Int} {pt st dl cm ex : Bool} {sg : PySem.Str} (F : Fr h₀ L h' m) (N : News h₀ L h' nx') (hs : ∀ p ∈ (X, instObj 82 dx) :: (dx, dictOf [
  ⟨PyData.keyHash P (Str.ofString "left"), .str (Str.ofString "left") k1, .int l vl⟩,
  ⟨PyData.keyHash P (Str.ofString "right"), .str (Str.ofString "right") k2, .int r vr⟩,
  ⟨PyData.keyHash P (Str.ofString "has_point"), .str (Str.ofString "has_point") k3, .bool pt⟩,
  ⟨PyData.keyHash P (Str.ofString "has_star"), .str (Str.ofString "has_star") k4, .bool st⟩,
  ⟨PyData.keyHash P (Str.ofString "has_dollar"), .str (Str.ofString "has_dollar") k5, .bool dl⟩,
  ⟨PyData.keyHash P (Str.ofString "has_comma"), .str (Str.ofString "has_comma") k6, .bool cm⟩,
  ⟨PyData.keyHash P (Str.ofString "has_exponent"), .str (Str.ofString "has_exponent") k7, .bool ex⟩,
  ⟨PyData.keyHash P (Str.ofString "sign"), .str (Str.ofString "sign") k8, .str sg vs⟩] 8) :: rest, p ∈ nx') (hE : S.1 = ⟨l, r, pt, st, dl, cm, ex, sg⟩) (hz : z = a + S.2) : Q (.int z t) { s with heap := h', toks := tk' } := by
  subst hz
  exact k _ _ h' tk' ⟨⟨t, rfl⟩, ⟨k1, k2, k3, k4, k5, k6, k7, k8, vl, vr, vs⟩, rfl⟩ F fun p hp => N p (hs p (by rw [hE] at hp; exact hp))
-- @use
local macro_rules | `(tactic| walk_at "U retP") => `(tactic| ((with_reducible rename News _ _ _ _ => jN'); first
  | refine' ret_P (by assumption) (by k_asm) jN' (List.forall_mem_cons.mpr ⟨List.Mem.head _, List.forall_mem_cons.mpr ⟨List.Mem.tail _ (List.Mem.head _), by walk_at "U sub"⟩⟩) ?eE ?eZ
  | refine' ret_P (by assumption) (by k_asm) jN' (List.forall_mem_cons.mpr ⟨List.Mem.tail _ (List.Mem.head _), List.forall_mem_cons.mpr ⟨List.Mem.tail _ (List.Mem.tail _ (List.Mem.head _)), by walk_at "U sub"⟩⟩) ?eE ?eZ
  | refine' ret_P (by assumption) (by k_asm) jN' (List.forall_mem_cons.mpr ⟨List.Mem.tail _ (List.Mem.tail _ (List.Mem.head _)), List.forall_mem_cons.mpr ⟨List.Mem.tail _ (List.Mem.tail _ (List.Mem.tail _ (List.Mem.head _))), by walk_at "U sub"⟩⟩) ?eE ?eZ
  | refine' ret_P (by assumption) (by k_asm) jN' (List.forall_mem_cons.mpr ⟨List.Mem.tail _ (List.Mem.tail _ (List.Mem.tail _ (List.Mem.head _))), List.forall_mem_cons.mpr ⟨List.Mem.tail _ (List.Mem.tail _ (List.Mem.tail _ (List.Mem.tail _ (List.Mem.head _)))), by walk_at "U sub"⟩⟩) ?eE ?eZ))
local macro_rules | `(tactic| k_all) => `(tactic| (with_reducible assumption))
-- @end
section
theorem read_ahead_c (x : PySem.Str) (a : Int) (t1 t2 : Tok) (X dx : Addr) (rest : List (Addr × Obj)) (hX : @LT.lt Nat _ dx X) (hr : ∀ p ∈ rest, p.1 ≠ dx) (hx : x.length ≤ 100) (h0 : 0 ≤ a) (h1 : a ≤ x.length) :
    Con 100 1 [.ref X, .str x t1, .int a t2] (PicHd X dx pic0 rest) (RPic X dx rest (aheadL pic0 (suf x a)) a) := by
  walk_at "U in"
  obtain ⟨k, hk⟩ := ‹PicHd _ _ _ _ _ _›
  subst hk
  k_steps
  all_goals (
    (with_reducible rename (Txt.slice _ _ _ == PySem.Str.ofString "+") = _ => g1); (with_reducible rename (Txt.slice _ _ _ == PySem.Str.ofString "**") = _ => g2)
    (try (with_reducible rename (Txt.slice _ _ _ == PySem.Str.ofString "$") = _ => g3)); (try (with_reducible rename (Txt.slice _ _ _ == PySem.Str.ofString "$$") = _ => g4))
    (simp (disch := omega) only [suf_is1 _ o_plus, decide_eq_true_eq, decide_eq_false_iff_not] at g1)
    (simp (disch := omega) only [suf_is2 _ o_ss, suf_add1, suf_add2, decide_eq_true_eq, decide_eq_false_iff_not] at g2)
    (try simp (disch := omega) only [suf_is1 _ o_dollar, suf_add1, suf_add2, decide_eq_true_eq, decide_eq_false_iff_not] at g3)
    (try simp (disch := omega) only [suf_is2 _ o_dd, suf_add1, suf_add2, decide_eq_true_eq, decide_eq_false_iff_not] at g4)
    walk_at "U retP"
    case eE => (unfold aheadL; simp only [*, (by decide : ¬ ([36, 36] : List Nat) = [42, 42]), decide_true, decide_false, if_true, if_false, Bool.false_eq_true] <;> rfl)
    case eZ => (unfold aheadL; simp only [*, (by decide : ¬ ([36, 36] : List Nat) = [42, 42]), decide_true, decide_false, if_true, if_false, Bool.false_eq_true]; omega))
end

-- piece 32
-- needs: 31
section
theorem read_places_c (x : PySem.Str) (a : Int) (p : Pic) (t1 t2 : Tok) (X dx : Addr) (rest : List (Addr × Obj)) (hX : @LT.lt Nat _ dx X) (hr : ∀ p ∈ rest, p.1 ≠ dx) (hx : x.length ≤ 100) (h0 : 0 ≤ a) (h1 : a ≤ x.length) (hl : 0 ≤ p.left) (hl2 : p.left ≤ 10) (hri : p.right = 0) :
    Con 107 1 [.ref X, .str x t1, .int a t2] (PicHd X dx p rest) (RPic X dx rest (placesL p (suf x a)) a) := by
  walk_at "U in"
  obtain ⟨k, hk⟩ := ‹PicHd _ _ _ _ _ _›
  subst hk
  k_with "exec While BoolOp cons nil" => k_while_given [] (fun _ cm l b => 0 ≤ b ∧ b ≤ x.length ∧ PlW x a p cm l b) (fun _ _ _ b => ((x.length : Int) - b).toNat) "picture.has_comma" "picture.left" "at"
  k_with "exec While Compare cons nil" => k_while_given ["at!"] (fun a0 _ r b => 0 ≤ b ∧ b ≤ x.length ∧ HsW x a0 p r b) (fun _ _ _ b => ((x.length : Int) - b).toNat) "picture.right" "at"
  k_with "state" => first | exact plW0 h0 h1 | exact plW1a (by with_reducible assumption) (by with_reducible assumption) (by with_reducible assumption) (by with_reducible assumption) (by with_reducible assumption) | exact plW1b (by with_reducible assumption) (by with_reducible assumption) (by with_reducible assumption) (by with_reducible assumption) (by with_reducible assumption) | exact hsW0 (by with_reducible assumption) (by with_reducible assumption) | exact hsW1 (by with_reducible assumption) (by with_reducible assumption) (by with_reducible assumption)
  k_with "measure" => first | exact hsW_lt (by with_reducible assumption) (by with_reducible assumption) | omega
  k_steps
  · exact (any_lt (by with_reducible assumption) (by with_reducible assumption) (by with_reducible assumption)).elim
  · exact (any_lt (by with_reducible assumption) (by with_reducible assumption) (by with_reducible assumption)).elim
  · have hE := places_pt h0 (by with_reducible assumption) (by with_reducible assumption) (by with_reducible assumption) (by with_reducible assumption) (by with_reducible assumption) (by with_reducible assumption) (by with_reducible assumption)
    walk_at "U retP"
    case eE => exact hE.1
    case eZ => exact hE.2
  · have hE := places_np h0 (by with_reducible assumption) (by with_reducible assumption) (by with_reducible assumption) (by with_reducible assumption)
    walk_at "U retP"
    case eE => exact hE.1
    case eZ => exact hE.2
end

-- piece 33
-- needs: 32
/-- a new pair of a picture and a place -/
def RPp (S : Pic × Nat) (a : Int) (P : Params) (news : List (Addr × Obj)) (v : Value) (nx : List (Addr × Obj)) : Prop :=
  ∃ D X dx k t, v = .ref D ∧ nx = (D, tupO [.ref X, .int (a + S.2) t]) :: (X, instObj 82 dx) :: (dx, dictOf (picEs P S.1 k) 8) :: news ∧ AllLt dx news ∧ @LT.lt Nat _ dx X ∧ @LT.lt Nat _ X D
theorem allLt_ne {d : Nat} {l : List (Addr × Obj)} : AllLt d l → ∀ p ∈ l, p.1 ≠ d := by
  induction l with
  | nil => intro _ p hp; cases hp
  | cons q r ih =>
    intro h p hp
    rcases List.mem_cons.mp hp with hp | hp
    · rw [hp]; exact Nat.ne_of_lt h.1
    · exact ih h.2 p hp
theorem picHd_i {X dx : Addr} {p : Pic} {rest : List (Addr × Obj)} {P : Params} {k : PTk} : PicHd X dx p rest P ((X, instObj 82 dx) :: (dx, dictOf (picEs P p k) 8) :: rest) := ⟨k, rfl⟩
theorem picHd0 {X dx : Addr} {rest : List (Addr × Obj)} {P : Params} {k1 k2 k3 k4 k5 k6 k7 k8 vl vr vs : Tok} : PicHd X dx pic0 rest P ((X, instObj 82 dx) :: (dx, dictOf [
  ⟨PyData.keyHash P (Str.ofString "left"), .str (Str.ofString "left") k1, .int 0 vl⟩,
  ⟨PyData.keyHash P (Str.ofString "right"), .str (Str.ofString "right") k2, .int 0 vr⟩,
  ⟨PyData.keyHash P (Str.ofString "has_point"), .str (Str.ofString "has_point") k3, .bool false⟩,
  ⟨PyData.keyHash P (Str.ofString "has_star"), .str (Str.ofString "has_star") k4, .bool false⟩,
  ⟨PyData.keyHash P (Str.ofString "has_dollar"), .str (Str.ofString "has_dollar") k5, .bool false⟩,
  ⟨PyData.keyHash P (Str.ofString "has_comma"), .str (Str.ofString "has_comma") k6, .bool false⟩,
  ⟨PyData.keyHash P (Str.ofString "has_exponent"), .str (Str.ofString "has_exponent") k7, .bool false⟩,
  ⟨PyData.keyHash P (Str.ofString "sign"), .str (Str.ofString "sign") k8, .str (Str.ofString "") vs⟩] 8) :: rest) := by
  rw [show pic0 = ⟨0, 0, false, false, false, false, false, Str.ofString ""⟩ from rfl]
  exact ⟨⟨k1, k2, k3, k4, k5, k6, k7, k8, vl, vr, vs⟩, rfl⟩
theorem ret_Pp {h₀ : Heap} {L : Addr} {m : Str → Option Value} {s : Shared} {Q : Value → Shared → Prop} {news : List (Addr × Obj)} {P : Params} {X dx D : Addr} {S : Pic × Nat} {a : Int}
    (k : ∀ (v : Value) (nx : List (Addr × Obj)) (h' : Heap) (tk' : Nat), RPp S a P news v nx → Fr h₀ L h' m → News h₀ L h' nx → Q v { s with heap := h', toks := tk' })
    {nx' : List (Addr × Obj)} {h' : Heap} {tk' : Nat} {z : Int} {t k1 k2 k3 k4 k5 k6 k7 k8 vl vr vs : Tok} {l r : Int} {pt st dl cm ex : Bool} {sg : PySem.Str} (F : Fr h₀ L h' m) (N : News h₀ L h' nx') (hs : ∀ p ∈ (D, tupO [.ref X, .int z t]) :: (X, instObj 82 dx) :: (dx, dictOf [
  ⟨PyData.keyHash P (Str.ofString "left"), .str (Str.ofString "left") k1, .int l vl⟩,
  ⟨PyData.keyHash P (Str.ofString "right"), .str (Str.ofString "right") k2, .int r vr⟩,
  ⟨PyData.keyHash P (Str.ofString "has_point"), .str (Str.ofString "has_point") k3, .bool pt⟩,
  ⟨PyData.keyHash P (Str.ofString "has_star"), .str (Str.ofString "has_star") k4, .bool st⟩,
  ⟨PyData.keyHash P (Str.ofString "has_dollar"), .str (Str.ofString "has_dollar") k5, .bool dl⟩,
  ⟨PyData.keyHash P (Str.ofString "has_comma"), .str (Str.ofString "has_comma") k6, .bool cm⟩,
  ⟨PyData.keyHash P (Str.ofString "has_exponent"), .str (Str.ofString "has_exponent") k7, .bool ex⟩,
  ⟨PyData.keyHash P (Str.ofString "sign"), .str (Str.ofString "sign") k8, .str sg vs⟩] 8) :: news, p ∈ nx') (hE : S.1 = ⟨l, r, pt, st, dl, cm, ex, sg⟩) (hz : z = a + S.2) (l1 : AllLt dx news) (l2 : @LT.lt Nat _ dx X) (l3 : @LT.lt Nat _ X D) : Q (.ref D) { s with heap := h', toks := tk' } := by
  subst hz
  exact k _ _ h' tk' ⟨D, X, dx, ⟨k1, k2, k3, k4, k5, k6, k7, k8, vl, vr, vs⟩, t, rfl, rfl, l1, l2, l3⟩ F fun p hp => N p (hs p (by rw [hE] at hp; exact hp))
-- @use
local macro_rules | `(tactic| walk_at "U retPp") => `(tactic| ((with_reducible rename News _ _ _ _ => jN'); first
  | refine' ret_Pp (by assumption) (by k_asm) jN' (List.forall_mem_cons.mpr ⟨List.Mem.head _, List.forall_mem_cons.mpr ⟨List.Mem.tail _ (List.Mem.head _), List.forall_mem_cons.mpr ⟨List.Mem.tail _ (List.Mem.tail _ (List.Mem.head _)), by walk_at "U sub"⟩⟩⟩) ?eE ?eZ (by walk_at "U lt") (by omega) (by omega)
  | refine' ret_Pp (by assumption) (by k_asm) jN' (List.forall_mem_cons.mpr ⟨List.Mem.head _, List.forall_mem_cons.mpr ⟨List.Mem.tail _ (List.Mem.tail _ (List.Mem.head _)), List.forall_mem_cons.mpr ⟨List.Mem.tail _ (List.Mem.tail _ (List.Mem.tail _ (List.Mem.head _))), by walk_at "U sub"⟩⟩⟩) ?eE ?eZ (by walk_at "U lt") (by omega) (by omega)
  | refine' ret_Pp (by assumption) (by k_asm) jN' (List.forall_mem_cons.mpr ⟨List.Mem.head _, List.forall_mem_cons.mpr ⟨List.Mem.tail _ (List.Mem.tail _ (List.Mem.tail _ (List.Mem.head _))), List.forall_mem_cons.mpr ⟨List.Mem.tail _ (List.Mem.tail _ (List.Mem.tail _ (List.Mem.tail _ (List.Mem.head _)))), by walk_at "U sub"⟩⟩⟩) ?eE ?eZ (by walk_at "U lt") (by omega) (by omega)
  | refine' ret_Pp (by assumption) (by k_asm) jN' (List.forall_mem_cons.mpr ⟨List.Mem.head _, List.forall_mem_cons.mpr ⟨List.Mem.tail _ (List.Mem.tail _ (List.Mem.tail _ (List.Mem.tail _ (List.Mem.head _)))), List.forall_mem_cons.mpr ⟨List.Mem.tail _ (List.Mem.tail _ (List.Mem.tail _ (List.Mem.tail _ (List.Mem.tail _ (List.Mem.head _))))), by walk_at "U sub"⟩⟩⟩) ?eE ?eZ (by walk_at "U lt") (by omega) (by omega)))
local macro_rules | `(tactic| k_room) => `(tactic| ktr_room)
local macro_rules | `(tactic| walk_at "U ne") => `(tactic| first | (with_reducible assumption) | exact allLt_ne (by walk_at "U lt") | exact fun p hp => Nat.ne_of_lt ((by assumption : ∀ p ∈ _, @LT.lt Nat _ p.1 _) p hp) | exact (fun p hp => Nat.ne_of_lt ((And.right (by assumption)) p hp)))
local macro_rules | `(tactic| walk_at "U RPic") => `(tactic| (intro v9 nx9 h9 tk9 hR9 F9 N9; obtain ⟨⟨t9, e9⟩, k9, e9'⟩ := hR9; subst e9; subst e9'; (try dsimp only); (try k_fold)))
-- @end
section
local macro_rules | `(tactic| walk_at "call ref") => `(tactic| (k_here; (with_reducible show wpAny _ _ (call (Value.ref 100) _ _) _ _ _); k_dflt (refine' con_use (read_ahead_c _ _ _ _ _ _ _ ?c1 ?c2 ?c3 ?c4 ?c5) ?cB ?cF ?cX ?cN ?cT ?cK ?cH ?cD ?cU ?_; walk_at "U use"; (case cH => exact picHd0); (case c1 => omega); (case c2 => walk_at "U ne"); (case c3 => omega); (case c4 => omega); (case c5 => omega); walk_at "U RPic")))
local macro_rules | `(tactic| walk_at "call ref") => `(tactic| (k_here; (with_reducible show wpAny _ _ (call (Value.ref 107) _ _) _ _ _); k_dflt (refine' con_use (read_places_c _ _ _ _ _ _ _ _ ?c1 ?c2 ?c3 ?c4 ?c5 ?c6 ?c7 ?c8) ?cB ?cF ?cX ?cN ?cT ?cK ?cH ?cD ?cU ?_; walk_at "U use"; (case cH => first | exact picHd_i | ktn_no "places cH"); (case c1 => first | omega | ktn_no "places c1"); (case c2 => first | walk_at "U ne" | ktn_no "places c2"); (case c3 => first | omega | ktn_no "places c3"); (case c4 => first | omega | ktn_no "places c4"); (case c5 => first | omega | ktn_no "places c5"); (case c6 => first | assumption | ktn_no "places c6"); (case c7 => first | assumption | ktn_no "places c7"); (case c8 => first | assumption | ktn_no "places c8"); walk_at "U RPic")))
theorem read_picture_c (x : PySem.Str) (a : Int) (t1 t2 : Tok) (hx : x.length ≤ 100) (h0 : 0 ≤ a) (h1 : a ≤ x.length) :
    Con 114 3 [.str x t1, .int a t2] (fun _ _ => True) (RPp (rdL (suf x a)) a) := by
  obtain ⟨q1, q2, q3, q4⟩ := ahead_bd (suf x a)
  have q5 := places_le (aheadL pic0 (suf x a)).1 (suf x (a + (aheadL pic0 (suf x a)).2))
  rw [suf_len] at q4 q5
  walk_at "U in"
  k_steps
  · have hE := rd1 h0 (by with_reducible assumption) (by with_reducible assumption) (by with_reducible assumption)
    walk_at "U retPp"
    case eE => exact hE.1
    case eZ => exact hE.2
  · exact (pm_lt (by with_reducible assumption) (by with_reducible assumption) (by omega)).elim
  · have hE := rd3 h0 (by with_reducible assumption) (by with_reducible assumption)
    walk_at "U retPp"
    case eE => exact hE.1
    case eZ => exact hE.2
  · have hE := rd4 h0 (by with_reducible assumption) (by with_reducible assumption)
    walk_at "U retPp"
    case eE => exact hE.1
    case eZ => exact hE.2
  · have hE := rd5 h0 (by with_reducible assumption) (by with_reducible assumption) (by with_reducible assumption)
    walk_at "U retPp"
    case eE => exact hE.1
    case eZ => exact hE.2
  · exact (pm_lt (by with_reducible assumption) (by with_reducible assumption) (by omega)).elim
  · have hE := rd7 h0 (by with_reducible assumption) (by with_reducible assumption)
    walk_at "U retPp"
    case eE => exact hE.1
    case eZ => exact hE.2
  · have hE := rd8 h0 (by with_reducible assumption) (by with_reducible assumption)
    walk_at "U retPp"
    case eE => exact hE.1
    case eZ => exact hE.2
end

-- piece 34
-- needs: 33 30
-- @use
local macro_rules | `(tactic| walk_at "call ref") => `(tactic| (k_here; (with_reducible show wpAny _ _ (call (Value.ref 114) _ _) _ _ _); k_dflt (refine' con_use (read_picture_c _ _ _ _ ?c1 ?c2 ?c3) ?cB ?cF ?cX ?cN ?cT ?cK ?cH ?cD ?cU ?_; (case c1 => omega); (case c2 => omega); (case c3 => omega); (case cH => exact True.intro); walk_at "U use"; walk_at "U RPp")))
local macro_rules | `(tactic| walk_at "U RPp") => `(tactic| (intro v9 nx9 h9 tk9 hR9 F9 N9; obtain ⟨D9, X9, dx9, k9, t9, e9, e9', lt9, la9, lb9⟩ := hR9; subst e9; subst e9'; (try simp only [AllLt] at lt9); (try dsimp only); (try k_fold)))
-- @end
theorem piece_pic_c (x : PySem.Str) (a : Int) (t1 t2 : Tok) (hx : x.length ≤ 100) (h0 : 0 ≤ a) (h1 : a < x.length) (hB : bgnL (suf x a) = true) :
    Con 128 4 [.str x t1, .int a t2] (fun _ _ => True) (RPp (rdL (suf x a)) a) := by
  walk_at "U in"
  k_steps
  with_reducible rename News _ _ _ _ => jN'
  exact con_ret (R := RPp (rdL (suf x a)) a) (by assumption) ⟨_, _, _, _, _, rfl, rfl, by assumption, by assumption, by assumption⟩ (by k_asm) jN' sub_refl
/-- nothing, and the next place -/
def RNo (a : Int) (_ : Params) (news : List (Addr × Obj)) (v : Value) (nx : List (Addr × Obj)) : Prop := ∃ D t, v = .ref D ∧ nx = (D, tupO [.none, .int a t]) :: news ∧ AllLt D news
theorem piece_chr_c (x : PySem.Str) (a : Int) (t1 t2 : Tok) (hx : x.length ≤ 100) (h0 : 0 ≤ a) (h1 : a < x.length) (hB : bgnL (suf x a) = false)
    (g1 : (Txt.item x a == PySem.Str.ofString "!") = false) (g2 : (Txt.item x a == PySem.Str.ofString "&") = false) (g3 : (Txt.item x a == PySem.Str.ofString "_") = false) (g4 : (Txt.item x a == PySem.Str.ofString "\\") = false) :
    Con 128 4 [.str x t1, .int a t2] (fun _ _ => True) (RNo (a + 1)) := by
  walk_at "U in"
  k_with "exec While BoolOp cons nil" => k_while_given [] (fun _ e => e = a + 1) (fun _ e => 0) "end"
  k_steps
  with_reducible rename News _ _ _ _ => jN'
  exact con_ret (R := RNo (a + 1)) (by assumption) ⟨_, _, rfl, rfl, by walk_at "U lt"⟩ (by k_asm) jN' sub_refl

-- piece 35
-- needs: 34
theorem piece_pic_e (x : PySem.Str) (a : Int) (p : Pic) (n : Nat) (t1 t2 : Tok) (hR : rdL (suf x a) = (p, n)) (hB : bgnL (suf x a) = true) (hx : x.length ≤ 100) (h0 : 0 ≤ a) (h1 : a < x.length) :
    Con 128 4 [.str x t1, .int a t2] (fun _ _ => True) (RPp (p, n) a) := by
  rw [← hR]; exact piece_pic_c x a t1 t2 hx h0 h1 hB
-- @use
local macro_rules | `(tactic| walk_at "U sub") => `(tactic| first | exact sub_refl | (refine sub_cons ?_; walk_at "U sub"))
local macro_rules | `(tactic| walk_at "call ref") => `(tactic| (k_here; (with_reducible show wpAny _ _ (call (Value.ref 128) _ _) _ _ _); first
  | k_dflt (refine' con_use (piece_pic_e _ _ _ _ _ _ ?c0 ?c1 ?c2 ?c3 ?c4) ?cB ?cF ?cX ?cN ?cT ?cK ?cH ?cD ?cU ?_; (case c0 => with_reducible assumption); (case c1 => with_reducible assumption); (case c2 => omega); (case c3 => omega); (case c4 => omega); (case cH => exact True.intro); walk_at "U use"; walk_at "U RPp")
  | k_dflt (refine' con_use (piece_chr_c _ _ _ _ ?c2 ?c3 ?c4 ?c0 ?d1 ?d2 ?d3 ?d4) ?cB ?cF ?cX ?cN ?cT ?cK ?cH ?cD ?cU ?_; (case c0 => with_reducible assumption); (case d1 => with_reducible assumption); (case d2 => with_reducible assumption); (case d3 => with_reducible assumption); (case d4 => with_reducible assumption); (case c2 => omega); (case c3 => omega); (case c4 => omega); (case cH => exact True.intro); walk_at "U use"; walk_at "U RNo")))
local macro_rules | `(tactic| walk_at "U RNo") => `(tactic| (intro v9 nx9 h9 tk9 hR9 F9 N9; obtain ⟨D9, t9, e9, e9', lt9⟩ := hR9; subst e9; subst e9'; (try simp only [AllLt] at lt9); (try dsimp only); (try k_fold)))
local macro_rules | `(tactic| walk_at "exec While Compare cons nil") => `(tactic| (k_here; k_dflt (refine whl_start 100 ?_)))
local macro_rules | `(tactic| walk_at "WhlIf") => `(tactic| first | (refine WhlIf.yes (decide_eq_true (by omega)) ?_) | (refine WhlIf.no (decide_eq_false (by omega)) ?_))
-- @end
/-- a new list of the picture alone -/
def RPs1 (p : Pic) (P : Params) (news : List (Addr × Obj)) (v : Value) (nx : List (Addr × Obj)) : Prop :=
  ∃ D n X dx k, v = .ref D ∧ nx = (D, listOf #[.ref X] n) :: (X, instObj 82 dx) :: (dx, dictOf (picEs P p k) 8) :: news
theorem read_pieces1_c (x : PySem.Str) (p : Pic) (n : Nat) (t1 : Tok) (hR : rdL (suf x 0) = (p, n)) (hB : bgnL (suf x 0) = true) (hx : x.length ≤ 100) (hn : (n : Int) = x.length) (h1 : 0 < (x.length : Int)) :
    Con 121 5 [.str x t1] (fun _ _ => True) (RPs1 p) := by
  walk_at "U in"
  k_steps
  with_reducible rename News _ _ _ _ => jN'
  exact con_ret (R := RPs1 p) (by assumption) ⟨_, _, _, _, _, rfl, rfl⟩ (by k_asm) jN' (List.forall_mem_cons.mpr ⟨List.Mem.head _, List.forall_mem_cons.mpr ⟨List.Mem.tail _ (List.Mem.tail _ (List.Mem.tail _ (List.Mem.tail _ (List.Mem.head _)))), List.forall_mem_cons.mpr ⟨List.Mem.tail _ (List.Mem.tail _ (List.Mem.tail _ (List.Mem.tail _ (List.Mem.tail _ (List.Mem.head _))))), by walk_at "U sub"⟩⟩⟩)
/-- a new list of a plain piece, the picture, a plain piece -/
def RPs3 (p : Pic) (a b : PySem.Str) (P : Params) (news : List (Addr × Obj)) (v : Value) (nx : List (Addr × Obj)) : Prop :=
  ∃ D n X dx k T1 T2 s1 s2 s3 s4, v = .ref D ∧ nx = (D, listOf #[.ref T1, .ref X, .ref T2] n) :: (X, instObj 82 dx) :: (dx, dictOf (picEs P p k) 8) :: (T1, tupO [.str (Str.ofString "plain") s1, .str a s2]) :: (T2, tupO [.str (Str.ofString "plain") s3, .str b s4]) :: news
theorem read_pieces3_c (x : PySem.Str) (p : Pic) (n : Nat) (a b : PySem.Str) (t1 : Tok) (hR : rdL (suf x (0 + 1)) = (p, n)) (hB0 : bgnL (suf x 0) = false) (hB : bgnL (suf x (0 + 1)) = true) (hB2 : bgnL (suf x (0 + 1 + n)) = false)
    (g1 : (Txt.item x 0 == PySem.Str.ofString "!") = false) (g2 : (Txt.item x 0 == PySem.Str.ofString "&") = false) (g3 : (Txt.item x 0 == PySem.Str.ofString "_") = false) (g4 : (Txt.item x 0 == PySem.Str.ofString "\\") = false)
    (g5 : (Txt.item x (0 + 1 + n) == PySem.Str.ofString "!") = false) (g6 : (Txt.item x (0 + 1 + n) == PySem.Str.ofString "&") = false) (g7 : (Txt.item x (0 + 1 + n) == PySem.Str.ofString "_") = false) (g8 : (Txt.item x (0 + 1 + n) == PySem.Str.ofString "\\") = false)
    (p1 : ((PySem.Str.ofString "" ++ Txt.item x (0 + 1 - 1)) != PySem.Str.ofString "") = true) (p2 : ((PySem.Str.ofString "" ++ Txt.item x (0 + 1 + n + 1 - 1)) != PySem.Str.ofString "") = true)
    (ha : PySem.Str.ofString "" ++ Txt.item x (0 + 1 - 1) = a) (hb : PySem.Str.ofString "" ++ Txt.item x (0 + 1 + n + 1 - 1) = b)
    (hx : x.length ≤ 100) (hn : (0 + 1 + n + 1 : Int) = x.length) :
    Con 121 5 [.str x t1] (fun _ _ => True) (RPs3 p a b) := by
  walk_at "U in"
  k_steps
  with_reducible rename News _ _ _ _ => jN'
  subst ha; subst hb
  exact con_ret (R := RPs3 p _ _) (by assumption) ⟨_, _, _, _, _, _, _, _, _, _, _, rfl, rfl⟩ (by k_asm) jN' (List.forall_mem_cons.mpr ⟨List.Mem.head _, List.forall_mem_cons.mpr ⟨List.Mem.tail _ (List.Mem.tail _ (List.Mem.tail _ (List.Mem.tail _ (List.Mem.tail _ (List.Mem.tail _ (List.Mem.tail _ (List.Mem.head _))))))), List.forall_mem_cons.mpr ⟨List.Mem.tail _ (List.Mem.tail _ (List.Mem.tail _ (List.Mem.tail _ (List.Mem.tail _ (List.Mem.tail _ (List.Mem.tail _ (List.Mem.tail _ (List.Mem.head _)))))))), List.forall_mem_cons.mpr ⟨List.Mem.tail _ (List.Mem.tail _ (List.Mem.tail _ (List.Mem.tail _ (List.Mem.tail _ (List.Mem.head _))))), List.forall_mem_cons.mpr ⟨List.Mem.tail _ (List.Mem.tail _ (List.Mem.head _)), by walk_at "U sub"⟩⟩⟩⟩⟩)

-- piece 36
-- needs: 29 23
theorem con_mono {f : Addr} {d d' : Nat} {vs : List Value} {H : Params → List (Addr × Obj) → Prop} {R : Params → List (Addr × Obj) → Value → List (Addr × Obj) → Prop} (C : Con f d vs H R) (h : d ≤ d') : Con f d' vs H R := by
  intro w mean mg mb dp un gd cn cs a ccd cl outer A₀ base h₀ L m news s Q E B F X N T hk hdp hu hH hret
  exact C w mean mg mb dp un gd cn cs a ccd cl outer A₀ base h₀ L m news s Q E B F X N T hk (by omega) (by omega) hH hret
theorem number_by_c (X : Addr) (p : Pic) (v : Value) (c e : Int) (hp : GP p) (hc : (c.natAbs : Int) < 10 ^ 12) (he : -20 ≤ e) (he2 : e ≤ 20) :
    Con 184 5 [.ref X, v] (fun P news => PicAt P news X p ∧ NV P news v c e) (RVF ((St (shw p c e)).length ≤ 400) fun t => .str (St (shw p c e)) t) := by
  rcases hp with ⟨h1, h2, h3, h4, h5⟩ | ⟨h0, h1, h2, h3, h4, h5, h6⟩
  · rw [show shw p c e = _ from if_neg (by rw [h1]; simp)]
    exact con_mono (number_plain_c X p v c e _ _ h1 h2 h3 h4 h5 hc he he2 rfl rfl) (by decide)
  · rw [show shw p c e = _ from if_pos h1]
    exact number_exp_c X p v c e _ _ _ h0 h1 h2 h3 h4 h5 h6 hc he he2 rfl rfl rfl
-- @use
local macro_rules | `(tactic| walk_at "call ref") => `(tactic| (k_here; (with_reducible show wpAny _ _ (call (Value.ref 184) _ _) _ _ _); k_dflt (refine' con_use (number_by_c _ _ _ _ _ ?c1 ?c2 ?c3 ?c4) ?cB ?cF ?cX ?cN ?cT ?cK ?cH ?cD ?cU ?_; (case c1 => with_reducible assumption); (case c2 => with_reducible assumption); (case c3 => with_reducible assumption); (case c4 => with_reducible assumption); walk_at "U use"; (case cH => exact And.intro (by walk_at "U pic") (by walk_at "U nv")); walk_at "U RVF")))
local macro_rules | `(tactic| walk_at "U nv") => `(tactic| first | exact Or.inl ⟨_, rfl, rfl⟩ | exact Or.inr ⟨_, _, _, rfl, TA.more (by assumption) (by walk_at "U sub")⟩ | exact NV.more (by assumption) (by walk_at "U sub"))
-- @end
theorem value_by_c (X : Addr) (p : Pic) (v : Value) (c e : Int) (hp : GP p) (hc : (c.natAbs : Int) < 10 ^ 12) (he : -20 ≤ e) (he2 : e ≤ 20) :
    Con 191 6 [.ref X, v] (fun P news => PicAt P news X p ∧ NV P news v c e) (RVF ((St (shw p c e)).length ≤ 400) fun t => .str (St (shw p c e)) t) := by
  walk_at "U in"
  obtain ⟨⟨dx, k, n, hx, hd⟩, hv⟩ := ‹PicAt _ _ _ _ ∧ _›
  rcases hv with ⟨_, e1, e2⟩ | ⟨_, _, _, e1, jT⟩
  · subst e1; subst e2
    k_steps
    walk_at "U retF"
    case eP => assumption
    exact str_eq rfl
  · subst e1
    k_steps
    walk_at "U retF"
    case eP => assumption
    exact str_eq rfl
-- @use
local macro_rules | `(tactic| walk_at "call ref") => `(tactic| (k_here; (with_reducible show wpAny _ _ (call (Value.ref 191) _ _) _ _ _); k_dflt (refine' con_use (value_by_c _ _ _ _ _ ?c1 ?c2 ?c3 ?c4) ?cB ?cF ?cX ?cN ?cT ?cK ?cH ?cD ?cU ?_; walk_at "U use"; (case cH => exact And.intro (by walk_at "U pic") (by walk_at "U nv")); (case c1 => with_reducible assumption); (case c2 => with_reducible assumption); (case c3 => with_reducible assumption); (case c4 => with_reducible assumption); walk_at "U RVF")))
-- @end
theorem is_plain_p (X : Addr) (p : Pic) : Con 198 1 [.ref X] (fun P news => PicAt P news X p) (RV fun _ => .bool false) := by
  walk_at "U in"
  obtain ⟨dx, k, n, hx, hd⟩ := ‹PicAt _ _ _ _›
  k_steps
  walk_at "U ret"
  exact bool_eq rfl
theorem is_plain_t (T : Addr) (a : Str) (s1 s2 : Tok) : Con 198 1 [.ref T] (fun _ news => (T, tupO [.str (Str.ofString "plain") s1, .str a s2]) ∈ news) (RV fun _ => .bool true) := by
  walk_at "U in"
  k_steps
  walk_at "U ret"
  exact bool_eq rfl
-- @use
local macro_rules | `(tactic| walk_at "call ref") => `(tactic| (k_here; (with_reducible show wpAny _ _ (call (Value.ref 198) _ _) _ _ _); first
  | k_dflt (refine' con_use (is_plain_t _ _ _ _) ?cB ?cF ?cX ?cN ?cT ?cK ?cH ?cD ?cU ?_; walk_at "U use"; (case cH => k_mem); walk_at "U RV")
  | k_dflt (refine' con_use (is_plain_p _ _) ?cB ?cF ?cX ?cN ?cT ?cK ?cH ?cD ?cU ?_; walk_at "U use"; (case cH => walk_at "U pic"); walk_at "U RV")))
-- @end

-- piece 37
-- needs: 35 36
section
local macro_rules | `(tactic| walk_at "call builtin:len") => `(tactic| (k_here; (with_reducible show wpAny _ _ (call (Value.builtin "len") [Value.ref _] _) _ _ _); (with_reducible rename News _ _ _ _ => jN'); k_dflt (refine lenLit (News.isList jN' (by k_mem)) (by rfl) (by decide) ?_)))
local macro_rules | `(tactic| walk_at "CompEnd") => `(tactic| ((with_reducible rename News _ _ _ _ => jN'); k_dflt (refine LCg.CompEnd.intro (by assumption) jN' _ sub_refl (by assumption) (by lcg_src) ?_)))
local macro_rules | `(tactic| walk_at "exec While") => `(tactic| (k_here; (with_reducible show wpAny _ _ (exec (Stmt.While (Expr.Constant _ _ _) _ _ _) _) _ _ _); k_dflt (refine whl_start 100 ?_)))
local macro_rules | `(tactic| walk_at "last exec While") => `(tactic| (k_here; (with_reducible show wpAny _ _ (exec (Stmt.While (Expr.Constant _ _ _) _ _ _) _) _ _ _); k_dflt (refine whl_start 100 ?_)))
local macro_rules | `(tactic| walk_at "exec For Name Name cons nil") => `(tactic| (k_here; (rename Fr _ _ _ _ => lF'); (with_unfolding_all refine' For_invVF lF' ?k1 ?k2 ?_; (case k1 => exact rfl); (case k2 => exact rfl); k_whole)))
local macro_rules | `(tactic| walk_at "pyIter ref") => `(tactic| ((with_reducible show wpAny _ _ (pyIter (Value.ref _)) (fun it s₂ => LoopAtV _ _ _ _ _ _ _ _ _ it s₂) _ _); (rename Fr _ _ _ _ => lF'); (rename News _ _ _ _ => lN'); (with_unfolding_all refine iter_listUnr (by rfl) lF' lN' (by k_mem) (by rfl) (by rfl) ?_); clear lF' lN'; intro i' l1; (have lo1 := offNe l1); (try k_lt l1)))
local macro_rules | `(tactic| walk_at "UnrEnd") => `(tactic| ((with_reducible rename News _ _ _ _ => jN'); k_dflt (first
  | refine UnrEnd.intro (by assumption) jN' _ (List.forall_mem_cons.mpr ⟨List.Mem.head _, sub_cons (sub_refl)⟩) (by walk_at "U ne") ⟨by k_mem, ?_⟩
  | refine UnrEnd.intro (by assumption) jN' _ (List.forall_mem_cons.mpr ⟨List.Mem.tail _ (List.Mem.head _), sub_cons (sub_cons (sub_refl))⟩) (by walk_at "U ne") ⟨by k_mem, ?_⟩
  | refine UnrEnd.intro (by assumption) jN' _ (List.forall_mem_cons.mpr ⟨List.Mem.tail _ (List.Mem.tail _ (List.Mem.head _)), sub_cons (sub_cons (sub_cons (sub_refl)))⟩) (by walk_at "U ne") ⟨by k_mem, ?_⟩
  | refine UnrEnd.intro (by assumption) jN' _ (List.forall_mem_cons.mpr ⟨List.Mem.tail _ (List.Mem.tail _ (List.Mem.tail _ (List.Mem.head _))), sub_cons (sub_cons (sub_cons (sub_cons (sub_refl))))⟩) (by walk_at "U ne") ⟨by k_mem, ?_⟩
  | refine UnrEnd.intro (by assumption) jN' _ (List.forall_mem_cons.mpr ⟨List.Mem.tail _ (List.Mem.tail _ (List.Mem.tail _ (List.Mem.tail _ (List.Mem.head _)))), sub_cons (sub_cons (sub_cons (sub_cons (sub_cons (sub_refl)))))⟩) (by walk_at "U ne") ⟨by k_mem, ?_⟩)))
local macro_rules | `(tactic| walk_at "subscriptTail Name Name ref int") => `(tactic| (k_here; (with_reducible show wpAny _ _ (subscriptTail _ _ (Value.ref _) (Value.int _ _)) _ _ _); (with_reducible rename News _ _ _ _ => jN'); k_dflt (refine item_litK (News.isList jN' (by k_mem)) (by omega) (by omega) (by rfl) ?_)))
local macro_rules | `(tactic| walk_at "call ref") => `(tactic| (k_here; (with_reducible show wpAny _ _ (call (Value.ref 121) _ _) _ _ _); k_dflt (refine' con_use (read_pieces1_c _ _ _ _ ?c1 ?c2 ?c3 ?c4 ?c5) ?cB ?cF ?cX ?cN ?cT ?cK ?cH ?cD ?cU ?_; (case c1 => with_reducible assumption); (case c2 => with_reducible assumption); (case c3 => with_reducible assumption); (case c4 => with_reducible assumption); (case c5 => with_reducible assumption); (case cH => exact True.intro); walk_at "U use"; walk_at "U RPs1")))
local macro_rules | `(tactic| walk_at "U RPs1") => `(tactic| (intro v9 nx9 h9 tk9 hR9 F9 N9; obtain ⟨D9, n9, X9, dx9, k9, e9, e9'⟩ := hR9; subst e9; subst e9'; (try dsimp only); (try k_fold)))
theorem using1_c (x : PySem.Str) (p : Pic) (n m : Nat) (v : Value) (V : Addr) (c e : Int) (t1 : Tok) (hR : rdL (suf x 0) = (p, n)) (hB : bgnL (suf x 0) = true) (hx : x.length ≤ 100) (hn : (n : Int) = x.length) (h1 : 0 < (x.length : Int))
    (hp : GP p) (hc : (c.natAbs : Int) < 10 ^ 12) (he : -20 ≤ e) (he2 : e ≤ 20) :
    Con 203 10 [.str x t1, .ref V] (fun P news => (V, listOf #[v] m) ∈ news ∧ NV P news v c e) (RVF ((St (shw p c e)).length ≤ 400) fun t => .str (St (shw p c e)) t) := by
  walk_at "U in"
  obtain ⟨hV, hv⟩ := ‹_ ∧ NV _ _ _ _ _›
  k_steps
  walk_at "U retF"
  case eP => assumption
  exact str_eq (by rw [o_empty, st_append]; rfl)
end

-- piece 38
-- needs: 37
section
local macro_rules | `(tactic| walk_at "call builtin:len") => `(tactic| (k_here; (with_reducible show wpAny _ _ (call (Value.builtin "len") [Value.ref _] _) _ _ _); (with_reducible rename News _ _ _ _ => jN'); k_dflt (refine lenLit (News.isList jN' (by k_mem)) (by rfl) (by decide) ?_)))
local macro_rules | `(tactic| walk_at "CompEnd") => `(tactic| ((with_reducible rename News _ _ _ _ => jN'); k_dflt (refine LCg.CompEnd.intro (by assumption) jN' _ sub_refl (by assumption) (by lcg_src) ?_)))
local macro_rules | `(tactic| walk_at "exec While") => `(tactic| (k_here; (with_reducible show wpAny _ _ (exec (Stmt.While (Expr.Constant _ _ _) _ _ _) _) _ _ _); k_dflt (refine whl_start 100 ?_)))
local macro_rules | `(tactic| walk_at "last exec While") => `(tactic| (k_here; (with_reducible show wpAny _ _ (exec (Stmt.While (Expr.Constant _ _ _) _ _ _) _) _ _ _); k_dflt (refine whl_start 100 ?_)))
local macro_rules | `(tactic| walk_at "exec For Name Name cons nil") => `(tactic| (k_here; (rename Fr _ _ _ _ => lF'); (with_unfolding_all refine' For_invVF lF' ?k1 ?k2 ?_; (case k1 => exact rfl); (case k2 => exact rfl); k_whole)))
local macro_rules | `(tactic| walk_at "pyIter ref") => `(tactic| ((with_reducible show wpAny _ _ (pyIter (Value.ref _)) (fun it s₂ => LoopAtV _ _ _ _ _ _ _ _ _ it s₂) _ _); (rename Fr _ _ _ _ => lF'); (rename News _ _ _ _ => lN'); (with_unfolding_all refine iter_listUnr (by rfl) lF' lN' (by k_mem) (by rfl) (by rfl) ?_); clear lF' lN'; intro i' l1; (have lo1 := offNe l1); (try k_lt l1)))
local macro_rules | `(tactic| walk_at "UnrEnd") => `(tactic| ((with_reducible rename News _ _ _ _ => jN'); k_dflt (first
  | refine UnrEnd.intro (by assumption) jN' _ (List.forall_mem_cons.mpr ⟨List.Mem.head _, sub_cons (sub_refl)⟩) (by walk_at "U ne") ⟨by k_mem, ?_⟩
  | refine UnrEnd.intro (by assumption) jN' _ (List.forall_mem_cons.mpr ⟨List.Mem.tail _ (List.Mem.head _), sub_cons (sub_cons (sub_refl))⟩) (by walk_at "U ne") ⟨by k_mem, ?_⟩
  | refine UnrEnd.intro (by assumption) jN' _ (List.forall_mem_cons.mpr ⟨List.Mem.tail _ (List.Mem.tail _ (List.Mem.head _)), sub_cons (sub_cons (sub_cons (sub_refl)))⟩) (by walk_at "U ne") ⟨by k_mem, ?_⟩
  | refine UnrEnd.intro (by assumption) jN' _ (List.forall_mem_cons.mpr ⟨List.Mem.tail _ (List.Mem.tail _ (List.Mem.tail _ (List.Mem.head _))), sub_cons (sub_cons (sub_cons (sub_cons (sub_refl))))⟩) (by walk_at "U ne") ⟨by k_mem, ?_⟩
  | refine UnrEnd.intro (by assumption) jN' _ (List.forall_mem_cons.mpr ⟨List.Mem.tail _ (List.Mem.tail _ (List.Mem.tail _ (List.Mem.tail _ (List.Mem.head _)))), sub_cons (sub_cons (sub_cons (sub_cons (sub_cons (sub_refl)))))⟩) (by walk_at "U ne") ⟨by k_mem, ?_⟩)))
local macro_rules | `(tactic| walk_at "subscriptTail Name Name ref int") => `(tactic| (k_here; (with_reducible show wpAny _ _ (subscriptTail _ _ (Value.ref _) (Value.int _ _)) _ _ _); (with_reducible rename News _ _ _ _ => jN'); k_dflt (refine item_litK (News.isList jN' (by k_mem)) (by omega) (by omega) (by rfl) ?_)))
local macro_rules | `(tactic| walk_at "call ref") => `(tactic| (k_here; (with_reducible show wpAny _ _ (call (Value.ref 121) _ _) _ _ _); k_dflt (refine' con_use (read_pieces3_c _ _ _ _ _ _ ?c1 ?c2 ?c3 ?c4 ?g1 ?g2 ?g3 ?g4 ?g5 ?g6 ?g7 ?g8 ?p1 ?p2 ?ha ?hb ?hx ?hn) ?cB ?cF ?cX ?cN ?cT ?cK ?cH ?cD ?cU ?_; (case c1 => with_reducible assumption); (case c2 => with_reducible assumption); (case c3 => with_reducible assumption); (case c4 => with_reducible assumption); (case g1 => with_reducible assumption); (case g2 => with_reducible assumption); (case g3 => with_reducible assumption); (case g4 => with_reducible assumption); (case g5 => with_reducible assumption); (case g6 => with_reducible assumption); (case g7 => with_reducible assumption); (case g8 => with_reducible assumption); (case p1 => with_reducible assumption); (case p2 => with_reducible assumption); (case ha => with_reducible assumption); (case hb => with_reducible assumption); (case hx => with_reducible assumption); (case hn => with_reducible assumption); (case cH => exact True.intro); walk_at "U use"; walk_at "U RPs3")))
local macro_rules | `(tactic| walk_at "U RPs3") => `(tactic| (intro v9 nx9 h9 tk9 hR9 F9 N9; obtain ⟨D9, n9, X9, dx9, k9, T8, T9, s6, s7, s8, s9, e9, e9'⟩ := hR9; subst e9; subst e9'; (try dsimp only); (try k_fold)))
theorem using3_c (x : PySem.Str) (p : Pic) (n m : Nat) (v0 v1 v2 : Value) (V : Addr) (c0 e0 c1 e1 c2 e2 : Int) (t1 : Tok) (a b : PySem.Str) (hR : rdL (suf x (0 + 1)) = (p, n)) (hB0 : bgnL (suf x 0) = false) (hB : bgnL (suf x (0 + 1)) = true) (hB2 : bgnL (suf x (0 + 1 + n)) = false)
    (g1 : (Txt.item x 0 == PySem.Str.ofString "!") = false) (g2 : (Txt.item x 0 == PySem.Str.ofString "&") = false) (g3 : (Txt.item x 0 == PySem.Str.ofString "_") = false) (g4 : (Txt.item x 0 == PySem.Str.ofString "\\") = false)
    (g5 : (Txt.item x (0 + 1 + n) == PySem.Str.ofString "!") = false) (g6 : (Txt.item x (0 + 1 + n) == PySem.Str.ofString "&") = false) (g7 : (Txt.item x (0 + 1 + n) == PySem.Str.ofString "_") = false) (g8 : (Txt.item x (0 + 1 + n) == PySem.Str.ofString "\\") = false)
    (p1 : ((PySem.Str.ofString "" ++ Txt.item x (0 + 1 - 1)) != PySem.Str.ofString "") = true) (p2 : ((PySem.Str.ofString "" ++ Txt.item x (0 + 1 + n + 1 - 1)) != PySem.Str.ofString "") = true)
    (ha : PySem.Str.ofString "" ++ Txt.item x (0 + 1 - 1) = a) (hb : PySem.Str.ofString "" ++ Txt.item x (0 + 1 + n + 1 - 1) = b) (hal : a.length = 1) (hbl : b.length = 1)
    (hx : x.length ≤ 100) (hn : (0 + 1 + n + 1 : Int) = x.length) (hp : GP p)
    (q0 : (c0.natAbs : Int) < 10 ^ 12) (q1 : -20 ≤ e0) (q2 : e0 ≤ 20) (q3 : (c1.natAbs : Int) < 10 ^ 12) (q4 : -20 ≤ e1) (q5 : e1 ≤ 20) (q6 : (c2.natAbs : Int) < 10 ^ 12) (q7 : -20 ≤ e2) (q8 : e2 ≤ 20) :
    Con 203 10 [.str x t1, .ref V] (fun P news => (V, listOf #[v0, v1, v2] m) ∈ news ∧ NV P news v0 c0 e0 ∧ NV P news v1 c1 e1 ∧ NV P news v2 c2 e2)
      (RV fun t => .str (a ++ St (shw p c0 e0) ++ b ++ (a ++ St (shw p c1 e1) ++ b) ++ (a ++ St (shw p c2 e2) ++ b)) t) := by
  walk_at "U in"
  obtain ⟨hV, hv0, hv1, hv2⟩ := ‹_ ∧ NV _ _ _ _ _ ∧ _›
  k_steps
  walk_at "U ret"
  exact str_eq (lz_inj (by simp only [lz_append, o_empty, lz_st, List.nil_append, List.append_assoc]))
end

-- piece 40
-- needs: 08
-- pure
/-- figures read on from f -/
def foldF (D : List Nat) (f : Int) : Int := D.foldl (fun (f : Int) (c : Nat) => 10 * f + c - 48) f
def Digs (D : List Nat) : Prop := ∀ d ∈ D, 48 ≤ d ∧ d ≤ 57
theorem Digs.nil : Digs [] := fun _ h => nomatch h
theorem Digs.cons {c : Nat} {D : List Nat} (h1 : 48 ≤ c) (h2 : c ≤ 57) (h : Digs D) : Digs (c :: D) := fun d hd => by
  rcases List.mem_cons.mp hd with rfl | hd
  · exact ⟨h1, h2⟩
  · exact h d hd
theorem Digs.of_sub {D E : List Nat} (h : Digs D) (hs : ∀ d ∈ E, d ∈ D) : Digs E := fun d hd => h d (hs d hd)
theorem Digs.app {D E : List Nat} (h : Digs D) (h' : Digs E) : Digs (D ++ E) := fun d hd => (List.mem_append.mp hd).elim (h d) (h' d)
theorem foldF_lin (D : List Nat) : ∀ f, foldF D f = f * 10 ^ D.length + foldF D 0 := by
  induction D with
  | nil => intro f; simp [foldF]
  | cons c r ih =>
    intro f
    show foldF r (10 * f + c - 48) = f * 10 ^ (r.length + 1) + foldF r (10 * 0 + c - 48)
    rw [ih, ih (10 * 0 + c - 48), Int.pow_succ, Int.sub_mul, Int.add_mul, Int.sub_mul, Int.add_mul]
    have : 10 * f * 10 ^ r.length = f * (10 ^ r.length * 10) := by rw [Int.mul_comm 10 f, Int.mul_assoc, Int.mul_comm 10]
    rw [this]
    omega
theorem foldF_app (D E : List Nat) (f : Int) : foldF (D ++ E) f = foldF E (foldF D f) := List.foldl_append
theorem foldF_bd {D : List Nat} (h : Digs D) : 0 ≤ foldF D 0 ∧ foldF D 0 < 10 ^ D.length := by
  induction D with
  | nil => simp [foldF]
  | cons c r ih =>
    have hc := h c List.mem_cons_self
    have hr := ih (fun d hd => h d (List.mem_cons_of_mem _ hd))
    show 0 ≤ foldF r (10 * 0 + c - 48) ∧ foldF r (10 * 0 + c - 48) < 10 ^ (r.length + 1)
    rw [foldF_lin, Int.pow_succ]
    have hp := pow10_pos r.length
    have h1 : (0 : Int) ≤ 10 * 0 + c - 48 := by omega
    have h2 : (10 * 0 + (c : Int) - 48) ≤ 9 := by omega
    have h3 : (10 * 0 + (c : Int) - 48) * 10 ^ r.length ≤ 9 * 10 ^ r.length := Int.mul_le_mul_of_nonneg_right h2 (by omega)
    have h4 : 0 ≤ (10 * 0 + (c : Int) - 48) * 10 ^ r.length := Int.mul_nonneg h1 (by omega)
    omega
theorem runF_run {P D R : List Nat} (hD : Digs D) (hR : ∀ c, R.head? = some c → ¬ (48 ≤ c ∧ c ≤ 57)) : ∀ f, runF (P ++ (D ++ R)) P.length f = (foldF D f, P.length + D.length) := by
  induction D generalizing P with
  | nil =>
    intro f
    rw [runF_end fun c hc => ?_]
    · rfl
    · rw [List.nil_append, List.getElem?_append_right (Nat.le_refl _), Nat.sub_self, ← List.head?_eq_getElem?] at hc
      exact hR c hc
  | cons d r ih =>
    intro f
    have hd := hD d List.mem_cons_self
    have hg : (P ++ (d :: r ++ R))[P.length]? = some d := by
      rw [List.getElem?_append_right (Nat.le_refl _), Nat.sub_self]; rfl
    rw [runF_go hg hd.1 hd.2]
    have h2 := ih (P := P ++ [d]) (fun e he => hD e (List.mem_cons_of_mem _ he)) (10 * f + d - 48)
    rw [List.append_assoc, List.length_append] at h2
    show runF (P ++ (d :: r ++ R)) (P.length + 1) _ = _
    rw [show P ++ (d :: r ++ R) = P ++ ([d] ++ (r ++ R)) from rfl]
    rw [show P.length + 1 = P.length + [d].length from rfl, h2]
    show (foldF r (10 * f + d - 48), P.length + [d].length + r.length) = (foldF r (10 * f + d - 48), P.length + (r.length + 1))
    rw [show P.length + [d].length + r.length = P.length + (r.length + 1) by simp only [List.length_cons, List.length_nil]; omega]
/-- where d_of_text begins -/
def sg0 (l : List Nat) : Int := if l[0]? = some 43 ∨ l[0]? = some 45 then 1 else 0
def sgn (l : List Nat) (c : Int) : Int := if l[0]? = some 45 then 0 - c else c
/-- what d_of_text reads in l: c at 10 ^ e, and it ends at n -/
def DT (l : List Nat) (c e n : Int) : Prop :=
  (∃ a1 a2 f1 f2 ex : Int, runF l (sg0 l).toNat 0 = (f1, a1.toNat) ∧ l[a1.toNat]? = some 46 ∧ runF l (a1 + 1).toNat 0 = (f2, a2.toNat) ∧ expA l a2 = (ex, n) ∧ sg0 l ≤ a1 ∧ a1 < l.length ∧ a1 + 1 ≤ a2 ∧ a2 ≤ l.length ∧
    0 < a1 - sg0 l + (a2 - (a1 + 1)) ∧ 0 ≤ f1 ∧ f1 < 10 ^ 18 ∧ 0 ≤ f1 * 10 ^ (a2 - (a1 + 1)).toNat + f2 ∧ f1 * 10 ^ (a2 - (a1 + 1)).toNat + f2 < 10 ^ 19 ∧ -60 ≤ ex - (a2 - (a1 + 1)) ∧ ex - (a2 - (a1 + 1)) ≤ 20 ∧
    c = sgn l (f1 * 10 ^ (a2 - (a1 + 1)).toNat + f2) ∧ e = ex - (a2 - (a1 + 1))) ∨
  (∃ a1 f1 ex : Int, runF l (sg0 l).toNat 0 = (f1, a1.toNat) ∧ l[a1.toNat]? ≠ some 46 ∧ expA l a1 = (ex, n) ∧ sg0 l < a1 ∧ a1 ≤ l.length ∧ 0 ≤ f1 ∧ f1 < 10 ^ 18 ∧ -60 ≤ ex ∧ ex ≤ 20 ∧ c = sgn l f1 ∧ e = ex - 0)
/-- an exponent's text, and its number -/
def ExT (X : List Nat) (ex : Int) : Prop := (X = [] ∧ ex = 0) ∨ ∃ s D, X = 69 :: s :: D ∧ (s = 43 ∨ s = 45) ∧ D ≠ [] ∧ Digs D ∧ foldF D 0 < 9999 ∧ ex = if s = 45 then 0 - foldF D 0 else foldF D 0
theorem ExT.head {X : List Nat} {ex : Int} (h : ExT X ex) : ∀ c, X.head? = some c → ¬ (48 ≤ c ∧ c ≤ 57) := by
  intro c hc
  rcases h with ⟨rfl, _⟩ | ⟨s, D, rfl, _⟩
  · simp at hc
  · simp at hc; omega
theorem ExT.at {P X : List Nat} {ex : Int} (h : ExT X ex) : expA (P ++ X) P.length = (ex, ((P ++ X).length : Int)) := by
  rcases h with ⟨rfl, rfl⟩ | ⟨s, D, rfl, hs, hne, hD, hb, rfl⟩
  · rw [List.append_nil, expA_out (Int.le_refl _)]
  · have h0 : (P ++ 69 :: s :: D)[((P.length : Int)).toNat]? = some 69 := by
      rw [Int.toNat_natCast, List.getElem?_append_right (Nat.le_refl _), Nat.sub_self]; rfl
    have h1 : (P ++ 69 :: s :: D)[((P.length : Int) + 1).toNat]? = some s := by
      rw [show ((P.length : Int) + 1).toNat = P.length + 1 by omega, List.getElem?_append_right (by omega), show P.length + 1 - P.length = 1 by omega]; rfl
    have hrun := runF_run (P := P ++ [69, s]) (D := D) (R := []) hD (by simp) 0
    rw [List.append_nil, List.append_assoc, List.length_append] at hrun
    have hrun' : runF (P ++ 69 :: s :: D) (P.length + 2) 0 = (foldF D 0, P.length + 2 + D.length) := hrun
    have hl : (P ++ 69 :: s :: D).length = P.length + 2 + D.length := by rw [List.length_append]; simp only [List.length_cons]; omega
    have hDl : 0 < D.length := by rcases D with _ | ⟨d, r⟩; exact absurd rfl hne; simp
    have hf := (foldF_bd hD).1
    unfold expA
    rw [h0]
    simp only [true_or, if_true]
    have hB : expB (P ++ 69 :: s :: D) (P.length : Int) = (P.length : Int) + 2 := by
      unfold expB; rw [h1]; rcases hs with rfl | rfl <;> simp <;> omega
    rw [hB, show ((P.length : Int) + 2).toNat = P.length + 2 by omega, hrun']
    simp only
    rw [if_neg (by omega), h1, hl]
    congr 1
    rw [show min (foldF D 0) 9999 = foldF D 0 by omega]
    rcases hs with rfl | rfl
    · rw [if_neg (by simp), if_neg (by decide)]; omega
    · rw [if_pos rfl, if_pos rfl]; omega
/-- a sign, or none -/
def Sg (S : List Nat) : Prop := S = [] ∨ S = [43] ∨ S = [45]
theorem sg_len {S K : List Nat} (hS : Sg S) (hK : ∀ c, K.head? = some c → c ≠ 43 ∧ c ≠ 45) : sg0 (S ++ K) = S.length := by
  unfold sg0
  rcases hS with rfl | rfl | rfl
  · rw [if_neg]; · rfl
    intro h
    rw [List.nil_append, ← List.head?_eq_getElem?] at h
    rcases h with h | h
    · exact (hK _ h).1 rfl
    · exact (hK _ h).2 rfl
  · rw [if_pos (by simp)]; rfl
  · rw [if_pos (by simp)]; rfl
theorem sg_neg {S K : List Nat} {c : Int} (hS : Sg S) (hK : ∀ c, K.head? = some c → c ≠ 43 ∧ c ≠ 45) : sgn (S ++ K) c = if S = [45] then 0 - c else c := by
  unfold sgn
  rcases hS with rfl | rfl | rfl
  · rw [if_neg, if_neg (by simp)]
    intro h
    rw [List.nil_append, ← List.head?_eq_getElem?] at h
    exact (hK _ h).2 rfl
  · rw [if_neg (by simp), if_neg (by simp)]
  · rw [if_pos (by simp), if_pos rfl]
theorem digs_head {D R : List Nat} (hD : Digs D) (hR : ∀ c, R.head? = some c → c ≠ 43 ∧ c ≠ 45) : ∀ c, (D ++ R).head? = some c → c ≠ 43 ∧ c ≠ 45 := by
  intro c hc
  rcases D with _ | ⟨d, r⟩
  · exact hR c hc
  · have h := hD d List.mem_cons_self
    simp at hc; omega
theorem dt_pt {S A B X : List Nat} {ex : Int} (hS : Sg S) (hA : Digs A) (hB : Digs B) (hX : ExT X ex) (hne : 0 < A.length + B.length) (hl : (A ++ B).length ≤ 18) (e0 : -60 ≤ ex - B.length) (e1 : ex - B.length ≤ 20) :
    DT (S ++ (A ++ (46 :: (B ++ X)))) (if S = [45] then 0 - foldF (A ++ B) 0 else foldF (A ++ B) 0) (ex - B.length) (S ++ (A ++ (46 :: (B ++ X)))).length := by
  have hK : ∀ c, (A ++ (46 :: (B ++ X))).head? = some c → c ≠ 43 ∧ c ≠ 45 := digs_head hA (by simp)
  have h0 := sg_len hS hK
  have hr1 := runF_run (P := S) (D := A) (R := 46 :: (B ++ X)) hA (by simp) 0
  have hr2 := runF_run (P := S ++ (A ++ [46])) (D := B) (R := X) hB hX.head 0
  have hx := hX.at (P := S ++ (A ++ (46 :: B)))
  have e1' : S ++ (A ++ [46]) ++ (B ++ X) = S ++ (A ++ (46 :: (B ++ X))) := by simp
  have e2' : S ++ (A ++ (46 :: B)) ++ X = S ++ (A ++ (46 :: (B ++ X))) := by simp
  rw [e1'] at hr2
  rw [e2'] at hx
  have hab := foldF_bd (hA.app hB)
  have ha := foldF_bd hA
  rw [List.length_append] at hl
  have hp : (10 : Int) ^ (A ++ B).length ≤ 10 ^ 18 := pow10_le (by rw [List.length_append]; omega)
  have hp2 : (10 : Int) ^ A.length ≤ 10 ^ 18 := pow10_le (by omega)
  have hv : foldF (A ++ B) 0 = foldF A 0 * 10 ^ B.length + foldF B 0 := by rw [foldF_app, foldF_lin]
  refine .inl ⟨((S.length + A.length : Nat) : Int), ((S.length + A.length + 1 + B.length : Nat) : Int), foldF A 0, foldF B 0, ex, ?_, ?_, ?_, ?_, ?_, ?_, ?_, ?_, ?_, ha.1, ?_, ?_, ?_, ?_, ?_, ?_, ?_⟩
  · rw [h0, Int.toNat_natCast, hr1, Int.toNat_natCast]
  · rw [Int.toNat_natCast, ← List.append_assoc, List.getElem?_append_right (by rw [List.length_append]; omega), List.length_append, Nat.sub_self]; rfl
  · rw [show (((S.length + A.length : Nat) : Int) + 1).toNat = (S ++ (A ++ [46])).length by simp only [List.length_append, List.length_cons, List.length_nil]; omega, hr2, Int.toNat_natCast]
    congr 1
    simp only [List.length_append, List.length_cons, List.length_nil]; omega
  · rw [show ((S.length + A.length + 1 + B.length : Nat) : Int) = ((S ++ (A ++ (46 :: B))).length : Int) by simp only [List.length_append, List.length_cons]; omega]
    exact hx
  · rw [h0]; omega
  · simp only [List.length_append, List.length_cons]; omega
  · omega
  · simp only [List.length_append, List.length_cons]; omega
  · rw [h0]; omega
  · omega
  · rw [show (((S.length + A.length + 1 + B.length : Nat) : Int) - (((S.length + A.length : Nat) : Int) + 1)).toNat = B.length by omega, ← hv]; exact hab.1
  · rw [show (((S.length + A.length + 1 + B.length : Nat) : Int) - (((S.length + A.length : Nat) : Int) + 1)).toNat = B.length by omega, ← hv]
    have : (10 : Int) ^ 18 < 10 ^ 19 := by decide
    omega
  · omega
  · omega
  · rw [sg_neg hS hK, show (((S.length + A.length + 1 + B.length : Nat) : Int) - (((S.length + A.length : Nat) : Int) + 1)).toNat = B.length by omega, ← hv]
  · omega
theorem dt_np {S A X : List Nat} {ex : Int} (hS : Sg S) (hA : Digs A) (hX : ExT X ex) (hne : 0 < A.length) (hl : A.length ≤ 17) (e0 : -60 ≤ ex) (e1 : ex ≤ 20) :
    DT (S ++ (A ++ X)) (if S = [45] then 0 - foldF A 0 else foldF A 0) ex (S ++ (A ++ X)).length := by
  have hXh : ∀ c, X.head? = some c → c ≠ 46 ∧ c ≠ 43 ∧ c ≠ 45 := by
    intro c hc
    rcases hX with ⟨rfl, _⟩ | ⟨s, D, rfl, _⟩
    · simp at hc
    · simp at hc; omega
  have hK : ∀ c, (A ++ X).head? = some c → c ≠ 43 ∧ c ≠ 45 := digs_head hA fun c hc => (hXh c hc).2
  have h0 := sg_len hS hK
  have hr1 := runF_run (P := S) (D := A) (R := X) hA hX.head 0
  have hx := hX.at (P := S ++ A)
  rw [List.append_assoc] at hx
  have ha := foldF_bd hA
  have hp2 : (10 : Int) ^ A.length ≤ 10 ^ 17 := pow10_le (by omega)
  have hq : (10 : Int) ^ 17 < 10 ^ 18 := by decide
  refine .inr ⟨((S.length + A.length : Nat) : Int), foldF A 0, ex, ?_, ?_, ?_, ?_, ?_, ha.1, by omega, e0, e1, ?_, by omega⟩
  · rw [h0, Int.toNat_natCast, hr1, Int.toNat_natCast]
  · rw [Int.toNat_natCast, ← List.append_assoc, List.getElem?_append_right (by rw [List.length_append]; omega), List.length_append, Nat.sub_self, ← List.head?_eq_getElem?]
    exact fun h => (hXh _ h).1 rfl
  · rw [show ((S.length + A.length : Nat) : Int) = ((S ++ A).length : Int) by rw [List.length_append]]
    exact hx
  · rw [h0]; omega
  · simp only [List.length_append]; omega
  · rw [sg_neg hS hK]

-- piece 41
-- needs: 40 51
-- pure
theorem padL_app (n k : Int) (f : List Nat) : ∃ G, padL n k f = G ++ f := by
  by_cases hc : 0 < n ∨ (f.length : Int) < k
  · rw [padL_go hc]
    obtain ⟨G, h⟩ := padL_app (n / 10) k ((48 + (n % 10).toNat) :: f)
    exact ⟨G ++ [48 + (n % 10).toNat], by rw [h]; simp⟩
  · exact ⟨[], by rw [padL_end hc]; rfl⟩
termination_by n.toNat + (k - f.length).toNat
decreasing_by
  simp only [List.length_cons]
  rcases hc with h | h <;> omega
theorem padL_digs {n k : Int} {f : List Nat} (hf : Digs f) : Digs (padL n k f) := by
  by_cases hc : 0 < n ∨ (f.length : Int) < k
  · rw [padL_go hc]
    exact padL_digs (hf.cons (by omega) (by omega))
  · rw [padL_end hc]; exact hf
termination_by n.toNat + (k - f.length).toNat
decreasing_by
  simp only [List.length_cons]
  rcases hc with h | h <;> omega
theorem padL_val {n k : Int} {f : List Nat} (h0 : 0 ≤ n) : foldF (padL n k f) 0 = n * 10 ^ f.length + foldF f 0 := by
  by_cases hc : 0 < n ∨ (f.length : Int) < k
  · rw [padL_go hc, padL_val (by omega)]
    show n / 10 * 10 ^ (f.length + 1) + foldF f (10 * 0 + ((48 + (n % 10).toNat : Nat) : Int) - 48) = _
    rw [foldF_lin, Int.pow_succ]
    have e : (10 * 0 + ((48 + (n % 10).toNat : Nat) : Int) - 48) = n % 10 := by omega
    rw [e]
    have h1 : n / 10 * (10 ^ f.length * 10) = (10 * (n / 10)) * 10 ^ f.length := by
      rw [Int.mul_comm 10 (n / 10), Int.mul_assoc, Int.mul_comm 10]
    rw [h1, ← Int.add_assoc, ← Int.add_mul, Int.mul_ediv_add_emod]
  · have : n = 0 := by omega
    rw [padL_end hc, this]; omega
termination_by n.toNat + (k - f.length).toNat
decreasing_by
  simp only [List.length_cons]
  rcases hc with h | h <;> omega
theorem padL_nil_val {n k : Int} (h0 : 0 ≤ n) : foldF (padL n k []) 0 = n := by
  rw [padL_val h0]
  show n * 10 ^ 0 + 0 = n
  omega
theorem keep_dig {D : List Nat} (h : Digs D) : D.filter keepB = D := by
  rw [List.filter_eq_self]
  intro c hc
  have := h c hc
  unfold keepB
  simp only [Bool.or_eq_true, Bool.and_eq_true, decide_eq_true_eq]
  exact .inl this
/-- grouped figures keep their figures -/
theorem keep_grpL (x f : List Nat) : (grpL x f).filter keepB = (if 3 < x.length then (x.take (x.length - 3)).filter keepB else []) ++ f.filter keepB := by
  by_cases h : 3 < x.length
  · rw [grpL_go h, keep_grpL, if_pos h]
    have hl : (x.take (x.length - 3)).length = x.length - 3 := by rw [List.length_take]; omega
    rw [List.filter_append, List.filter_cons, if_neg (show ¬ keepB 44 = true by decide), ← List.append_assoc]
    congr 1
    split
    · rw [← List.filter_append, List.take_append_drop]
    · rename_i h2
      rw [hl] at h2 ⊢
      rw [show x.length - 3 - 3 = 0 by omega, List.drop_zero, List.nil_append]
  · rw [grpL_end h, if_neg h, List.nil_append]
termination_by x.length
decreasing_by simp only [List.length_take]; omega
theorem keep_grp {x : List Nat} (h : Digs x) : (grp x).filter keepB = x := by
  unfold grp
  rw [keep_grpL]
  split
  · rw [← List.filter_append, List.take_append_drop, keep_dig h]
  · rename_i h2
    rw [show x.length - 3 = 0 by omega, List.drop_zero, List.nil_append, keep_dig h]
theorem keep_nbG {p : Pic} {A : List Nat} (h : Digs A) : (nbG p A).filter keepB = A := by
  unfold nbG; split
  · exact keep_grp h
  · exact keep_dig h

-- piece 42
-- needs: 41
-- pure
def SignOk (p : Pic) : Prop := p.sign = PySem.Str.ofString "" ∨ p.sign = PySem.Str.ofString "+ahead" ∨ p.sign = PySem.Str.ofString "+behind" ∨ p.sign = PySem.Str.ofString "-behind"
/-- the sign that is read -/
def sgnS (p : Pic) (b : Bool) : List Nat := leadS p b ++ (tailS p b).filter keepB
theorem eq_ee : (PySem.Str.ofString "" == PySem.Str.ofString "+ahead") = false := by decide +kernel
theorem eq_aa : (PySem.Str.ofString "+ahead" == PySem.Str.ofString "+ahead") = true := by decide +kernel
theorem eq_pa : (PySem.Str.ofString "+behind" == PySem.Str.ofString "+ahead") = false := by decide +kernel
theorem eq_ma : (PySem.Str.ofString "-behind" == PySem.Str.ofString "+ahead") = false := by decide +kernel
theorem eq_e0 : (PySem.Str.ofString "" == PySem.Str.ofString "") = true := by decide +kernel
theorem eq_a0 : (PySem.Str.ofString "+ahead" == PySem.Str.ofString "") = false := by decide +kernel
theorem eq_p0 : (PySem.Str.ofString "+behind" == PySem.Str.ofString "") = false := by decide +kernel
theorem eq_m0 : (PySem.Str.ofString "-behind" == PySem.Str.ofString "") = false := by decide +kernel
theorem eq_ep : (PySem.Str.ofString "+behind" == PySem.Str.ofString "") = false := by decide +kernel
theorem eq_pp : (PySem.Str.ofString "+behind" == PySem.Str.ofString "+behind") = true := by decide +kernel
theorem eq_pm : (PySem.Str.ofString "+behind" == PySem.Str.ofString "-behind") = false := by decide +kernel
theorem eq_mp : (PySem.Str.ofString "-behind" == PySem.Str.ofString "+behind") = false := by decide +kernel
theorem eq_mm : (PySem.Str.ofString "-behind" == PySem.Str.ofString "-behind") = true := by decide +kernel
theorem eq_0p : (PySem.Str.ofString "+behind" == PySem.Str.ofString "") = false := by decide +kernel
theorem eq_pe : ([PySem.Str.ofString "+behind", PySem.Str.ofString "-behind"].any fun x => x == PySem.Str.ofString "") = false := by decide +kernel
theorem eq_pA : ([PySem.Str.ofString "+behind", PySem.Str.ofString "-behind"].any fun x => x == PySem.Str.ofString "+ahead") = false := by decide +kernel
theorem eq_pP : ([PySem.Str.ofString "+behind", PySem.Str.ofString "-behind"].any fun x => x == PySem.Str.ofString "+behind") = true := by decide +kernel
theorem eq_pM : ([PySem.Str.ofString "+behind", PySem.Str.ofString "-behind"].any fun x => x == PySem.Str.ofString "-behind") = true := by decide +kernel
/-- the sign stands ahead, or behind, and it says whether the number is below nought -/
theorem sgn_cases {p : Pic} (h : SignOk p) (b : Bool) : ((tailS p b).filter keepB = [] ∨ (leadS p b = [] ∧ ∃ s, (s = 43 ∨ s = 45) ∧ (tailS p b).filter keepB = [s])) ∧ (leadS p b).filter keepB = leadS p b ∧ Sg (sgnS p b) ∧ (sgnS p b = [45] ↔ b = true) := by
  unfold sgnS leadS tailS Sg
  rcases h with h | h | h | h
  · simp only [h, eq_ee, eq_e0, eq_pe, if_true, if_false, Bool.false_eq_true]; cases b <;> exact ⟨.inl (by decide), by decide, by decide, by decide⟩
  · simp only [h, eq_aa, eq_pA, if_true, if_false, Bool.false_eq_true]; cases b <;> exact ⟨.inl (by decide), by decide, by decide, by decide⟩
  · simp only [h, eq_pa, eq_p0, eq_pP, eq_pp, if_true, if_false, Bool.false_eq_true]; cases b
    · exact ⟨.inr ⟨trivial, 43, .inl rfl, by decide⟩, by decide, by decide, by decide⟩
    · exact ⟨.inr ⟨trivial, 45, .inr rfl, by decide⟩, by decide, by decide, by decide⟩
  · simp only [h, eq_ma, eq_m0, eq_pM, eq_mp, if_true, if_false, Bool.false_eq_true]; cases b
    · exact ⟨.inl (by decide), by decide, by decide, by decide⟩
    · exact ⟨.inr ⟨trivial, 45, .inr rfl, by decide⟩, by decide, by decide, by decide⟩
theorem keep_rep {n c : Nat} (h : keepB c = false) : (List.replicate n c).filter keepB = [] := by
  rw [List.filter_eq_nil_iff]; intro d hd; rw [List.eq_of_mem_replicate hd, h]; decide
theorem keep_ext {X : List Nat} {ex : Int} (h : ExT X ex) : X.filter keepB = X := by
  rcases h with ⟨rfl, _⟩ | ⟨s, D, rfl, hs, _, hD, _⟩
  · rfl
  · rw [List.filter_cons, if_pos (by decide), List.filter_cons, if_pos (by rcases hs with rfl | rfl <;> decide), keep_dig hD]
/-- the figures ahead that stand in the text -/
def aheadF (p : Pic) (b : Bool) (A B : List Nat) : List Nat := if nbW p < ((nbLd p b ++ nbG p A).length : Int) ∧ nbG p A = [48] ∧ B ≠ [] then [] else A
theorem keep_nbA {p : Pic} {b : Bool} {A B : List Nat} (h : Digs A) : (nbA p b A B).filter keepB = aheadF p b A B := by
  unfold nbA aheadF; split
  · rfl
  · exact keep_nbG h
theorem keep_nbO {p : Pic} {b : Bool} {A B T : List Nat} {ex : Int} (hA : Digs A) (hB : Digs B) (hT : ExT T ex) (hs : SignOk p) :
    (nbO p b A B T).filter keepB = leadS p b ++ ((aheadF p b A B ++ ((if p.point = true then [46] else []) ++ (B ++ T))) ++ (tailS p b).filter keepB) := by
  have e1 : (nbO p b A B T).filter keepB = (nbT p b A B T).filter keepB := by
    unfold nbO; split
    · rw [List.filter_append]; rfl
    · rfl
  have e2 : (nbLd p b).filter keepB = leadS p b := by
    unfold nbLd
    rw [List.filter_append, (sgn_cases hs b).2.1]
    split
    · rw [show List.filter keepB [36] = [] by decide, List.append_nil]
    · rw [List.filter_nil, List.append_nil]
  have e3 : (if p.point = true then [46] else [] : List Nat).filter keepB = if p.point = true then [46] else [] := by split <;> decide
  rw [e1]
  unfold nbT
  simp only [List.filter_append]
  rw [keep_rep (by split <;> decide), e2, keep_nbA hA, e3, keep_dig hB, keep_ext hT]
  simp only [List.nil_append, List.append_assoc]
theorem rotL_id {l : List Nat} {x : Nat} (h : x ≠ 43 ∧ x ≠ 45) : rotL (l ++ [x]) = l ++ [x] := by
  unfold rotL
  have e : (l ++ [x]).drop ((l ++ [x]).length - 1) = [x] := by simp
  rw [e, if_neg]
  intro q
  rcases q with q | q <;> simp at q <;> omega
theorem rotL_go {l : List Nat} {x : Nat} (h : x = 43 ∨ x = 45) : rotL (l ++ [x]) = x :: l := by
  unfold rotL
  have e : (l ++ [x]).drop ((l ++ [x]).length - 1) = [x] := by simp
  have e2 : (l ++ [x]).take ((l ++ [x]).length - 1) = l := by simp
  rw [e, e2, if_pos (by rcases h with rfl | rfl; exact .inl rfl; exact .inr rfl)]
  rfl
theorem rot_kept {p : Pic} {b : Bool} {M l : List Nat} {x : Nat} (hs : SignOk p) (hM : M = l ++ [x]) (hx : x ≠ 43 ∧ x ≠ 45) : rotL (leadS p b ++ (M ++ (tailS p b).filter keepB)) = sgnS p b ++ M := by
  unfold sgnS
  rcases (sgn_cases hs b).1 with h | ⟨h, s, hs', h2⟩
  · rw [h, List.append_nil, List.append_nil, hM, ← List.append_assoc, rotL_id hx]
  · rw [h, h2, List.nil_append, rotL_go hs']; rfl
theorem mem_grpL : ∀ (x f : List Nat) (c : Nat), c ∈ grpL x f → c ∈ x ∨ c = 44 ∨ c ∈ f := by
  intro x f c hc
  by_cases h : 3 < x.length
  · rw [grpL_go h] at hc
    have ih := mem_grpL _ _ c hc
    rcases ih with h1 | h1 | h1
    · exact .inl (List.mem_of_mem_take h1)
    · exact .inr (.inl h1)
    · rcases List.mem_append.mp h1 with h2 | h2
      · exact .inl (List.mem_of_mem_take (List.mem_of_mem_drop h2))
      · rcases List.mem_cons.mp h2 with h3 | h3
        · exact .inr (.inl h3)
        · exact .inr (.inr h3)
  · rw [grpL_end h] at hc; exact .inr (.inr hc)
termination_by x => x.length
decreasing_by simp only [List.length_take]; omega
theorem nbG_lt {p : Pic} {A : List Nat} (hA : Digs A) : ∀ c ∈ nbG p A, c < 128 := by
  intro c hc
  unfold nbG at hc
  split at hc
  · rcases mem_grpL _ _ c hc with h | h | h
    · have := hA c h; omega
    · omega
    · have := hA c (List.mem_of_mem_drop h); omega
  · have := hA c hc; omega
theorem ext_lt {X : List Nat} {ex : Int} (h : ExT X ex) : ∀ c ∈ X, c < 128 := by
  intro c hc
  rcases h with ⟨rfl, _⟩ | ⟨s, D, rfl, hs, _, hD, _⟩
  · cases hc
  · rcases List.mem_cons.mp hc with h | h
    · omega
    · rcases List.mem_cons.mp h with h | h
      · omega
      · have := hD c h; omega
theorem nbO_lt {p : Pic} {b : Bool} {A B T : List Nat} {ex : Int} (hA : Digs A) (hB : Digs B) (hT : ExT T ex) : ∀ c ∈ nbO p b A B T, c < 128 := by
  have hlead : ∀ c ∈ leadS p b, c < 128 := by unfold leadS; intro c hc; (repeat' split at hc) <;> simp at hc <;> omega
  have htail : ∀ c ∈ tailS p b, c < 128 := by unfold tailS; intro c hc; (repeat' split at hc) <;> simp at hc <;> omega
  have hn : ∀ c ∈ nbT p b A B T, c < 128 := by
    intro c hc
    unfold nbT at hc
    simp only [List.mem_append] at hc
    rcases hc with (((((hc | hc) | hc) | hc) | hc) | hc) | hc
    · have := List.eq_of_mem_replicate hc; rw [this]; split <;> decide
    · unfold nbLd at hc
      rcases List.mem_append.mp hc with h | h
      · exact hlead c h
      · split at h <;> simp at h; omega
    · unfold nbA at hc
      split at hc
      · cases hc
      · exact nbG_lt hA c hc
    · split at hc <;> simp at hc; omega
    · have := hB c hc; omega
    · exact ext_lt hT c hc
    · exact htail c hc
  intro c hc
  unfold nbO at hc
  split at hc
  · rcases List.mem_append.mp hc with h | h
    · simp at h; omega
    · exact hn c h
  · exact hn c hc

-- piece 43
-- needs: 42
-- pure
/-- the text T is read to its end as a at 10 ^ b -/
def RdF (T : List Nat) (a b : Int) : Prop :=
  (∀ c ∈ T, c < 128) ∧ 0 < (T.filter keepB).length ∧ (rotL (T.filter keepB)).length ≤ 100 ∧ (∀ c, (rotL (T.filter keepB))[0]? = some c → c ≠ 32 ∧ c ≠ 9) ∧
    ∃ c e, DT (rotL (T.filter keepB)) c e (rotL (T.filter keepB)).length ∧ mad c e 9 = (a, b)
theorem rotL_sub {l : List Nat} : ∀ c ∈ rotL l, c ∈ l := by
  intro c hc
  unfold rotL at hc
  split at hc
  · rcases List.mem_append.mp hc with h | h
    · exact List.mem_of_mem_drop h
    · exact List.mem_of_mem_take h
  · exact hc
theorem rotL_len {l : List Nat} : (rotL l).length = l.length := by
  unfold rotL
  split
  · rw [List.length_append, List.length_drop, List.length_take]; omega
  · rfl
theorem digs_last {D : List Nat} (h : Digs D) (hne : D ≠ []) : ∃ l x, D = l ++ [x] ∧ x ≠ 43 ∧ x ≠ 45 := by
  refine ⟨D.dropLast, D.getLast hne, (List.dropLast_concat_getLast hne).symm, ?_⟩
  have := h _ (List.getLast_mem hne)
  omega
theorem last_app {D E : List Nat} (h : ∃ l x, E = l ++ [x] ∧ x ≠ 43 ∧ x ≠ 45) : ∃ l x, D ++ E = l ++ [x] ∧ x ≠ 43 ∧ x ≠ 45 := by
  obtain ⟨l, x, rfl, hx⟩ := h
  exact ⟨D ++ l, x, by rw [List.append_assoc], hx⟩
theorem ext_last {X : List Nat} {ex : Int} (h : ExT X ex) (hne : X ≠ []) : ∃ l x, X = l ++ [x] ∧ x ≠ 43 ∧ x ≠ 45 := by
  rcases h with ⟨rfl, _⟩ | ⟨s, D, rfl, _, hD0, hD, _⟩
  · exact absurd rfl hne
  · exact last_app (D := [69, s]) (digs_last hD hD0)
theorem rd_gen {p : Pic} {b : Bool} {A B T : List Nat} {ex : Int} (hA : Digs A) (hB : Digs B) (hT : ExT T ex) (hs : SignOk p) (hA0 : A ≠ []) (hpt : p.point = true ∨ B = []) (hl : A.length + B.length ≤ 17) (hTl : T.length ≤ 60)
    (e0 : -60 ≤ ex - B.length) (e1 : ex - B.length ≤ 20) :
    RdF (nbO p b A B T) (mad (if b = true then 0 - foldF (A ++ B) 0 else foldF (A ++ B) 0) (ex - B.length) 9).1 (mad (if b = true then 0 - foldF (A ++ B) 0 else foldF (A ++ B) 0) (ex - B.length) 9).2 := by
  have hk := keep_nbO (p := p) (b := b) hA hB hT hs
  have hA2 : Digs (aheadF p b A B) := by unfold aheadF; split; exact Digs.nil; exact hA
  have hA2l : (aheadF p b A B).length ≤ A.length := by unfold aheadF; split <;> simp
  have hv : foldF (aheadF p b A B ++ B) 0 = foldF (A ++ B) 0 := by
    unfold aheadF; split
    · rename_i h
      have hA1 : A = [48] := by rw [← keep_nbG (p := p) hA, h.2.1]; decide
      rw [hA1]; rfl
    · rfl
  have hne : 0 < (aheadF p b A B).length + B.length := by
    unfold aheadF; split
    · rename_i h
      have := List.length_pos_iff.mpr h.2.2
      omega
    · have := List.length_pos_iff.mpr hA0
      omega
  have hAl : 0 < A.length := List.length_pos_iff.mpr hA0
  have hsg := sgn_cases hs b
  have hM : ∃ l x, aheadF p b A B ++ ((if p.point = true then [46] else []) ++ (B ++ T)) = l ++ [x] ∧ x ≠ 43 ∧ x ≠ 45 := by
    by_cases hT0 : T = []
    · subst hT0
      rw [List.append_nil]
      by_cases hB0 : B = []
      · subst hB0
        rw [List.append_nil]
        have hA2' : aheadF p b A [] ≠ [] := List.length_pos_iff.mp (by simpa using hne)
        by_cases hp : p.point = true
        · rw [if_pos hp]; exact ⟨_, 46, rfl, by decide⟩
        · rw [if_neg hp, List.append_nil]; exact digs_last hA2 hA2'
      · exact last_app (last_app (digs_last hB hB0))
    · exact last_app (last_app (last_app (ext_last hT hT0)))
  obtain ⟨l, x, hM, hx⟩ := hM
  have hrot : rotL ((nbO p b A B T).filter keepB) = sgnS p b ++ (aheadF p b A B ++ ((if p.point = true then [46] else []) ++ (B ++ T))) := by
    rw [hk, rot_kept hs hM hx]
  have hlen : (rotL ((nbO p b A B T).filter keepB)).length ≤ 100 := by
    rw [hrot]
    have h1 : (sgnS p b).length ≤ 1 := by rcases hsg.2.2.1 with h | h | h <;> (rw [h]; decide)
    have h2 : (if p.point = true then [46] else [] : List Nat).length ≤ 1 := by split <;> decide
    simp only [List.length_append]
    omega
  have hneg : (if b = true then 0 - foldF (A ++ B) 0 else foldF (A ++ B) 0) = if sgnS p b = [45] then 0 - foldF (aheadF p b A B ++ B) 0 else foldF (aheadF p b A B ++ B) 0 := by
    rw [hv]
    by_cases h : b = true
    · rw [if_pos h, if_pos (hsg.2.2.2.mpr h)]
    · rw [if_neg h, if_neg fun q => h (hsg.2.2.2.mp q)]
  refine ⟨nbO_lt hA hB hT, ?_, hlen, fun c hc => ?_, _, _, ?_, rfl⟩
  · rw [← rotL_len, hrot]
    simp only [List.length_append]
    by_cases hp : p.point = true
    · rw [if_pos hp]; simp only [List.length_cons]; omega
    · omega
  · have := (List.mem_filter.mp (rotL_sub c (List.mem_of_getElem? hc))).2
    constructor
    · rintro rfl; exact absurd this (by decide)
    · rintro rfl; exact absurd this (by decide)
  · rw [hneg, hrot]
    rcases hpt with hp | hp
    · rw [if_pos hp]
      exact dt_pt hsg.2.2.1 hA2 hB hT hne (by rw [List.length_append]; omega) e0 e1
    · subst hp
      by_cases hp : p.point = true
      · rw [if_pos hp]
        exact dt_pt hsg.2.2.1 hA2 hB hT hne (by rw [List.length_append]; omega) e0 e1
      · rw [if_neg hp, List.nil_append, List.nil_append, List.append_nil]
        have h0 : ex - (([] : List Nat).length : Int) = ex := by simp
        rw [h0] at e0 e1 ⊢
        have hne' : 0 < (aheadF p b A []).length := by simpa using hne
        exact dt_np hsg.2.2.1 hA2 hT hne' (by simp only [List.length_nil] at hl; omega) e0 e1

-- piece 44
-- needs: 43
-- pure
theorem stripZ_mul {s e : Int} (h : 0 < s) : ∀ k : Nat, stripZ (s * 10 ^ k) e = stripZ s (e + k) := by
  intro k
  induction k generalizing e with
  | zero => simp
  | succ k ih =>
    have hp := pow10_pos k
    have h1 : 0 < s * 10 ^ k := Int.mul_pos h (by omega)
    have e1 : s * 10 ^ (k + 1) = (s * 10 ^ k) * 10 := by rw [Int.pow_succ, Int.mul_assoc]
    rw [e1, stripZ_go (by omega) (by omega), Int.mul_ediv_cancel _ (by decide), ih]
    congr 1
    omega
theorem stripZ_id {s e : Int} (h : s % 10 ≠ 0) : stripZ s e = (s, e) := stripZ_end h
/-- what stripZ gives -/
theorem stripZ_spec {s e : Int} (h : 0 < s) : ∃ k : Nat, s = (stripZ s e).1 * 10 ^ k ∧ (stripZ s e).2 = e + k ∧ (stripZ s e).1 % 10 ≠ 0 ∧ 0 < (stripZ s e).1 := by
  by_cases hm : s % 10 = 0
  · rw [stripZ_go h hm]
    obtain ⟨k, h1, h2, h3, h4⟩ := stripZ_spec (s := s / 10) (e := e + 1) (by omega)
    refine ⟨k + 1, ?_, by omega, h3, h4⟩
    rw [Int.pow_succ, ← Int.mul_assoc, ← h1]; omega
  · rw [stripZ_end hm]
    exact ⟨0, by simp, by simp, hm, h⟩
termination_by s.toNat
decreasing_by omega
theorem figs_mul {s : Int} (h : 0 < s) : ∀ k : Nat, figs (s * 10 ^ k) = figs s + k := by
  intro k
  induction k with
  | zero => simp
  | succ k ih =>
    have hp := pow10_pos k
    have h1 : 0 < s * 10 ^ k := Int.mul_pos h (by omega)
    have e1 : s * 10 ^ (k + 1) = (s * 10 ^ k) * 10 := by rw [Int.pow_succ, Int.mul_assoc]
    rw [e1, figs_ten (by omega) (by omega), Int.mul_ediv_cancel _ (by decide), ih]
    omega
/-- rounding takes off noughts -/
theorem rnd_mul {s : Int} (h : 0 < s) {j k : Nat} (hj : j ≤ k) (hj0 : 0 < j) : rnd (s * 10 ^ k) j = s * 10 ^ (k - j) := by
  have hf : ¬ figs (s * 10 ^ k) + 1 < (j : Int) := by rw [figs_mul h]; have := figs_pos s; omega
  rw [rnd_hlf (by omega) hf, Int.toNat_natCast]
  have hp := pow10_lt j
  have e1 : s * 10 ^ k = (s * 10 ^ (k - j)) * 10 ^ j := by rw [Int.mul_assoc, ← Int.pow_add, Nat.sub_add_cancel hj]
  unfold hlf
  rw [e1, Int.mul_emod_left, Int.mul_ediv_cancel _ (by omega)]
  rw [if_neg (by omega)]
/-- made, of a number with noughts at its end and at most d figures ahead of them -/
theorem mad_pos {s e d : Int} {k : Nat} (h : 0 < s) (hd : figs s ≤ d) (hd1 : 1 ≤ d) : mad (s * 10 ^ k) e d = stripZ s (e + k) ∧ mad (-(s * 10 ^ k)) e d = (-(stripZ s (e + k)).1, (stripZ s (e + k)).2) := by
  have hp := pow10_pos k
  have h1 : 0 < s * 10 ^ k := Int.mul_pos h (by omega)
  have hn1 : (((s * 10 ^ k).natAbs : Nat) : Int) = s * 10 ^ k := by omega
  have hn2 : (((-(s * 10 ^ k)).natAbs : Nat) : Int) = s * 10 ^ k := by omega
  unfold mad
  rw [hn1, hn2]
  by_cases hc : figs (s * 10 ^ k) - d > 0
  · rw [if_pos hc, if_pos hc]
    rw [figs_mul h] at hc ⊢
    obtain ⟨j, hj⟩ : ∃ j : Nat, figs s + k - d = j := ⟨(figs s + k - d).toNat, by omega⟩
    have hjk : j ≤ k := by omega
    rw [hj, rnd_mul h hjk (by omega)]
    have hp2 := pow10_pos (k - j)
    have h2 : 0 < s * 10 ^ (k - j) := Int.mul_pos h (by omega)
    have h3 : stripZ (s * 10 ^ (k - j)) (e + j) = stripZ s (e + k) := by rw [stripZ_mul h]; congr 1; omega
    rw [if_neg (by omega), if_neg (by omega), if_neg (by omega), if_pos (by omega), h3]
    exact ⟨rfl, rfl⟩
  · rw [if_neg hc, if_neg hc, if_neg (by omega), if_neg (by omega), if_neg (by omega), if_pos (by omega), stripZ_mul h]
    exact ⟨rfl, rfl⟩
/-- a number as made leaves it: nought, or no nought at its end -/
def Nrm (c e : Int) : Prop := (c = 0 ∧ e = 0) ∨ c % 10 ≠ 0

-- piece 45
-- needs: 44 09
-- pure
/-- a number as the law draws it -/
def ValOk (c e : Int) : Prop := (c.natAbs : Int) < 10 ^ 6 ∧ -5 ≤ e ∧ e ≤ 8 ∧ (c = 0 → e = 0) ∧ (c ≠ 0 → figs c.natAbs + e ≤ 8) ∧ (e = 0 ∨ c % 10 ≠ 0)
theorem sgn_abs {k m : Int} (h0 : 0 ≤ k) (h1 : k < 2) (hm : 0 ≤ m) : (((1 - 2 * k) * m).natAbs : Int) = m := by
  rcases (show k = 0 ∨ k = 1 by omega) with rfl | rfl <;> omega
theorem valOk_int {k m : Int} (h0 : 0 ≤ k) (h1 : k < 2) (hm : 0 ≤ m) (hm2 : m < 32768) : ValOk ((1 - 2 * k) * m) 0 := by
  have h := sgn_abs h0 h1 hm
  refine ⟨by rw [h]; omega, by decide, by decide, fun _ => rfl, fun _ => ?_, .inl rfl⟩
  rw [h]
  have := figs_le (n := m) (k := 8) (by decide) (by omega)
  omega
theorem strip_ok {s e : Int} (h : 0 < s) (hs : s < 10 ^ 6) (he : -5 ≤ e) (he2 : e ≤ 2) : 0 < (stripZ s e).1 ∧ (stripZ s e).1 < 10 ^ 6 ∧ -5 ≤ (stripZ s e).2 ∧ (stripZ s e).2 ≤ 8 ∧ figs (stripZ s e).1 + (stripZ s e).2 ≤ 8 ∧ (stripZ s e).1 % 10 ≠ 0 := by
  obtain ⟨k, h1, h2, h3, h4⟩ := stripZ_spec (e := e) h
  have hf := figs_le (n := s) (k := 6) (by decide) hs
  have hp := pow10_pos k
  have hle : (stripZ s e).1 ≤ s := by
    have : (stripZ s e).1 * 1 ≤ (stripZ s e).1 * 10 ^ k := Int.mul_le_mul_of_nonneg_left hp (by omega)
    omega
  have hfm := figs_mul h4 k
  rw [← h1] at hfm
  have hf1 := figs_pos (stripZ s e).1
  refine ⟨h4, by omega, by omega, by omega, by omega, h3⟩
theorem mad_num {c e d : Int} (hd : figs c.natAbs ≤ d) (h0 : c ≠ 0) : mad c e d = (if c < 0 then -(stripZ c.natAbs e).1 else (stripZ c.natAbs e).1, (stripZ c.natAbs e).2) := by
  unfold mad
  rw [if_neg (by omega), if_neg (by omega)]
theorem valOk_mad {c e : Int} (hc : (c.natAbs : Int) < 10 ^ 6) (he : -5 ≤ e) (he2 : e ≤ 2) : ValOk (mad c e 9).1 (mad c e 9).2 := by
  by_cases h0 : c = 0
  · subst h0
    rw [mad_zero (by decide)]
    exact ⟨by decide, by decide, by decide, fun _ => rfl, fun h => absurd rfl h, .inl rfl⟩
  · have hf := figs_le (n := c.natAbs) (k := 6) (by decide) hc
    rw [mad_num (by omega) h0]
    obtain ⟨h1, h2, h3, h4, h5, h6⟩ := strip_ok (s := c.natAbs) (e := e) (by omega) hc he he2
    by_cases hn : c < 0
    · simp only [if_pos hn]
      have ea : (((-(stripZ c.natAbs e).1).natAbs : Nat) : Int) = (stripZ c.natAbs e).1 := by omega
      exact ⟨by omega, h3, h4, fun h => by omega, fun _ => by rw [ea]; exact h5, .inr (by omega)⟩
    · simp only [if_neg hn]
      have ea : ((((stripZ c.natAbs e).1).natAbs : Nat) : Int) = (stripZ c.natAbs e).1 := by omega
      exact ⟨by omega, h3, h4, fun h => by omega, fun _ => by rw [ea]; exact h5, .inr h6⟩

-- piece 46
-- needs: 45
-- pure
/-- a plain picture -/
def PlP (p : Pic) : Prop := p.expo = false ∧ SignOk p ∧ 0 ≤ p.right ∧ p.right ≤ 4 ∧ (p.point = true ∨ p.right = 0)
theorem scl_fig {s e R : Int} (h : 0 < s) (hs : s < 10 ^ 6) (hse : figs s + e ≤ 8) (hR : 0 ≤ R) (hR4 : R ≤ 4) : 0 ≤ scl s e R ∧ figs (scl s e R) ≤ 12 := by
  unfold scl
  split
  · have hp := pow10_pos (e + R).toNat
    rw [figs_mul h]
    exact ⟨Int.mul_nonneg (by omega) (by omega), by omega⟩
  · have h1 := rnd_nonneg (n := s) (p := -e - R) (by omega)
    have h2 := rnd_lt (n := s) (p := -e - R) (k := 6) (by omega) hs
    exact ⟨h1, figs_le (k := 12) (by decide) (by have : (10 : Int) ^ 6 < 10 ^ 12 := by decide
                                                 omega)⟩
theorem scl_zero {e R : Int} : scl 0 e R = 0 := by
  unfold scl
  split
  · simp
  · unfold rnd
    split
    · rfl
    · split
      · rfl
      · have hp := pow10_pos (-e - R).toNat
        rw [Int.zero_emod, Int.zero_ediv, if_neg (by omega)]
theorem plain_txt {p : Pic} {c e : Int} (hp : PlP p) (hu : 0 ≤ scl c.natAbs e p.right) (hf : figs (scl c.natAbs e p.right) ≤ 12) :
    RdF (shw p c e) (mad (if decide (c < 0) = true then 0 - scl c.natAbs e p.right else scl c.natAbs e p.right) (0 - p.right) 9).1 (mad (if decide (c < 0) = true then 0 - scl c.natAbs e p.right else scl c.natAbs e p.right) (0 - p.right) 9).2 := by
  obtain ⟨h1, h2, h3, h4, h5⟩ := hp
  have hD : Digs (padL (scl c.natAbs e p.right) (p.right + 1) []) := padL_digs Digs.nil
  have hl := padL_length (n := scl c.natAbs e p.right) (k := p.right + 1) (f := []) hu
  have hv := padL_nil_val (k := p.right + 1) hu
  have hL1 : (padL (scl c.natAbs e p.right) (p.right + 1) []).length ≤ 12 ∧ p.right + 1 ≤ ((padL (scl c.natAbs e p.right) (p.right + 1) []).length : Int) := by
    rw [hl]; simp only [List.length_nil]
    have := figs_pos (scl c.natAbs e p.right)
    split <;> omega
  rw [show shw p c e = _ from if_neg (by rw [h1]; simp)]
  generalize padL (scl c.natAbs e p.right) (p.right + 1) [] = F at hD hl hv hL1 ⊢
  obtain ⟨hL1, hL2⟩ := hL1
  have hBl : (F.drop (F.length - p.right.toNat)).length = p.right.toNat := by rw [List.length_drop]; omega
  have hR : ((F.drop (F.length - p.right.toNat)).length : Int) = p.right := by rw [hBl]; omega
  have hAl : (F.take (F.length - p.right.toNat)).length = F.length - p.right.toNat := by rw [List.length_take]; omega
  have h := rd_gen (p := p) (b := decide (c < 0)) (A := F.take (F.length - p.right.toNat)) (B := F.drop (F.length - p.right.toNat)) (T := []) (ex := 0)
    (hD.of_sub fun d hd => List.mem_of_mem_take hd) (hD.of_sub fun d hd => List.mem_of_mem_drop hd) (.inl ⟨rfl, rfl⟩) h2 (List.length_pos_iff.mp (by omega))
    (h5.imp_right fun h => List.length_eq_zero_iff.mp (by omega)) (by omega) (by decide) (by omega) (by omega)
  rw [List.take_append_drop, hv, hR] at h
  exact h

-- piece 47
-- needs: 46
-- pure
/-- d_round, where it rounds nothing off -/
theorem drd_up {c e R : Int} (h : 0 ≤ e + R) : drd c e R = (c, e) := by unfold drd; rw [if_pos (by omega)]
theorem drd_down {c e R : Int} (h : e + R < 0) (h0 : c ≠ 0) (hz : rnd c.natAbs (-e - R) ≠ 0) : drd c e R = mad (if 0 < c then rnd c.natAbs (-e - R) else 0 - rnd c.natAbs (-e - R)) (0 - R) 9 := by
  unfold drd
  rw [show (0 - R - e) = -e - R by omega, if_neg (by omega), if_neg h0, if_neg hz, show e + (-e - R) = 0 - R by omega]
theorem drd_gone {c e R : Int} (h : e + R < 0) (h0 : c ≠ 0) (hz : rnd c.natAbs (-e - R) = 0) : drd c e R = (0, 0) := by
  unfold drd
  rw [show (0 - R - e) = -e - R by omega, if_neg (by omega), if_neg h0, if_pos hz]
/-- made, of t with noughts: read again at R places -/
theorem mad_again {u R : Int} (hu : 0 < u) (hf : figs u ≤ 12) (hx : ∃ (t : Int) (k : Nat), 0 < t ∧ figs t ≤ 9 ∧ u = t * 10 ^ k) :
    (mad u (0 - R) 9 = ((stripZ u (0 - R)).1, (stripZ u (0 - R)).2)) ∧ mad (0 - u) (0 - R) 9 = (-(stripZ u (0 - R)).1, (stripZ u (0 - R)).2) ∧ scl (stripZ u (0 - R)).1 (stripZ u (0 - R)).2 R = u ∧ 0 < (stripZ u (0 - R)).1 := by
  obtain ⟨t, k, ht, hft, rfl⟩ := hx
  have h := mad_pos (e := 0 - R) (d := 9) (k := k) ht hft (by decide)
  have hs := stripZ_mul (e := 0 - R) ht k
  obtain ⟨j, h1, h2, h3, h4⟩ := stripZ_spec (s := t * 10 ^ k) (e := 0 - R) hu
  refine ⟨by rw [h.1, hs], by rw [show 0 - t * 10 ^ k = -(t * 10 ^ k) by omega, h.2, hs], ?_, h4⟩
  unfold scl
  rw [h2, if_pos (by omega), show (0 - R + (j : Int) + R).toNat = j by omega]
  exact h1.symm
theorem plain_core {c0 e0 R : Int} (hv : ValOk c0 e0) (hR : 0 ≤ R) (hR4 : R ≤ 4) :
    mad (if decide (c0 < 0) = true then 0 - scl c0.natAbs e0 R else scl c0.natAbs e0 R) (0 - R) 9 = drd (mad c0 e0 9).1 (mad c0 e0 9).2 R ∧
    ((drd (mad c0 e0 9).1 (mad c0 e0 9).2 R).1 ≠ 0 → scl (drd (mad c0 e0 9).1 (mad c0 e0 9).2 R).1.natAbs (drd (mad c0 e0 9).1 (mad c0 e0 9).2 R).2 R = scl c0.natAbs e0 R ∧ ((drd (mad c0 e0 9).1 (mad c0 e0 9).2 R).1 < 0 ↔ c0 < 0)) := by
  obtain ⟨v1, v2, v3, v4, v5, v6⟩ := hv
  by_cases h0 : c0 = 0
  · subst h0
    rw [v4 rfl, mad_zero (by decide), if_neg (by decide), drd_up (by show 0 ≤ 0 + R; omega)]
    show mad (scl 0 0 R) (0 - R) 9 = (0, 0) ∧ _
    rw [scl_zero, mad_zero (by decide)]
    exact ⟨rfl, fun h => absurd rfl h⟩
  · have hs : 0 < (c0.natAbs : Int) := by omega
    have hf6 := figs_le (n := c0.natAbs) (k := 6) (by decide) v1
    have hfe := v5 h0
    rw [mad_num (by omega) h0]
    obtain ⟨k, h1, h2, h3, h4⟩ := stripZ_spec (s := c0.natAbs) (e := e0) hs
    have hfk := figs_mul h4 k
    rw [← h1] at hfk
    obtain ⟨hu0, huf⟩ := scl_fig (e := e0) (R := R) hs v1 hfe hR hR4
    generalize hs' : (stripZ c0.natAbs e0).1 = s' at h1 h3 h4 hfk
    generalize he' : (stripZ c0.natAbs e0).2 = e' at h2
    by_cases hup : 0 ≤ e' + R
    · rw [drd_up (by simpa using hup)]
      have hu : scl c0.natAbs e0 R = s' * 10 ^ (e' + R).toNat := by
        unfold scl
        by_cases he : 0 ≤ e0 + R
        · rw [if_pos he, h1, Int.mul_assoc, ← Int.pow_add]
          congr 2; omega
        · have hk : k = 0 := by
            rcases v6 with h | h
            · omega
            · rcases k with _ | k
              · rfl
              · exfalso
                rw [Int.pow_succ, ← Int.mul_assoc] at h1
                omega
          omega
      have hu1 : 0 < s' * 10 ^ (e' + R).toNat := Int.mul_pos h4 (by have := pow10_pos (e' + R).toNat; omega)
      have hm := mad_pos (e := 0 - R) (d := 9) (k := (e' + R).toNat) h4 (by omega) (by decide)
      have hst : stripZ s' (0 - R + ((e' + R).toNat : Int)) = (s', e') := by rw [stripZ_id h3]; congr 1; omega
      rw [hu]
      by_cases hn : c0 < 0
      · simp only [hn, decide_true, if_true]
        rw [show 0 - s' * 10 ^ (e' + R).toNat = -(s' * 10 ^ (e' + R).toNat) by omega, hm.2, hst]
        refine ⟨rfl, fun _ => ⟨?_, ⟨fun _ => trivial, fun _ => by show -s' < 0; omega⟩⟩⟩
        have : ((-s').natAbs : Int) = s' := by omega
        rw [this]; unfold scl; rw [if_pos hup]
      · simp only [hn, decide_false, Bool.false_eq_true, if_false]
        rw [hm.1, hst]
        refine ⟨rfl, fun _ => ⟨?_, ⟨fun h => absurd h (by show ¬ s' < 0; omega), fun h => h.elim⟩⟩⟩
        have : (s'.natAbs : Int) = s' := by omega
        rw [this]; unfold scl; rw [if_pos hup]
    · have hk : k = 0 := by
        rcases v6 with h | h
        · omega
        · rcases k with _ | k
          · rfl
          · exfalso
            rw [Int.pow_succ, ← Int.mul_assoc] at h1
            omega
      subst hk
      have h1' : (c0.natAbs : Int) = s' := by simpa using h1
      have he2 : e' = e0 := by omega
      rw [h1', ← he2]
      have hue : scl s' e' R = rnd s' (-e' - R) := by unfold scl; rw [if_neg hup]
      rw [h1', ← he2, hue] at hu0 huf
      rw [hue]
      have hna : ∀ b : Bool, (((if b = true then -s' else s').natAbs : Nat) : Int) = s' := by intro b; cases b <;> simp <;> omega
      by_cases hz : rnd s' (-e' - R) = 0
      · have hd : drd (if c0 < 0 then -s' else s') e' R = (0, 0) := drd_gone (by omega) (by split <;> omega) (by rw [show (((if c0 < 0 then -s' else s').natAbs : Nat) : Int) = s' by split <;> omega]; exact hz)
        rw [hd, hz]
        refine ⟨?_, fun h => absurd rfl h⟩
        rw [show (if decide (c0 < 0) = true then 0 - (0 : Int) else 0) = 0 by split <;> rfl, mad_zero (by decide)]
      · have hd : drd (if c0 < 0 then -s' else s') e' R = mad (if 0 < (if c0 < 0 then -s' else s') then rnd s' (-e' - R) else 0 - rnd s' (-e' - R)) (0 - R) 9 := by
          have hq : (((if c0 < 0 then -s' else s').natAbs : Nat) : Int) = s' := by split <;> omega
          have := drd_down (c := if c0 < 0 then -s' else s') (e := e') (R := R) (by omega) (by split <;> omega) (by rw [hq]; exact hz)
          rw [hq] at this
          exact this
        rw [hd]
        have hr6 := rnd_lt (n := s') (p := -e' - R) (k := 6) (by omega) (by omega)
        have h97 : (10 : Int) ^ 6 < 10 ^ 7 := by decide
        have hr7 : figs (rnd s' (-e' - R)) ≤ 7 := figs_le (k := 7) (by decide) (Int.lt_of_le_of_lt hr6 h97)
        have hag := mad_again (u := rnd s' (-e' - R)) (R := R) (by omega) (by omega) ⟨rnd s' (-e' - R), 0, by omega, by omega, by simp⟩
        by_cases hn : c0 < 0
        · simp only [hn, decide_true, if_true]
          rw [if_neg (by omega), hag.2.1]
          refine ⟨rfl, fun _ => ⟨?_, ⟨fun _ => trivial, fun _ => by have := hag.2.2.2; show -(stripZ _ _).1 < 0; omega⟩⟩⟩
          have : (((-(stripZ (rnd s' (-e' - R)) (0 - R)).1).natAbs : Nat) : Int) = (stripZ (rnd s' (-e' - R)) (0 - R)).1 := by have := hag.2.2.2; omega
          show scl (((-(stripZ (rnd s' (-e' - R)) (0 - R)).1).natAbs : Nat) : Int) _ R = _
          rw [this]; exact hag.2.2.1
        · simp only [hn, decide_false, Bool.false_eq_true, if_false]
          rw [if_pos h4, hag.1]
          refine ⟨rfl, fun _ => ⟨?_, ⟨fun h => absurd h (by have := hag.2.2.2; show ¬ (stripZ _ _).1 < 0; omega), fun h => h.elim⟩⟩⟩
          have : ((((stripZ (rnd s' (-e' - R)) (0 - R)).1).natAbs : Nat) : Int) = (stripZ (rnd s' (-e' - R)) (0 - R)).1 := by have := hag.2.2.2; omega
          show scl ((((stripZ (rnd s' (-e' - R)) (0 - R)).1).natAbs : Nat) : Int) _ R = _
          rw [this]; exact hag.2.2.1

-- piece 48
-- needs: 47
-- pure
theorem shw_same {p : Pic} {a b c e : Int} (h : p.expo = false) (hs : scl a.natAbs b p.right = scl c.natAbs e p.right) (hn : a < 0 ↔ c < 0) : shw p a b = shw p c e := by
  unfold shw
  rw [if_neg (by rw [h]; simp), if_neg (by rw [h]; simp), hs]
  congr 1
  exact decide_eq_decide.mpr hn
/-- a plain picture's text is read as the number rounded, and what was read shows the same text -/
theorem plain_law {p : Pic} {c0 e0 : Int} (hp : PlP p) (hv : ValOk c0 e0) :
    RdF (shw p c0 e0) (drd (mad c0 e0 9).1 (mad c0 e0 9).2 p.right).1 (drd (mad c0 e0 9).1 (mad c0 e0 9).2 p.right).2 ∧
    ((drd (mad c0 e0 9).1 (mad c0 e0 9).2 p.right).1 ≠ 0 → shw p (drd (mad c0 e0 9).1 (mad c0 e0 9).2 p.right).1 (drd (mad c0 e0 9).1 (mad c0 e0 9).2 p.right).2 = shw p c0 e0) := by
  have hR := hp.2.2.1
  have hR4 := hp.2.2.2.1
  have hc := plain_core hv hR hR4
  have hb : 0 ≤ scl c0.natAbs e0 p.right ∧ figs (scl c0.natAbs e0 p.right) ≤ 12 := by
    by_cases h0 : c0 = 0
    · subst h0
      rw [show (((0 : Int).natAbs : Nat) : Int) = 0 from rfl, scl_zero]
      exact ⟨by decide, by rw [figs_small (by decide)]; decide⟩
    · exact scl_fig (by omega) hv.1 (hv.2.2.2.2.1 h0) hR hR4
  have h := plain_txt (p := p) (c := c0) (e := e0) hp hb.1 hb.2
  rw [hc.1] at h
  refine ⟨h, fun ha => ?_⟩
  obtain ⟨h1, h2⟩ := hc.2 ha
  exact shw_same hp.1 h1 h2

-- piece 49
-- needs: 48
-- pure
/-- rounding that reaches ten times ten: one place more gives the same number -/
theorem rnd_carry {s : Int} {m k : Nat} (h0 : 0 ≤ s) (hm : 1 ≤ m) (hk : 1 ≤ k) (hs : s < 10 ^ (m + k)) (hf : figs s = (m + k : Nat)) (h : 10 ^ m ≤ rnd s k) : rnd s k = 10 ^ m ∧ rnd s ((k : Int) + 1) = 10 ^ (m - 1) := by
  obtain ⟨n, rfl⟩ : ∃ n, m = n + 1 := ⟨m - 1, by omega⟩
  have hP := pow10_lt k
  have hN := pow10_pos n
  have e1 : (10 : Int) ^ (n + 1 + k) = 10 ^ n * 10 ^ k * 10 := by rw [Int.pow_add, Int.pow_succ, Int.mul_assoc, Int.mul_comm 10, ← Int.mul_assoc]
  have e2 : (10 : Int) ^ (n + 1) = 10 ^ n * 10 := Int.pow_succ _ _
  have e3 : (10 : Int) ^ (k + 1) = 10 ^ k * 10 := Int.pow_succ _ _
  have hb1 := div_mul_bounds (n := s) k
  have hb2 := div_mul_bounds (n := s) (k + 1)
  have g1 : s / 10 ^ k < 10 ^ n * 10 := Int.ediv_lt_of_lt_mul hP (by rw [Int.mul_assoc, Int.mul_comm 10, ← Int.mul_assoc, ← e1]; exact hs)
  have hr1 : rnd s k = hlf s k := by
    rw [rnd_hlf (by omega) (by omega), Int.toNat_natCast]
  have hr2 : rnd s ((k : Int) + 1) = hlf s (k + 1) := by
    rw [rnd_hlf (by omega) (by omega), show ((k : Int) + 1).toNat = k + 1 by omega]
  rw [hr1, e2] at h
  have hq : s / 10 ^ k = 10 ^ n * 10 - 1 ∧ (10 ^ k < 2 * (s % 10 ^ k) ∨ (2 * (s % 10 ^ k) = 10 ^ k ∧ s / 10 ^ k % 2 = 1)) := by
    unfold hlf at h
    split at h
    · rename_i hc; exact ⟨by omega, hc⟩
    · omega
  have hdm := Int.mul_ediv_add_emod s (10 ^ k)
  have hmod1 := Int.emod_lt_of_pos s hP
  have hq2 : s / 10 ^ (k + 1) = 10 ^ n - 1 := by
    rw [e3, ← Int.ediv_ediv_of_nonneg (by omega), hq.1]
    omega
  have hdm2 := Int.mul_ediv_add_emod s (10 ^ (k + 1))
  rw [hq2] at hdm2
  rw [hq.1] at hdm
  have hx1 : (10 : Int) ^ k * (10 ^ n * 10 - 1) = 10 ^ n * 10 ^ k * 10 - 10 ^ k := by
    rw [Int.mul_sub, Int.mul_one, ← Int.mul_assoc, Int.mul_comm (10 ^ k) (10 ^ n)]
  have hx2 : (10 : Int) ^ (k + 1) * (10 ^ n - 1) = 10 ^ n * 10 ^ k * 10 - 10 ^ k * 10 := by
    rw [e3, Int.mul_sub, Int.mul_one, Int.mul_comm (10 ^ k * 10) (10 ^ n), ← Int.mul_assoc]
  rw [hx1] at hdm
  rw [hx2] at hdm2
  constructor
  · rw [hr1, e2]; unfold hlf; rw [if_pos hq.2]; omega
  · rw [hr2, show n + 1 - 1 = n by omega]; unfold hlf; rw [e3] at hdm2 ⊢; rw [if_pos (.inl (by omega)), ← e3, hq2]; omega
theorem scl_down {s e R : Int} (h : e + R < 0) : scl s e R = rnd s (-e - R) := by unfold scl; rw [if_neg (by omega)]
theorem scl_up {s e R : Int} (h : 0 ≤ e + R) : scl s e R = s * 10 ^ (e + R).toNat := by unfold scl; rw [if_pos h]
theorem pow_figs_le {n : Int} (h : 0 < n) : 10 ^ (figs n - 1).toNat ≤ n := by
  have hf := figs_pos n
  by_cases hq : n < 10 ^ (figs n - 1).toNat
  · by_cases h1 : figs n = 1
    · rw [h1] at hq; simp at hq; omega
    · have := figs_le (n := n) (k := (figs n - 1).toNat) (by omega) hq
      omega
  · omega
/-- the units and the lift of a picture with an exponent -/
theorem expo_core {s e pl r : Int} {many : Nat} (hs0 : 0 < s) (hs : s < 10 ^ 6) (hpl : 1 ≤ pl) (hpl4 : pl ≤ 4) (hr : 0 ≤ r) (hr3 : r ≤ 3) (hm : pl + r = many) :
    10 ^ (many - 1) ≤ wxU pl r s e ∧ wxU pl r s e < 10 ^ many ∧
    stripZ (wxU pl r s e) (wxL pl r s e - r) = (if figs s - many > 0 then stripZ (rnd s (figs s - many)) (e + (figs s - many)) else stripZ s e) ∧
    (wxL pl r s e = e + figs s - pl ∨ wxL pl r s e = e + figs s - pl + 1) := by
  have hf1 := figs_pos s
  have hf6 := figs_le (n := s) (k := 6) (by decide) hs
  have hlt := lt_pow_figs (n := s)
  have hmt : (pl + r).toNat = many := by omega
  unfold wxU wxL
  rw [hmt, show e - (e + figs s - pl) = pl - figs s by omega, show e - (e + figs s - pl + 1) = pl - figs s - 1 by omega]
  by_cases hc : figs s - many > 0
  · rw [if_pos hc]
    obtain ⟨k, hk⟩ : ∃ k : Nat, figs s - many = k := ⟨(figs s - many).toNat, by omega⟩
    have hk1 : 1 ≤ k := by omega
    have hm1 : 1 ≤ many := by omega
    rw [scl_down (e := pl - figs s) (R := r) (by omega), scl_down (e := pl - figs s - 1) (R := r) (by omega), show -(pl - figs s) - r = (k : Int) by omega, show -(pl - figs s - 1) - r = (k : Int) + 1 by omega, hk]
    by_cases hb : 10 ^ many ≤ rnd s k
    · have hcar := rnd_carry (s := s) (m := many) (k := k) (by omega) hm1 hk1 (by rw [show many + k = (figs s).toNat by omega]; exact hlt) (by omega) hb
      rw [if_pos hb, if_pos hb, hcar.1, hcar.2]
      have hp := pow10_pos (many - 1)
      have e1 : (10 : Int) ^ many = 10 ^ (many - 1) * 10 := by rw [← Int.pow_succ]; congr 1; omega
      have h1 := stripZ_mul (s := 1) (e := e + figs s - pl + 1 - r) (by decide) (many - 1)
      have h2 := stripZ_mul (s := 1) (e := e + (k : Int)) (by decide) many
      rw [Int.one_mul] at h1 h2
      refine ⟨by omega, by omega, ?_, .inr rfl⟩
      rw [h1, h2]
      congr 1
      omega
    · rw [if_neg hb, if_neg hb]
      have hpos : 10 ^ (many - 1) ≤ rnd s k := by
        have hlow := pow_figs_le (n := s) hs0
        have hge : 10 ^ (many - 1) ≤ s / 10 ^ k := (Int.le_ediv_iff_mul_le (pow10_lt k)).mpr (by rw [← Int.pow_add, show many - 1 + k = (figs s - 1).toNat by omega]; exact hlow)
        rw [rnd_hlf (by omega) (by omega), Int.toNat_natCast]
        unfold hlf; split <;> omega
      refine ⟨hpos, by omega, ?_, .inl rfl⟩
      congr 1
      omega
  · rw [if_neg hc]
    obtain ⟨k, hk⟩ : ∃ k : Nat, (many : Int) - figs s = k := ⟨(many - figs s).toNat, by omega⟩
    rw [scl_up (e := pl - figs s) (R := r) (by omega), show (pl - figs s + r).toNat = k by omega]
    have hp := pow10_pos k
    have hlt2 : s * 10 ^ k < 10 ^ many := by
      have e1 : (10 : Int) ^ many = 10 ^ (figs s).toNat * 10 ^ k := by rw [← Int.pow_add]; congr 1; omega
      rw [e1]
      exact Int.mul_lt_mul_of_pos_right hlt (by omega)
    rw [if_neg (by omega), if_neg (by omega)]
    have hlow2 : 10 ^ (many - 1) ≤ s * 10 ^ k := by
      have hlow := pow_figs_le (n := s) hs0
      have e1 : (10 : Int) ^ (many - 1) = 10 ^ (figs s - 1).toNat * 10 ^ k := by rw [← Int.pow_add]; congr 1; omega
      rw [e1]
      exact Int.mul_le_mul_of_nonneg_right hlow (by omega)
    refine ⟨hlow2, hlt2, ?_, .inl rfl⟩
    rw [stripZ_mul hs0]
    congr 1
    omega

-- piece 491
-- needs: 49
-- pure
theorem rnd_scale {s : Int} {j k : Nat} (h : 0 < s) (hj : 0 < j) : rnd (s * 10 ^ k) ((j + k : Nat) : Int) = rnd s j := by
  have hP := pow10_lt k
  have hJ := pow10_lt j
  have a1 : ¬ ((j + k : Nat) : Int) ≤ 0 := by omega
  have a2 : ¬ (j : Int) ≤ 0 := by omega
  unfold rnd
  rw [figs_mul h, if_neg a1, if_neg a2]
  by_cases hf : figs s + 1 < (j : Int)
  · rw [if_pos (show figs s + (k : Int) + 1 < ((j + k : Nat) : Int) by omega), if_pos hf]
  · rw [if_neg (show ¬ figs s + (k : Int) + 1 < ((j + k : Nat) : Int) by omega), if_neg hf, Int.toNat_natCast, Int.toNat_natCast]
    have e1 : (10 : Int) ^ (j + k) = 10 ^ k * 10 ^ j := by rw [Int.pow_add, Int.mul_comm]
    have e2 : s * 10 ^ k = 10 ^ k * s := Int.mul_comm _ _
    rw [e1, e2, Int.mul_ediv_mul_of_pos _ _ hP, Int.mul_emod_mul_of_pos _ _ hP]
    generalize (10 : Int) ^ k = P at hP
    generalize (10 : Int) ^ j = J at hJ
    have x1 : P * J < 2 * (P * (s % J)) ↔ J < 2 * (s % J) := by
      rw [show 2 * (P * (s % J)) = P * (2 * (s % J)) by rw [← Int.mul_assoc, Int.mul_comm 2 P, Int.mul_assoc]]
      exact Int.mul_lt_mul_left hP
    have x2 : 2 * (P * (s % J)) = P * J ↔ 2 * (s % J) = J := by
      rw [show 2 * (P * (s % J)) = P * (2 * (s % J)) by rw [← Int.mul_assoc, Int.mul_comm 2 P, Int.mul_assoc]]
      exact Int.mul_eq_mul_left_iff (by omega)
    simp only [x1, x2]

-- piece 492
-- needs: 491
-- pure
theorem stripZ_zero (e : Int) : stripZ 0 e = (0, e) := by rw [stripZ, dif_neg (by omega)]
theorem stripZ_sc {s e : Int} (h : 0 < s) (k : Nat) : stripZ (s * 10 ^ k) (e - k) = stripZ s e := by rw [stripZ_mul h]; congr 1; omega
/-- made again at fewer figures: as made at once -/
theorem mad_mad {c e d : Int} (hc : figs c.natAbs ≤ 9) (hd : 1 ≤ d) (hd9 : d ≤ 9) : mad (mad c e 9).1 (mad c e 9).2 d = mad c e d := by
  by_cases h0 : c = 0
  · subst h0
    rw [mad_zero (e := e) (d := 9) (by decide)]
    show mad 0 0 d = _
    rw [mad_zero hd, mad_zero hd]
  · rw [mad_num hc h0]
    obtain ⟨k, h1, h2, h3, h4⟩ := stripZ_spec (s := c.natAbs) (e := e) (by omega)
    generalize hs' : (stripZ c.natAbs e).1 = s' at h1 h3 h4
    generalize he' : (stripZ c.natAbs e).2 = e' at h2
    have hst : stripZ c.natAbs e = (s', e') := by rw [← hs', ← he']
    have hq : (((if c < 0 then -s' else s').natAbs : Nat) : Int) = s' := by split <;> omega
    have hneg : (if c < 0 then -s' else s') < 0 ↔ c < 0 := by
      split
      · rename_i h; exact ⟨fun _ => h, fun _ => by omega⟩
      · rename_i h; exact ⟨fun h' => by omega, fun h' => absurd h' h⟩
    have hfm := figs_mul h4 k
    unfold mad
    simp only [hq, hneg, h1, hfm]
    by_cases hA : figs s' - d > 0
    · rw [if_pos hA, if_pos (show figs s' + (k : Int) - d > 0 by omega)]
      obtain ⟨j, hj⟩ : ∃ j : Nat, figs s' - d = j := ⟨(figs s' - d).toNat, by omega⟩
      have hj2 : figs s' + (k : Int) - d = ((j + k : Nat) : Int) := by omega
      rw [hj, hj2, rnd_scale h4 (by omega), h2]
      rw [show e + (k : Int) + (j : Int) = e + ((j + k : Nat) : Int) by omega]
    · rw [if_neg hA, if_neg (show ¬ s' = 0 by omega), stripZ_id h3]
      by_cases hB : figs s' + (k : Int) - d > 0
      · rw [if_pos hB]
        obtain ⟨j, hj⟩ : ∃ j : Nat, figs s' + (k : Int) - d = j := ⟨(figs s' + (k : Int) - d).toNat, by omega⟩
        have hp := pow10_pos (k - j)
        have hpos : 0 < s' * 10 ^ (k - j) := Int.mul_pos h4 (by omega)
        rw [hj, rnd_mul h4 (by omega) (by omega), if_neg (show ¬ s' * 10 ^ (k - j) = 0 by omega), stripZ_mul h4, stripZ_id h3]
        rw [h2, show e + (j : Int) + ((k - j : Nat) : Int) = e + (k : Int) by omega]
      · have hp := pow10_pos k
        have hpos : 0 < s' * 10 ^ k := Int.mul_pos h4 (by omega)
        rw [if_neg hB, if_neg (show ¬ s' * 10 ^ k = 0 by omega), stripZ_mul h4, stripZ_id h3, h2]
/-- a picture with an exponent, as the law draws it -/
def ExP (p : Pic) : Prop := ExpoPic p ∧ p.expo = true ∧ 2 ≤ p.left ∧ p.left ≤ 5 ∧ 0 ≤ p.right ∧ p.right ≤ 3 ∧ (p.point = true ∨ p.right = 0)
theorem digs_rep (n : Nat) : Digs (List.replicate n 48) := fun d hd => by rw [List.eq_of_mem_replicate hd]; decide
theorem foldF_rep (n : Nat) : foldF (List.replicate n 48) 0 = 0 := by
  induction n with
  | zero => rfl
  | succ n ih => exact ih
theorem ext_lift {L : Int} (h : -50 ≤ L) (h2 : L ≤ 50) : ExT ([69] ++ (if L < 0 then [45] else [43]) ++ padL L.natAbs 2 []) L := by
  refine .inr ⟨if L < 0 then 45 else 43, padL L.natAbs 2 [], ?_, ?_, ?_, padL_digs Digs.nil, ?_, ?_⟩
  · split <;> rfl
  · split
    · exact .inr rfl
    · exact .inl rfl
  · intro h0
    have := padL_length (n := L.natAbs) (k := 2) (f := []) (by omega)
    rw [h0] at this
    simp only [List.length_nil] at this
    omega
  · rw [padL_nil_val (by omega)]; omega
  · rw [padL_nil_val (by omega)]
    by_cases hn : L < 0
    · rw [if_pos hn, if_pos rfl]; omega
    · rw [if_neg hn, if_neg (by decide)]; omega
theorem padL2_len {L : Int} (h : -50 ≤ L) (h2 : L ≤ 50) : (padL L.natAbs 2 []).length ≤ 2 := by
  rw [padL_length (by omega)]
  have := figs_le (n := L.natAbs) (k := 2) (by decide) (by omega)
  simp only [List.length_nil]
  split <;> omega
theorem expP_shw {p : Pic} (hp : ExP p) (c e : Int) : shw p c e = nbO p (decide (c < 0)) (wx1 (p.left - 1) p.right c.natAbs e) (wx2 (p.left - 1) p.right c.natAbs e) (wx3 (p.left - 1) p.right c.natAbs e) := by
  obtain ⟨h1, h2, h3, h4, h5, h6, h7⟩ := hp
  rw [show shw p c e = _ from if_pos h2, show max (p.left - 1) 0 = p.left - 1 by omega]
/-- the numbers of a picture with an exponent that was read again -/
theorem expo_again {t b pl r : Int} {U L : Int} {many : Nat} (hpl : 1 ≤ pl) (hr : 0 ≤ r) (hm : pl + r = many) (hU1 : 10 ^ (many - 1) ≤ U) (hU2 : U < 10 ^ many) (ht : stripZ U (L - r) = (t, b)) :
    wxU pl r t b = U ∧ wxL pl r t b = L := by
  have hp1 := pow10_pos (many - 1)
  obtain ⟨j, h1, h2, h3, h4⟩ := stripZ_spec (s := U) (e := L - r) (by omega)
  rw [ht] at h1 h2 h3 h4
  simp only at h1 h2 h3 h4
  have hfU : figs U = many := by
    have := figs_of (n := U) (k := many - 1) hU1 (by rw [show many - 1 + 1 = many by omega]; exact hU2)
    omega
  have hfm := figs_mul h4 j
  rw [← h1, hfU] at hfm
  have hmt : (pl + r).toNat = many := by omega
  have hsc : scl t (pl - figs t) r = U := by
    rw [scl_up (by omega), show (pl - figs t + r).toNat = j by omega, ← h1]
  unfold wxU wxL
  rw [hmt, show b - (b + figs t - pl) = pl - figs t by omega, hsc, if_neg (by omega), if_neg (by omega)]
  exact ⟨rfl, by omega⟩
theorem expo_law {p : Pic} {c0 e0 : Int} (hp : ExP p) (hv : ValOk c0 e0) :
    RdF (shw p c0 e0) (mad (mad c0 e0 9).1 (mad c0 e0 9).2 (p.left - 1 + p.right)).1 (mad (mad c0 e0 9).1 (mad c0 e0 9).2 (p.left - 1 + p.right)).2 ∧
    ((mad (mad c0 e0 9).1 (mad c0 e0 9).2 (p.left - 1 + p.right)).1 ≠ 0 →
      shw p (mad (mad c0 e0 9).1 (mad c0 e0 9).2 (p.left - 1 + p.right)).1 (mad (mad c0 e0 9).1 (mad c0 e0 9).2 (p.left - 1 + p.right)).2 = shw p c0 e0) := by
  obtain ⟨v1, v2, v3, v4, v5, v6⟩ := hv
  have hP := hp
  obtain ⟨h1, h2, h3, h4, h5, h6, h7⟩ := hp
  have hf6 := figs_le (n := c0.natAbs) (k := 6) (by decide) v1
  obtain ⟨many, hm⟩ : ∃ n : Nat, p.left - 1 + p.right = n := ⟨(p.left - 1 + p.right).toNat, by omega⟩
  rw [mad_mad (by omega) (by omega) (by omega), hm]
  have hsg : SignOk p := by left; rw [h1]
  by_cases h0 : c0 = 0
  · subst h0
    rw [v4 rfl, mad_zero (by omega)]
    refine ⟨?_, fun h => absurd rfl h⟩
    rw [expP_shw hP]
    have hA : wx1 (p.left - 1) p.right ((0 : Int).natAbs : Nat) 0 = List.replicate (p.left - 1).toNat 48 := if_pos rfl
    have hB : wx2 (p.left - 1) p.right ((0 : Int).natAbs : Nat) 0 = List.replicate p.right.toNat 48 := if_pos rfl
    have hT : wx3 (p.left - 1) p.right ((0 : Int).natAbs : Nat) 0 = [69, 43, 48, 48] := if_pos rfl
    rw [hA, hB, hT]
    have hl : ((List.replicate p.right.toNat 48).length : Int) = p.right := by rw [List.length_replicate]; omega
    have h := rd_gen (p := p) (b := decide ((0 : Int) < 0)) (A := List.replicate (p.left - 1).toNat 48) (B := List.replicate p.right.toNat 48) (T := [69, 43, 48, 48]) (ex := 0) (digs_rep _) (digs_rep _)
      (.inr ⟨43, [48, 48], rfl, .inl rfl, by simp, by intro d hd; simp at hd; omega, by decide, by decide⟩) hsg (by intro h; have := congrArg List.length h; rw [List.length_replicate] at this; simp only [List.length_nil] at this; omega)
      (h7.imp_right fun h => by rw [h]; rfl) (by simp only [List.length_replicate]; omega) (by decide) (by omega) (by omega)
    rw [← List.replicate_append_replicate.symm, foldF_rep] at h
    rw [show (if decide ((0 : Int) < 0) = true then 0 - (0 : Int) else 0) = 0 by split <;> rfl, mad_zero (by decide)] at h
    exact h
  · have hs : 0 < (c0.natAbs : Int) := by omega
    have hcore := expo_core (s := c0.natAbs) (e := e0) (pl := p.left - 1) (r := p.right) (many := many) hs v1 (by omega) (by omega) h5 h6 hm
    obtain ⟨g1, g2, g3, g4⟩ := hcore
    have hf1 := figs_pos c0.natAbs
    have hfe := v5 h0
    have hp1 := pow10_pos (many - 1)
    generalize hU : wxU (p.left - 1) p.right c0.natAbs e0 = U at g1 g2 g3
    generalize hL : wxL (p.left - 1) p.right c0.natAbs e0 = L at g3 g4
    have hL1 : -50 ≤ L ∧ L ≤ 50 := by rcases g4 with g4 | g4 <;> omega
    have hne : ¬ (c0.natAbs : Int) = 0 := by omega
    have hA : wx1 (p.left - 1) p.right c0.natAbs e0 = (padL U many []).take (p.left - 1).toNat := by unfold wx1; rw [if_neg hne, hU, hm]
    have hB : wx2 (p.left - 1) p.right c0.natAbs e0 = (padL U many []).drop (p.left - 1).toNat := by unfold wx2; rw [if_neg hne, hU, hm]
    have hT : wx3 (p.left - 1) p.right c0.natAbs e0 = [69] ++ (if L < 0 then [45] else [43]) ++ padL L.natAbs 2 [] := by unfold wx3; rw [if_neg hne, hL]
    have hfU : figs U = many := by
      have := figs_of (n := U) (k := many - 1) g1 (by rw [show many - 1 + 1 = many by omega]; exact g2)
      omega
    have hFl : (padL U many []).length = many := by
      rw [padL_length (by omega), hfU, if_neg (by omega)]; simp only [List.length_nil]; omega
    have hD : Digs (padL U many []) := padL_digs Digs.nil
    have hval := padL_nil_val (n := U) (k := many) (by omega)
    generalize padL U many [] = F at hA hB hFl hD hval
    have hBl : (F.drop (p.left - 1).toNat).length = p.right.toNat := by rw [List.length_drop]; omega
    have hR : ((F.drop (p.left - 1).toNat).length : Int) = p.right := by rw [hBl]; omega
    have hAl : (F.take (p.left - 1).toNat).length = (p.left - 1).toNat := by rw [List.length_take]; omega
    have h := rd_gen (p := p) (b := decide (c0 < 0)) (A := F.take (p.left - 1).toNat) (B := F.drop (p.left - 1).toNat) (T := [69] ++ (if L < 0 then [45] else [43]) ++ padL L.natAbs 2 []) (ex := L)
      (hD.of_sub fun d hd => List.mem_of_mem_take hd) (hD.of_sub fun d hd => List.mem_of_mem_drop hd) (ext_lift hL1.1 hL1.2) hsg (List.length_pos_iff.mp (by omega))
      (h7.imp_right fun h => List.length_eq_zero_iff.mp (by omega)) (by omega)
      (by simp only [List.length_append]; have := padL2_len hL1.1 hL1.2; have h9 : (if L < 0 then [45] else [43] : List Nat).length = 1 := by split <;> rfl
          rw [h9]; simp only [List.length_cons, List.length_nil]; omega) (by omega) (by omega)
    rw [List.take_append_drop, hval, hR] at h
    -- what is read
    obtain ⟨j, k1, k2, k3, k4⟩ := stripZ_spec (s := U) (e := L - p.right) (by omega)
    have hUb : U < 10 ^ 7 := Int.lt_of_lt_of_le g2 (pow10_le (by omega))
    have hf7 := figs_le (n := U) (k := 7) (by decide) hUb
    have hmadU : mad (if decide (c0 < 0) = true then 0 - U else U) (L - p.right) 9 = (if c0 < 0 then -(stripZ U (L - p.right)).1 else (stripZ U (L - p.right)).1, (stripZ U (L - p.right)).2) := by
      by_cases hn : c0 < 0
      · rw [if_pos (by simpa using hn), if_pos hn]
        have e1 : (((0 - U).natAbs : Nat) : Int) = U := by omega
        rw [mad_num (by rw [e1]; omega) (by omega), if_pos (by omega), e1]
      · rw [if_neg (by simpa using hn), if_neg hn]
        have e1 : ((U.natAbs : Nat) : Int) = U := by omega
        rw [mad_num (by rw [e1]; omega) (by omega), if_neg (by omega), e1]
    have hmad0 : mad c0 e0 many = (if c0 < 0 then -(stripZ U (L - p.right)).1 else (stripZ U (L - p.right)).1, (stripZ U (L - p.right)).2) := by
      unfold mad
      by_cases hc : figs c0.natAbs - many > 0
      · rw [if_pos hc] at g3 ⊢
        by_cases hz : rnd c0.natAbs (figs c0.natAbs - many) = 0
        · exfalso
          rw [hz, stripZ_zero] at g3
          rw [g3] at k4
          exact absurd k4 (Int.lt_irrefl 0)
        · rw [if_neg hz, g3]
      · rw [if_neg hc] at g3 ⊢
        rw [if_neg hne, g3]
    rw [hmadU] at h
    rw [hmad0]
    refine ⟨by rw [expP_shw hP, hA, hB, hT]; exact h, fun _ => ?_⟩
    have hag := expo_again (t := (stripZ U (L - p.right)).1) (b := (stripZ U (L - p.right)).2) (pl := p.left - 1) (r := p.right) (U := U) (L := L) (many := many) (by omega) h5 hm g1 g2 rfl
    simp only
    generalize (stripZ U (L - p.right)).1 = t at k4 hag
    generalize (stripZ U (L - p.right)).2 = b at hag
    rw [expP_shw hP, expP_shw hP]
    have hq : (((if c0 < 0 then -t else t).natAbs : Nat) : Int) = t := by split <;> omega
    have hneg : (if c0 < 0 then -t else t) < 0 ↔ c0 < 0 := by
      split
      · rename_i h; exact ⟨fun _ => h, fun _ => by omega⟩
      · rename_i h; exact ⟨fun h' => by omega, fun h' => absurd h' h⟩
    rw [hq, decide_eq_decide.mpr hneg]
    have ht0 : ¬ t = 0 := by omega
    congr 1
    · unfold wx1; rw [if_neg hne, if_neg ht0, hag.1, hU]
    · unfold wx2; rw [if_neg hne, if_neg ht0, hag.1, hU]
    · unfold wx3; rw [if_neg hne, if_neg ht0, hag.2, hL]

-- piece 493
-- needs: 492
-- pure
theorem lex_app : ∀ {a b x y : List Nat}, a.length = b.length → a < b → a ++ x < b ++ y
  | [], [], _, _, _, h => absurd h (List.not_lt_nil _)
  | [], _ :: _, _, _, hl, _ => by simp at hl
  | _ :: _, [], _, _, hl, _ => by simp at hl
  | c :: r, d :: q, x, y, hl, h => by
    rw [List.cons_append, List.cons_append, List.cons_lt_cons_iff]
    rcases List.cons_lt_cons_iff.mp h with h | ⟨h, h'⟩
    · exact .inl h
    · exact .inr ⟨h, lex_app (by simpa using hl) h'⟩
theorem lex_split : ∀ {a b x y : List Nat}, a.length = b.length → a ++ x < b ++ y → a < b ∨ (a = b ∧ x < y)
  | [], [], _, _, _, h => .inr ⟨rfl, h⟩
  | [], _ :: _, _, _, hl, _ => by simp at hl
  | _ :: _, [], _, _, hl, _ => by simp at hl
  | c :: r, d :: q, x, y, hl, h => by
    rw [List.cons_append, List.cons_append, List.cons_lt_cons_iff] at h
    rcases h with h | ⟨h, h'⟩
    · exact .inl (List.cons_lt_cons_iff.mpr (.inl h))
    · rcases lex_split (by simpa using hl) h' with h2 | ⟨h2, h3⟩
      · exact .inl (List.cons_lt_cons_iff.mpr (.inr ⟨h, h2⟩))
      · exact .inr ⟨by rw [h, h2], h3⟩
theorem lex_cut {a b : List Nat} {n : Nat} (hl : a.length = b.length) (h : a < b) : a.take n < b.take n ∨ (a.take n = b.take n ∧ a.drop n < b.drop n) := by
  refine lex_split (by simp only [List.length_take, hl]) ?_
  rw [List.take_append_drop, List.take_append_drop]; exact h
theorem digs_lex : ∀ {a b : List Nat}, Digs a → Digs b → a.length = b.length → foldF a 0 < foldF b 0 → a < b
  | [], [], _, _, _, h => by exact absurd h (Int.lt_irrefl _)
  | [], _ :: _, _, _, hl, _ => by simp at hl
  | _ :: _, [], _, _, hl, _ => by simp at hl
  | c :: r, d :: q, hA, hB, hl, h => by
    have hc := hA c List.mem_cons_self
    have hd := hB d List.mem_cons_self
    have hr : Digs r := hA.of_sub fun e he => List.mem_cons_of_mem _ he
    have hq : Digs q := hB.of_sub fun e he => List.mem_cons_of_mem _ he
    have hl' : r.length = q.length := by simpa using hl
    have h' : foldF r (10 * 0 + c - 48) < foldF q (10 * 0 + d - 48) := h
    rw [foldF_lin, foldF_lin q, hl'] at h'
    have b1 := foldF_bd hr
    have b2 := foldF_bd hq
    rw [hl'] at b1
    have hp := pow10_pos q.length
    rw [List.cons_lt_cons_iff]
    by_cases h1 : c < d
    · exact .inl h1
    · by_cases h2 : c = d
      · subst h2
        exact .inr ⟨rfl, digs_lex hr hq hl' (by omega)⟩
      · exfalso
        have h3 : (10 * 0 + (d : Int) - 48 + 1) * 10 ^ q.length ≤ (10 * 0 + (c : Int) - 48) * 10 ^ q.length := Int.mul_le_mul_of_nonneg_right (by omega) (by omega)
        rw [Int.add_mul, Int.one_mul] at h3
        omega
theorem grpL_lt {x y f g : List Nat} (hl : x.length = y.length) (hf : f.length = g.length) (h : x.take (x.length - 3) < y.take (y.length - 3) ∨ (x.take (x.length - 3) = y.take (y.length - 3) ∧ f < g)) : grpL x f < grpL y g := by
  by_cases hn : 3 < x.length
  · rw [grpL_go hn, grpL_go (show 3 < y.length by omega)]
    have e1 : (x.take (x.length - 3)).length = x.length - 3 := by rw [List.length_take]; omega
    have e2 : (y.take (y.length - 3)).length = x.length - 3 := by rw [List.length_take]; omega
    refine grpL_lt (by rw [e1, e2]) (by simp only [List.length_append, List.length_drop, List.length_cons, e1, e2, hf]) ?_
    rw [e1, e2]
    rcases h with h | ⟨h, h'⟩
    · rcases lex_cut (n := x.length - 3 - 3) (by rw [e1, e2]) h with h2 | ⟨h2, h3⟩
      · exact .inl h2
      · exact .inr ⟨h2, lex_app (by rw [List.length_drop, List.length_drop, e1, e2]) h3⟩
    · rw [h]
      exact .inr ⟨rfl, List.append_left_lt (List.cons_lt_cons_iff.mpr (.inr ⟨rfl, h'⟩))⟩
  · rw [grpL_end hn, grpL_end (show ¬ 3 < y.length by omega)]
    rcases h with h | h
    · rw [show x.length - 3 = 0 by omega, show y.length - 3 = 0 by omega] at h
      exact absurd h (List.not_lt_nil _)
    · exact h.2
termination_by x.length
decreasing_by simp only [List.length_take]; omega
theorem grp_lt {x y : List Nat} (hl : x.length = y.length) (h : x < y) : grp x < grp y := by
  unfold grp
  refine grpL_lt hl (by rw [List.length_drop, List.length_drop, hl]) ?_
  rw [← hl]
  exact lex_cut hl h
theorem grpL_len2 {x f : List Nat} (h0 : 0 < x.length) : (grpL x f).length = f.length + (x.length - 3) + (x.length - 1) / 3 := by
  by_cases hn : 3 < x.length
  · have e1 : (x.take (x.length - 3)).length = x.length - 3 := by rw [List.length_take]; omega
    rw [grpL_go hn, grpL_len2 (by omega)]
    simp only [List.length_append, List.length_drop, List.length_cons, e1]
    omega
  · rw [grpL_end hn]; omega
termination_by x.length
decreasing_by simp only [List.length_take]; omega
theorem grp_len2 {x : List Nat} (h0 : 0 < x.length) : (grp x).length = x.length + (x.length - 1) / 3 := by
  unfold grp
  rw [grpL_len2 h0, List.length_drop]; omega
theorem grpL_head {x f : List Nat} : (grpL x f).head? = if 3 < x.length then x.head? else f.head? := by
  by_cases hn : 3 < x.length
  · have e1 : (x.take (x.length - 3)).length = x.length - 3 := by rw [List.length_take]; omega
    have e2 : (x.take (x.length - 3)).head? = x.head? := by
      rcases x with _ | ⟨c, r⟩
      · simp at hn
      · rw [show (c :: r).length - 3 = ((c :: r).length - 4) + 1 by omega]; rfl
    rw [grpL_go hn, grpL_head, if_pos hn]
    split
    · exact e2
    · rename_i h2
      rw [e1] at h2 ⊢
      rw [show x.length - 3 - 3 = 0 by omega, List.drop_zero, List.head?_append, e2]
      rcases x with _ | ⟨c, r⟩
      · simp at hn
      · rfl
  · rw [grpL_end hn, if_neg hn]
termination_by x.length
decreasing_by simp only [List.length_take]; omega
theorem grp_head (x : List Nat) : (grp x).head? = x.head? := by
  unfold grp
  rw [grpL_head]
  split
  · rfl
  · rename_i h
    rw [show x.length - 3 = 0 by omega, List.drop_zero]
theorem nbG_lt2 {p : Pic} {x y : List Nat} (hl : x.length = y.length) (h : x < y) : nbG p x < nbG p y := by
  unfold nbG; split
  · exact grp_lt hl h
  · exact h
def gl (p : Pic) (n : Nat) : Nat := if p.comma = true ∧ p.expo = false then n + (n - 1) / 3 else n
theorem nbG_len2 {p : Pic} {x : List Nat} (h0 : 0 < x.length) : (nbG p x).length = gl p x.length := by
  unfold nbG gl; split
  · exact grp_len2 h0
  · rfl
theorem nbG_head {p : Pic} {x : List Nat} : (nbG p x).head? = x.head? := by
  unfold nbG; split
  · exact grp_head x
  · rfl
theorem gl_lt {p : Pic} {m n : Nat} (h : m < n) : gl p m < gl p n := by unfold gl; split <;> omega
theorem gl_le {p : Pic} {n : Nat} (h : n ≤ 8) : gl p n ≤ 10 := by unfold gl; split <;> omega
/-- a wide picture -/
def WdP (p : Pic) : Prop := p.expo = false ∧ p.sign = PySem.Str.ofString "" ∧ p.dollar = false ∧ p.point = true ∧ 12 ≤ p.left ∧ p.left ≤ 20 ∧ 0 ≤ p.right ∧ p.right ≤ 2
def fillC (p : Pic) : Nat := if p.star = true then 42 else 32
def fgs (p : Pic) (u : Int) : List Nat := padL u (p.right + 1) []
def fgA (p : Pic) (u : Int) : List Nat := (fgs p u).take ((fgs p u).length - p.right.toNat)
def fgB (p : Pic) (u : Int) : List Nat := (fgs p u).drop ((fgs p u).length - p.right.toNat)
def wdT (p : Pic) (u : Int) : List Nat := List.replicate (p.left.toNat - gl p (fgA p u).length) (fillC p) ++ (nbG p (fgA p u) ++ 46 :: fgB p u)
theorem fgs_len {p : Pic} {u : Int} (hR : 0 ≤ p.right) (hu : 0 ≤ u) (hf : figs u ≤ 8 + p.right) : 1 ≤ (fgA p u).length ∧ (fgA p u).length ≤ 8 ∧ (fgs p u).length = (fgA p u).length + p.right.toNat := by
  have hl := padL_length (n := u) (k := p.right + 1) (f := []) hu
  simp only [List.length_nil] at hl
  have h1 := figs_pos u
  have h2 : (fgs p u).length = max (if u = 0 then 0 else (figs u).toNat) (p.right + 1).toNat := by unfold fgs; rw [hl]; omega
  have h3 : (fgA p u).length = (fgs p u).length - p.right.toNat := by unfold fgA; rw [List.length_take]; omega
  rw [h3, h2]
  split <;> omega
theorem fgs_mono {p : Pic} {u v : Int} (hu : 0 ≤ u) (h : u ≤ v) : (fgs p u).length ≤ (fgs p v).length := by
  unfold fgs
  rw [padL_length hu, padL_length (by omega)]
  have := figs_mono h
  have h1 := figs_pos u
  simp only [List.length_nil]
  (repeat' split) <;> omega
theorem wide_form {p : Pic} {s e : Int} (hp : WdP p) (hs : 0 ≤ s) (hu : 0 ≤ scl s e p.right) (hf : figs (scl s e p.right) ≤ 8 + p.right) : shw p s e = wdT p (scl s e p.right) := by
  obtain ⟨h1, h2, h3, h4, h5, h6, h7, h8⟩ := hp
  have hq : ((s.natAbs : Nat) : Int) = s := by omega
  rw [show shw p s e = _ from if_neg (by rw [h1]; simp), hq]
  have hb : decide (s < 0) = false := decide_eq_false (by omega)
  rw [hb]
  generalize scl s e p.right = u at hu hf
  have hl := fgs_len h7 hu hf
  show nbO p false (fgA p u) (fgB p u) [] = _
  have hG := nbG_len2 (p := p) (x := fgA p u) (by omega)
  have hg := gl_le (p := p) hl.2.1
  have e1 : nbLd p false = [] := by
    unfold nbLd leadS
    rw [h2, h3, eq_ee, eq_e0, if_neg (by decide), if_pos rfl, if_neg (by decide), if_neg (by decide)]; rfl
  have e2 : nbW p = p.left := by unfold nbW; rw [h2, eq_ee, if_neg (by decide)]; omega
  have e3 : nbA p false (fgA p u) (fgB p u) = nbG p (fgA p u) := by
    unfold nbA
    rw [e1, e2, List.nil_append, hG, if_neg fun h => by omega]
  have e4 : nbR p false (fgA p u) (fgB p u) = p.left - (gl p (fgA p u).length : Int) := by
    unfold nbR; rw [e1, e2, e3, List.nil_append, hG]
  have e5 : tailS p false = [] := by
    unfold tailS; rw [h2, eq_pe, if_neg (by decide)]
  unfold nbO nbT
  rw [e4, if_neg (by omega), e1, e3, e5, h4]
  unfold wdT fillC
  rw [show (p.left - (gl p (fgA p u).length : Int)).toNat = p.left.toNat - gl p (fgA p u).length by omega]
  simp
theorem wdT_lt {p : Pic} {u v : Int} (hp : WdP p) (hu : 0 ≤ u) (huv : u < v) (hfv : figs v ≤ 8 + p.right) : wdT p u < wdT p v := by
  obtain ⟨h1, h2, h3, h4, h5, h6, h7, h8⟩ := hp
  have hfu : figs u ≤ 8 + p.right := by have := figs_mono (a := u) (b := v) (by omega); omega
  have lu := fgs_len h7 hu hfu
  have lv := fgs_len h7 (by omega : 0 ≤ v) hfv
  have hm := fgs_mono (p := p) hu (by omega : u ≤ v)
  have du : Digs (fgs p u) := padL_digs Digs.nil
  have dv : Digs (fgs p v) := padL_digs Digs.nil
  have gv := gl_le (p := p) lv.2.1
  unfold wdT
  by_cases hl : (fgA p u).length = (fgA p v).length
  · rw [hl]
    refine List.append_left_lt ?_
    have hlt : fgs p u < fgs p v := digs_lex du dv (by omega) (by unfold fgs; rw [padL_nil_val hu, padL_nil_val (by omega)]; exact huv)
    have hc := lex_cut (n := (fgs p u).length - p.right.toNat) (by omega) hlt
    have hc' : fgA p u < fgA p v ∨ (fgA p u = fgA p v ∧ fgB p u < fgB p v) := by
      have hll : (fgs p u).length = (fgs p v).length := by omega
      unfold fgA fgB
      rw [← hll]; exact hc
    rcases hc' with hc' | ⟨hc1, hc2⟩
    · exact lex_app (by rw [nbG_len2 (by omega), nbG_len2 (by omega), hl]) (nbG_lt2 hl hc')
    · rw [hc1]
      exact List.append_left_lt (List.cons_lt_cons_iff.mpr (.inr ⟨rfl, hc2⟩))
  · have hg : gl p (fgA p u).length < gl p (fgA p v).length := gl_lt (by omega)
    obtain ⟨k, hk⟩ : ∃ k, p.left.toNat - gl p (fgA p u).length = (p.left.toNat - gl p (fgA p v).length) + (k + 1) := ⟨gl p (fgA p v).length - gl p (fgA p u).length - 1, by omega⟩
    rw [hk, ← List.replicate_append_replicate, List.append_assoc]
    refine List.append_left_lt ?_
    have hh := nbG_head (p := p) (x := fgA p v)
    rcases hA : fgA p v with _ | ⟨d, r⟩
    · rw [hA] at lv; simp at lv
    · rw [hA] at hh
      rcases hG : nbG p (d :: r) with _ | ⟨d', r'⟩
      · rw [hG] at hh; simp at hh
      · rw [hG] at hh
        have hdd : d' = d := by simpa using hh
        have hd : 48 ≤ d := by
          have : d ∈ fgs p v := List.mem_of_mem_take (by show d ∈ fgA p v; rw [hA]; exact List.mem_cons_self)
          exact (dv d this).1
        rw [List.replicate_succ, List.cons_append, List.cons_append, List.cons_lt_cons_iff]
        left
        unfold fillC
        split <;> omega
theorem wdT_iff {p : Pic} {u v : Int} (hp : WdP p) (hu : 0 ≤ u) (hv : 0 ≤ v) (hfu : figs u ≤ 8 + p.right) (hfv : figs v ≤ 8 + p.right) : wdT p u < wdT p v ↔ u < v := by
  refine ⟨fun h => ?_, fun h => wdT_lt hp hu h hfv⟩
  by_cases h1 : u < v
  · exact h1
  · exfalso
    by_cases h2 : u = v
    · subst h2; exact List.lt_irrefl _ h
    · exact List.lt_asymm h (wdT_lt hp hv (by omega) hfu)
/-- what is read of a wide picture's text -/
theorem rd_units {s e R : Int} (hs0 : 0 ≤ s) (hs : s < 10 ^ 6) (he : s ≠ 0 → figs s + e ≤ 8) (hR : 0 ≤ R) (hR4 : R ≤ 4) :
    0 ≤ scl s e R ∧ figs (scl s e R) ≤ 8 + R ∧ ∃ (a b : Int) (j : Nat), mad (scl s e R) (0 - R) 9 = (a, b) ∧ b = 0 - R + j ∧ a * 10 ^ j = scl s e R ∧ 0 ≤ a ∧ a < 10 ^ 12 ∧ b ≤ 20 := by
  by_cases h0 : s = 0
  · subst h0
    rw [scl_zero, mad_zero (by decide), figs_small (by decide)]
    exact ⟨by decide, by omega, 0, 0, R.toNat, rfl, by omega, by rw [Int.zero_mul], by decide, by decide, by decide⟩
  · have hpos : 0 < s := by omega
    have hfe := he h0
    have hf6 := figs_le (n := s) (k := 6) (by decide) hs
    by_cases hup : 0 ≤ e + R
    · rw [scl_up hup]
      have hp := pow10_pos (e + R).toNat
      have hu : 0 < s * 10 ^ (e + R).toNat := Int.mul_pos hpos (by omega)
      have hfu := figs_mul hpos (e + R).toNat
      have hag := mad_again (u := s * 10 ^ (e + R).toNat) (R := R) hu (by omega) ⟨s, (e + R).toNat, hpos, by omega, rfl⟩
      obtain ⟨j, k1, k2, k3, k4⟩ := stripZ_spec (s := s * 10 ^ (e + R).toNat) (e := 0 - R) hu
      have hlt := lt_pow_figs (n := s * 10 ^ (e + R).toNat)
      have hle : (10 : Int) ^ (figs (s * 10 ^ (e + R).toNat)).toNat ≤ 10 ^ 12 := pow10_le (by omega)
      have hfj := figs_mul k4 j
      rw [← k1] at hfj
      have hf1 := figs_pos (stripZ (s * 10 ^ (e + R).toNat) (0 - R)).1
      have hj := pow10_pos j
      have hla : (stripZ (s * 10 ^ (e + R).toNat) (0 - R)).1 * 1 ≤ (stripZ (s * 10 ^ (e + R).toNat) (0 - R)).1 * 10 ^ j := Int.mul_le_mul_of_nonneg_left hj (by omega)
      rw [← k1] at hla
      refine ⟨by omega, by omega, _, _, j, hag.1, k2, k1.symm, by omega, by omega, by omega⟩
    · rw [scl_down (by omega)]
      have hr0 := rnd_nonneg (n := s) (p := -e - R) (by omega)
      have hr6 := rnd_lt (n := s) (p := -e - R) (k := 6) (by omega) hs
      have h97 : (10 : Int) ^ 6 < 10 ^ 7 := by decide
      have hf7 := figs_le (n := rnd s (-e - R)) (k := 7) (by decide) (by omega)
      by_cases hz : rnd s (-e - R) = 0
      · rw [hz, mad_zero (by decide), figs_small (by decide)]
        exact ⟨by decide, by omega, 0, 0, R.toNat, rfl, by omega, by rw [Int.zero_mul], by decide, by decide, by decide⟩
      · have hu : 0 < rnd s (-e - R) := by omega
        have hag := mad_again (u := rnd s (-e - R)) (R := R) hu (by omega) ⟨rnd s (-e - R), 0, by omega, by omega, by simp⟩
        obtain ⟨j, k1, k2, k3, k4⟩ := stripZ_spec (s := rnd s (-e - R)) (e := 0 - R) hu
        have hfj := figs_mul k4 j
        rw [← k1] at hfj
        have hf1 := figs_pos (stripZ (rnd s (-e - R)) (0 - R)).1
        have hj := pow10_pos j
        have hla : (stripZ (rnd s (-e - R)) (0 - R)).1 * 1 ≤ (stripZ (rnd s (-e - R)) (0 - R)).1 * 10 ^ j := Int.mul_le_mul_of_nonneg_left hj (by omega)
        rw [← k1] at hla
        have h18 : (10 : Int) ^ 7 < 10 ^ 12 := by decide
        refine ⟨by omega, by omega, _, _, j, hag.1, k2, k1.symm, by omega, by omega, by omega⟩

-- piece 494
-- needs: 493 
-- pure
theorem alk_lt {a1 b1 a2 b2 R u1 u2 : Int} {j1 j2 : Nat} (h1 : b1 = 0 - R + j1) (h2 : b2 = 0 - R + j2) (e1 : a1 * 10 ^ j1 = u1) (e2 : a2 * 10 ^ j2 = u2) : (a1 * 10 ^ (b1 - min b1 b2).toNat < a2 * 10 ^ (b2 - min b2 b1).toNat) ↔ u1 < u2 := by
  have hm := pow10_lt (min j1 j2)
  have x1 : u1 = a1 * 10 ^ (b1 - min b1 b2).toNat * 10 ^ (min j1 j2) := by rw [Int.mul_assoc, ← Int.pow_add, ← e1]; congr 2; omega
  have x2 : u2 = a2 * 10 ^ (b2 - min b2 b1).toNat * 10 ^ (min j1 j2) := by rw [Int.mul_assoc, ← Int.pow_add, ← e2]; congr 2; omega
  rw [x1, x2]
  exact (Int.mul_lt_mul_right hm).symm
theorem valOk_abs {c e : Int} (h : ValOk c e) : ValOk c.natAbs e := by
  obtain ⟨v1, v2, v3, v4, v5, v6⟩ := h
  exact ⟨by omega, v2, v3, fun h => v4 (by omega), fun h => v5 (by omega), by omega⟩
theorem valOk_made {c e : Int} (h : ValOk c e) : ValOk (mad c e 9).1 (mad c e 9).2 := by
  obtain ⟨v1, v2, v3, v4, v5, v6⟩ := h
  by_cases h0 : c = 0
  · subst h0
    rw [mad_zero (by decide)]
    exact ⟨by decide, by decide, by decide, fun _ => rfl, fun h => absurd rfl h, .inl rfl⟩
  · have hf := figs_le (n := c.natAbs) (k := 6) (by decide) v1
    have hfe := v5 h0
    rw [mad_num (by omega) h0]
    obtain ⟨k, h1, h2, h3, h4⟩ := stripZ_spec (s := c.natAbs) (e := e) (by omega)
    have hfk := figs_mul h4 k
    rw [← h1] at hfk
    have hf1 := figs_pos (stripZ c.natAbs e).1
    have hj := pow10_pos k
    have hla : (stripZ c.natAbs e).1 * 1 ≤ (stripZ c.natAbs e).1 * 10 ^ k := Int.mul_le_mul_of_nonneg_left hj (by omega)
    rw [← h1] at hla
    generalize (stripZ c.natAbs e).1 = s' at *
    generalize (stripZ c.natAbs e).2 = e' at *
    have hq : (((if c < 0 then -s' else s').natAbs : Nat) : Int) = s' := by split <;> omega
    refine ⟨by rw [hq]; omega, by show -5 ≤ e'; omega, by show e' ≤ 8; omega, fun h => ?_, fun h => ?_, .inr ?_⟩
    · exfalso
      have h' : (if c < 0 then -s' else s') = 0 := h
      split at h' <;> omega
    · show figs (((if c < 0 then -s' else s').natAbs : Nat) : Int) + e' ≤ 8
      rw [hq]; omega
    · show (if c < 0 then -s' else s') % 10 ≠ 0
      split <;> omega
/-- the order of two sizes' texts -/
theorem order_law {p : Pic} {c1 e1 c2 e2 : Int} (hp : WdP p) (hv1 : ValOk c1 e1) (hv2 : ValOk c2 e2) (h1 : 0 ≤ c1) (h2 : 0 ≤ c2) :
    ∃ a1 b1 a2 b2 : Int, RdF (shw p c1 e1) a1 b1 ∧ RdF (shw p c2 e2) a2 b2 ∧ (a1.natAbs : Int) < 10 ^ 18 ∧ -60 ≤ b1 ∧ b1 ≤ 20 ∧ (a2.natAbs : Int) < 10 ^ 18 ∧ -60 ≤ b2 ∧ b2 ≤ 20 ∧
      (shw p c2 e2 < shw p c1 e1 ↔ a2 * 10 ^ (b2 - min b2 b1).toNat < a1 * 10 ^ (b1 - min b1 b2).toNat) ∧ (shw p c1 e1 < shw p c2 e2 ↔ a1 * 10 ^ (b1 - min b1 b2).toNat < a2 * 10 ^ (b2 - min b2 b1).toNat) := by
  have hP := hp
  obtain ⟨q1, q2, q3, q4, q5, q6, q7, q8⟩ := hp
  obtain ⟨u1, f1, a1, b1, j1, m1, m2, m3, m4, m5, m6⟩ := rd_units (s := c1) (e := e1) (R := p.right) h1 (by have := hv1.1; omega) (fun h => by have := hv1.2.2.2.2.1 h; rwa [show ((c1.natAbs : Nat) : Int) = c1 by omega] at this) q7 (by omega)
  obtain ⟨u2, f2, a2, b2, j2, n1, n2, n3, n4, n5, n6⟩ := rd_units (s := c2) (e := e2) (R := p.right) h2 (by have := hv2.1; omega) (fun h => by have := hv2.2.2.2.2.1 h; rwa [show ((c2.natAbs : Nat) : Int) = c2 by omega] at this) q7 (by omega)
  have h18 : (10 : Int) ^ 12 < 10 ^ 18 := by decide
  have hPl : PlP p := ⟨q1, .inl q2, q7, by omega, .inl q4⟩
  have t1 := plain_txt (p := p) (c := c1) (e := e1) hPl (by rw [show ((c1.natAbs : Nat) : Int) = c1 by omega]; exact u1) (by rw [show ((c1.natAbs : Nat) : Int) = c1 by omega]; omega)
  have t2 := plain_txt (p := p) (c := c2) (e := e2) hPl (by rw [show ((c2.natAbs : Nat) : Int) = c2 by omega]; exact u2) (by rw [show ((c2.natAbs : Nat) : Int) = c2 by omega]; omega)
  rw [show ((c1.natAbs : Nat) : Int) = c1 by omega, if_neg (by simp only [decide_eq_true_eq]; omega), m1] at t1
  rw [show ((c2.natAbs : Nat) : Int) = c2 by omega, if_neg (by simp only [decide_eq_true_eq]; omega), n1] at t2
  refine ⟨a1, b1, a2, b2, t1, t2, by omega, by omega, m6, by omega, by omega, n6, ?_, ?_⟩
  · rw [wide_form hP h1 u1 f1, wide_form hP h2 u2 f2, wdT_iff hP u2 u1 f2 f1]
    exact (alk_lt n2 m2 n3 m3).symm
  · rw [wide_form hP h1 u1 f1, wide_form hP h2 u2 f2, wdT_iff hP u1 u2 f1 f2]
    exact (alk_lt m2 n2 m3 n3).symm

-- piece 495
-- needs: 494
-- pure
def m5 : Nat → List Nat
  | 0 => []
  | 1 => [43]
  | 2 => [42, 42]
  | 3 => [36, 36]
  | _ => [42, 42, 36]
def m3 : Nat → List Nat
  | 0 => []
  | 1 => [43]
  | _ => [45]
def plT (a n c : Nat) (pt : Bool) (h t : Nat) : List Nat :=
  m5 a ++ (List.replicate (1 + n) 35 ++ (List.replicate c 44 ++ ((if pt = true then 46 :: List.replicate h 35 else []) ++ (if a = 1 then [] else m3 t))))
def picB (p q : Pic) : Bool := decide (p.left = q.left) && (decide (p.right = q.right) && (p.point == q.point && (p.star == q.star && (p.dollar == q.dollar && (p.comma == q.comma && (p.expo == q.expo && p.sign == q.sign))))))
theorem picB_eq {p q : Pic} (h : picB p q = true) : p = q := by
  unfold picB at h
  simp only [Bool.and_eq_true, decide_eq_true_eq, beq_iff_eq] at h
  obtain ⟨a, b, c, d, e, f, g⟩ := p
  obtain ⟨a', b', c', d', e', f', g'⟩ := q
  obtain ⟨h1, h2, h3, h4, h5, h6, h7, h8⟩ := h
  simp only at h1 h2 h3 h4 h5 h6 h7 h8
  subst h1 h2 h3 h4 h5 h6 h7 h8
  rfl
def sgB (s : PySem.Str) : Bool := s == PySem.Str.ofString "" || (s == PySem.Str.ofString "+ahead" || (s == PySem.Str.ofString "+behind" || s == PySem.Str.ofString "-behind"))
def chkP (D : List Nat) (R : Nat) (r r2 : Pic × Nat) : Bool :=
  bgnL D && (bgnL (D ++ [62]) && (decide (r.2 = D.length) && (decide (r2.2 = D.length) && (picB r.1 r2.1 && (!r.1.expo && (sgB r.1.sign && (decide (r.1.right = (R : Int)) && ((r.1.point || decide (r.1.right = 0)) && (decide (0 ≤ r.1.left) && (decide (r.1.left ≤ 30) && (decide (D.length ≤ 90) && decide (0 < D.length))))))))))))
theorem chk_t : ∀ a, a < 5 → ∀ n, n < 6 → ∀ c, c < 2 → ∀ h, h < 5 → ∀ t, t < 3 → chkP (plT a n c true h t) h (rdL (plT a n c true h t)) (rdL (plT a n c true h t ++ [62])) = true := by decide +kernel
theorem chk_f : ∀ a, a < 5 → ∀ n, n < 6 → ∀ c, c < 2 → ∀ t, t < 3 → chkP (plT a n c false 0 t) 0 (rdL (plT a n c false 0 t)) (rdL (plT a n c false 0 t ++ [62])) = true := by decide +kernel

-- piece 496
-- needs: 495
-- pure
theorem strip_bd {s e : Int} (h : 0 < s) (hs : s < 10 ^ 9) : 0 < (stripZ s e).1 ∧ (stripZ s e).1 < 10 ^ 9 ∧ e ≤ (stripZ s e).2 ∧ (stripZ s e).2 ≤ e + 8 := by
  obtain ⟨k, h1, h2, h3, h4⟩ := stripZ_spec (e := e) h
  have hf := figs_le (n := s) (k := 9) (by decide) hs
  have hfk := figs_mul h4 k
  rw [← h1] at hfk
  have hf1 := figs_pos (stripZ s e).1
  have hj := pow10_pos k
  have hla : (stripZ s e).1 * 1 ≤ (stripZ s e).1 * 10 ^ k := Int.mul_le_mul_of_nonneg_left hj (by omega)
  rw [← h1] at hla
  exact ⟨h4, by omega, by omega, by omega⟩
theorem mad_bd {c e d : Int} (hc : (c.natAbs : Int) < 10 ^ 7) (he : -5 ≤ e) (hf : c ≠ 0 → figs c.natAbs + e ≤ 8) (hd : 1 ≤ d) : ((mad c e d).1.natAbs : Int) < 10 ^ 12 ∧ -20 ≤ (mad c e d).2 ∧ (mad c e d).2 ≤ 20 := by
  have h97 : (10 : Int) ^ 7 < 10 ^ 9 := by decide
  have h9 : (10 : Int) ^ 9 < 10 ^ 12 := by decide
  by_cases h0 : c = 0
  · subst h0
    rw [mad_zero hd]; exact ⟨by decide, by decide, by decide⟩
  · have hfe := hf h0
    have hf1 := figs_pos c.natAbs
    unfold mad
    by_cases hA : figs c.natAbs - d > 0
    · rw [if_pos hA]
      by_cases hz : rnd c.natAbs (figs c.natAbs - d) = 0
      · rw [if_pos hz]; exact ⟨by decide, by decide, by decide⟩
      · rw [if_neg hz]
        have hr0 := rnd_nonneg (n := c.natAbs) (p := figs c.natAbs - d) (by omega)
        have hr7 := rnd_lt (n := c.natAbs) (p := figs c.natAbs - d) (k := 7) (by omega) hc
        have hb := strip_bd (s := rnd c.natAbs (figs c.natAbs - d)) (e := e + (figs c.natAbs - d)) (by omega) (by omega)
        obtain ⟨b1, b2, b3, b4⟩ := hb
        refine ⟨?_, by show -20 ≤ (stripZ _ _).2; omega, by show (stripZ _ _).2 ≤ 20; omega⟩
        simp only
        split <;> omega
    · rw [if_neg hA, if_neg (by omega)]
      have hb := strip_bd (s := c.natAbs) (e := e) (by omega) (by omega)
      obtain ⟨b1, b2, b3, b4⟩ := hb
      refine ⟨?_, by show -20 ≤ (stripZ _ _).2; omega, by show (stripZ _ _).2 ≤ 20; omega⟩
      simp only
      split <;> omega
theorem drd_bd {c e R : Int} (hv : ValOk c e) (hR : 0 ≤ R) (hR4 : R ≤ 4) : ((drd c e R).1.natAbs : Int) < 10 ^ 12 ∧ -20 ≤ (drd c e R).2 ∧ (drd c e R).2 ≤ 20 := by
  obtain ⟨v1, v2, v3, v4, v5, v6⟩ := hv
  have h9 : (10 : Int) ^ 6 < 10 ^ 12 := by decide
  unfold drd
  split
  · exact ⟨by show (c.natAbs : Int) < 10 ^ 12; omega, by show -20 ≤ e; omega, by show e ≤ 20; omega⟩
  · split
    · exact ⟨by show (c.natAbs : Int) < 10 ^ 12; omega, by show -20 ≤ e; omega, by show e ≤ 20; omega⟩
    · split
      · exact ⟨by decide, by decide, by decide⟩
      · have hr0 := rnd_nonneg (n := c.natAbs) (p := 0 - R - e) (by omega)
        have hr7 := rnd_lt (n := c.natAbs) (p := 0 - R - e) (k := 6) (by omega) v1
        have h97 : (10 : Int) ^ 6 < 10 ^ 7 := by decide
        have hf7 := figs_le (n := rnd c.natAbs (0 - R - e)) (k := 7) (by decide) (by omega)
        generalize rnd c.natAbs (0 - R - e) = u at *
        have hq : (((if 0 < c then u else 0 - u).natAbs : Nat) : Int) = u := by split <;> omega
        exact mad_bd (by rw [hq]; omega) (by omega) (fun _ => by rw [hq]; omega) (by decide)
def wdD (a c h : Nat) : List Nat := (if a = 0 then [] else [42, 42]) ++ (List.replicate 12 35 ++ (List.replicate c 44 ++ 46 :: List.replicate h 35))
def chkW (D : List Nat) (r : Pic × Nat) : Bool :=
  bgnL D && (decide (r.2 = D.length) && (!r.1.expo && (r.1.sign == PySem.Str.ofString "" && (!r.1.dollar && (r.1.point && (decide (12 ≤ r.1.left) && (decide (r.1.left ≤ 20) && (decide (0 ≤ r.1.right) && (decide (r.1.right ≤ 2) && decide (D.length ≤ 90 ∧ 0 < D.length))))))))))
theorem chk_w : ∀ a, a < 2 → ∀ c, c < 2 → ∀ h, h < 3 → chkW (wdD a c h) (rdL (wdD a c h)) = true := by decide +kernel
def poD (k r : Nat) : List Nat := List.replicate k 35 ++ ((if 0 < r then 46 :: List.replicate r 35 else []) ++ [94, 94, 94, 94])
def chkE (D : List Nat) (k r : Nat) (q : Pic × Nat) : Bool :=
  bgnL D && (decide (q.2 = D.length) && (picB q.1 ⟨k, r, decide (0 < r), false, false, false, true, PySem.Str.ofString ""⟩ && decide (D.length ≤ 90 ∧ 0 < D.length)))
theorem chk_e : ∀ k, k < 6 → 2 ≤ k → ∀ r, r < 4 → chkE (poD k r) k r (rdL (poD k r)) = true := by decide +kernel

-- piece 50
-- needs: 08
-- pure
section
open PySem.Spec PyProof.Rows.LCg PyProof.Rows.LCt
variable {prog : Program} {w : World} {A : Around} {E : Value → Shared → Prop} {s : Shared} {h₀ : Heap} {L : Addr} {m : Str → Option Value} {env : Env}
/-- the source of a comprehension is the text tx -/
def TxtSrc (prog : Program) (w : World) (A : Around) (h₀ : Heap) (L : Addr) (m : Str → Option Value) (env : Env) (ct elt : PySem.Expr) (x : Str) (scope : Scope) (cl : List (Str × Addr)) (tx : Str) (Q : Value → Shared → Prop) (xv : Value) (s₁ : Shared) : Prop :=
  ∃ t news, xv = .str tx t ∧ A.handled = none ∧ Fr h₀ L s₁.heap m ∧ News h₀ L s₁.heap news ∧ tx.cps.size ≤ sizeLine ∧
      ∀ s₂ : Shared, (∃ h, s₂ = { s₁ with heap := h }) → CompRestT prog w A h₀ L m env ct elt x scope cl s₂ (fun _ => True) (SignAt tx) (FinE h₀ L m s₂ Q) tx.cps.size 0 [] news
/-- a comprehension with a test over a text's signs -/
theorem ListComp_text {ct elt iter : PySem.Expr} {x : Str} {px : Pos} {scope : Scope} {cl : List (Str × Addr)} {pos : Pos} {Q : Value → Shared → Prop} {tx : Str} (_F₀ : Fr h₀ L s.heap m) (ha : tx.cps.all (· < 128) = true)
    (hclos : closureFor scope env = pure cl) (hcell : ∀ y ∈ scope.names, y.2 ≠ .cell) (hkind : scope.kind = .function)
    (hnames : ∀ y ∈ scope.names, y.2 = .local → scope.names.lookup y.1 = some .local) (hx : scope.names.lookup x = some .local)
    (h : wpAny (model prog w) A (eval iter env) (TxtSrc prog w A h₀ L m env ct elt x scope cl tx Q) E s)
    (hs : ∀ x, foldedSetIterable iter env x = pure x := by intro _; rfl) :
    wpAny (model prog w) A (eval (.ListComp elt [⟨.Name x px, iter, [ct], 0⟩] scope pos) env) Q E s := by
  rw [eval_ListComp]
  refine wpAny_comprehension_free (use := none) rfl hs hclos hkind hnames (wpAny_mono h (fun xv s₁ h₁ => ?_) fun _ _ e => e)
  obtain ⟨t, news, rfl, hh, F, N, hsz, R⟩ := h₁
  refine wpAny_pyIter_ascii ha ?_
  refine block_T (Walks.strAscii hh s₁.heap.objs.size tx t) hsz (fun i h st => by obtain ⟨o, e, _⟩ := st; exact ⟨o, e⟩)
    (fun i h h' o nw st e1 e2 _ _ _ => by obtain ⟨o', e', r⟩ := st; rw [e1] at e'; obtain rfl := Option.some.inj e'; exact ⟨o, e2, r⟩) hcell hkind hx ⟨_, Heap.get?_push_size _ rfl, rfl, rfl⟩ (fun b hb => ?_)
    (F.keeps fun _ _ e => Heap.get?_push_of_some _ e) (N.grown fun _ _ e => Heap.get?_push_of_some _ e) (Nat.ne_of_lt F.ns.lt) (next_is_new F) (fun p hp => Nat.ne_of_lt (Heap.lt_size (N p hp).1)) trivial (R _ ⟨_, rfl⟩) ?_
  · rw [List.mem_singleton.mp hb]
    show s₁.heap.objs.size < (s₁.heap.push _).objs.size
    rw [Heap.size_push]; exact Nat.lt_succ_self _
  · intro D C h tk m' ys news' F' N' o1 hn hC₀ hD₀ hCL hDL hCD offC fin
    refine ⟨m', hn, fun h'' hs'' => fin D h'' tk (F'.change hs'' hCL hC₀) (fun p hp => ?_) o1⟩
    refine ⟨hs''.extBut _ _ ?_ (N' p hp).1, (N' p hp).2⟩
    rcases List.mem_cons.mp hp with rfl | hp
    · exact Ne.symm hCD
    · exact offC p hp
/-- texts of one sign each -/
def SignsAre : List Value → List Nat → Prop
  | [], [] => True
  | v :: r, c :: q => (∃ t, v = .str (St [c]) t) ∧ SignsAre r q
  | _, _ => False
theorem SignsAre.snoc : ∀ {ys : List Value} {l : List Nat} {c : Nat} {t : Tok}, SignsAre ys l → SignsAre (ys ++ [.str (St [c]) t]) (l ++ [c])
  | [], [], c, t, _ => ⟨⟨t, rfl⟩, trivial⟩
  | _ :: _, _ :: _, _, _, h => ⟨h.1, SignsAre.snoc h.2⟩
  | [], _ :: _, _, _, h => h.elim
  | _ :: _, [], _, _, h => h.elim
/-- one turn decides by keep and gives the sign itself -/
def TurnK (prog : Program) (w : World) (A : Around) (h₀ : Heap) (L : Addr) (m : Str → Option Value) (env : Env) (ct elt : PySem.Expr) (x : Str) (scope : Scope) (cl : List (Str × Addr)) (s : Shared) (tx : Str) (keep : Nat → Bool) (news : List (Addr × Obj)) : Prop :=
  ∀ (c : Nat) (t : Tok) (I : Addr) (oI : Obj) (C : Addr) (oC : Obj) (D : Addr) (ys : List Value) m₂ h tk (E' : Value → Shared → Prop), c ∈ Lz tx → NsObj oC m₂ → m₂ x = some (.str (St [c]) t) → Fr h₀ L h m → News h₀ L h ((I, oI) :: (C, oC) :: (D, lst ys) :: news) →
    wpAny (model prog w) A (isTrue ct (compEnvC scope cl C env) (eval ct (compEnvC scope cl C env))) (fun ok s' => (∃ tk', s' = { s with heap := h, toks := tk' }) ∧ ok = keep c ∧
      (ok = true → wpAny (model prog w) A (eval elt (compEnvC scope cl C env)) (fun y s' => (∃ tk', s' = { s with heap := h, toks := tk' }) ∧ ∃ t, y = .str (St [c]) t) E' s')) E' { s with heap := h, toks := tk }
theorem rest_all {ct elt : PySem.Expr} {x : Str} {scope : Scope} {cl : List (Str × Addr)} {tx : Str} {keep : Nat → Bool} {news : List (Addr × Obj)} {Fin : List Value → List (Addr × Obj) → Prop}
    (T : TurnK prog w A h₀ L m env ct elt x scope cl s tx keep news) (hF : ∀ ys, SignsAre ys ((Lz tx).filter keep) → Fin ys news) :
    ∀ (k i : Nat) (ys : List Value), i + k = (Lz tx).length → SignsAre ys (((Lz tx).take i).filter keep) → CompRestT prog w A h₀ L m env ct elt x scope cl s (fun _ => True) (SignAt tx) Fin k i ys news := by
  intro k
  induction k with
  | zero =>
    intro i ys hi hy
    refine CompRestT.zero (hF ys ?_)
    rwa [List.take_of_length_le (by omega)] at hy
  | succ k ih =>
    intro i ys hi hy
    refine CompRestT.succ ?_
    rintro v I oI C oC D oC' h tk E' ⟨c, t, hc, rfl⟩ hN hx F N off ne
    have hc' : (Lz tx)[i]? = some c := by rw [Array.getElem?_toList]; exact hc
    have hm : c ∈ Lz tx := List.mem_of_getElem? hc'
    have htake : (Lz tx).take (i + 1) = (Lz tx).take i ++ [c] := by rw [List.take_add_one, hc']; rfl
    refine wpAny_mono (T c t I oI C oC D ys _ h tk E' hm hN hx F N) (fun ok s' hq => ?_) fun _ _ e => e
    obtain ⟨⟨tk', rfl⟩, rfl, hgo⟩ := hq
    cases hk : keep c with
    | true =>
      rw [if_pos rfl]
      refine wpAny_mono (hgo hk) (fun y s'' hy' => ?_) fun _ _ e => e
      obtain ⟨⟨tk'', rfl⟩, t', rfl⟩ := hy'
      refine ⟨h, tk'', news, rfl, F, N, off, trivial, ih (i + 1) _ (by omega) ?_⟩
      rw [htake, List.filter_append, show List.filter keep [c] = [c] by simp [hk]]
      exact hy.snoc
    | false =>
      rw [if_neg (by simp)]
      refine ⟨h, tk', news, rfl, F, N, off, trivial, ih (i + 1) _ (by omega) ?_⟩
      rw [htake, List.filter_append, show List.filter keep [c] = [] by simp [hk], List.append_nil]
      exact hy
end

-- piece 51
-- needs: 50 40
-- pure
theorem SignsAre.strs : ∀ {ys : List Value} {l : List Nat}, SignsAre ys l → StrsAre ys (l.map fun c => St [c])
  | [], [], _ => .nil
  | _ :: _, c :: q, h => by
    obtain ⟨⟨t, rfl⟩, h2⟩ := h
    exact .cons _ t h2.strs
  | [], _ :: _, h => h.elim
  | _ :: _, [], h => h.elim
theorem join_signs_e (l : List Nat) : Str.join (PySem.Str.ofString "") (l.map fun c => St [c]) = St l := by
  rw [o_empty]
  induction l with
  | nil => exact lz_inj rfl
  | cons c r ih =>
    cases r with
    | nil => rfl
    | cons d q =>
      show St [c] ++ St [] ++ Str.join (St []) (St [d] :: q.map fun c => St [c]) = _
      rw [show (St [d] :: q.map fun c => St [c]) = (d :: q).map fun c => St [c] from rfl, ih, st_append, st_append]
      rfl
theorem join_signs (l : List Nat) : Txt.join (PySem.Str.ofString "") (l.map fun c => St [c]) = St l := by
  show Builtin.Str.glued _ _ = _
  rw [StrLaws.glued_eq_join, join_signs_e]
theorem signs_sum (l : List Nat) : ((l.map fun c => St [c]).map (·.length)).sum + (l.map fun c => St [c]).length = 2 * l.length := by
  induction l with
  | nil => rfl
  | cons c r ih =>
    simp only [List.map_cons, List.sum_cons, List.length_cons] at ih ⊢
    have : (St [c]).length = 1 := rfl
    omega
/-- the signs that _law_read keeps -/
def keepB (c : Nat) : Bool := (decide (48 ≤ c) && decide (c ≤ 57)) || (decide (c = 46) || (decide (c = 69) || (decide (c = 43) || decide (c = 45))))
theorem occ_keep : ∀ c : Nat, c < 128 → (Builtin.Str.occurrences (PySem.Str.ofString "0123456789.E+-") (St [c]) 0 (PySem.Str.ofString "0123456789.E+-").length 1).isEmpty = !keepB c := by decide +kernel
theorem occ_keep' {c : Nat} (h : c < 128) : (!(Builtin.Str.occurrences (PySem.Str.ofString "0123456789.E+-") (St [c]) 0 (PySem.Str.ofString "0123456789.E+-").length 1).isEmpty) = keepB c := by rw [occ_keep c h, Bool.not_not]
/-- what _law_read keeps, a last sign set first -/
def rotL (l : List Nat) : List Nat := if l.drop (l.length - 1) = [43] ∨ l.drop (l.length - 1) = [45] then l.drop (l.length - 1) ++ l.take (l.length - 1) else l
theorem rot_any {l : List Nat} {b : Bool} (hl : 0 < l.length) (h : ([PySem.Str.ofString "+", PySem.Str.ofString "-"].any fun y => y == Txt.slice (St l) (some (((St l).length : Int) - 1)) none) = b) :
    (l.drop (l.length - 1) = [43] ∨ l.drop (l.length - 1) = [45]) = (b = true) := by
  have hn : ((St l).length : Int) - 1 = ((l.length - 1 : Nat) : Int) := by show (l.length : Int) - 1 = _; omega
  simp only [List.any_cons, List.any_nil, Bool.or_false, beq_lz, o_plus, o_minus, lz_from (x := St l) (n := ((St l).length : Int) - 1) (by omega), lz_st] at h
  rw [hn, Int.toNat_natCast] at h
  subst h
  generalize l.drop (l.length - 1) = q
  refine propext ?_
  rw [Bool.or_eq_true, beq_iff_eq, beq_iff_eq]
  exact ⟨fun h => h.imp Eq.symm Eq.symm, fun h => h.imp Eq.symm Eq.symm⟩
theorem rot_t {l : List Nat} (hl : 0 < l.length) (h : ([PySem.Str.ofString "+", PySem.Str.ofString "-"].any fun y => y == Txt.slice (St l) (some (((St l).length : Int) - 1)) none) = true) :
    Txt.slice (St l) (some (((St l).length : Int) - 1)) none ++ Txt.slice (St l) none (some (((St l).length : Int) - 1)) = St (rotL l) := by
  have hn : ((St l).length : Int) - 1 = ((l.length - 1 : Nat) : Int) := by show (l.length : Int) - 1 = _; omega
  have hr := (iff_of_eq (rot_any hl h)).mpr rfl
  unfold rotL
  rw [if_pos hr, from_st (by omega), to_st (by omega), st_append, hn, Int.toNat_natCast]
theorem rot_f {l : List Nat} (hl : 0 < l.length) (h : ([PySem.Str.ofString "+", PySem.Str.ofString "-"].any fun y => y == Txt.slice (St l) (some (((St l).length : Int) - 1)) none) = false) : St l = St (rotL l) := by
  have hr : ¬ _ := fun q => Bool.false_ne_true ((iff_of_eq (rot_any hl h)).mp q)
  unfold rotL
  rw [if_neg hr]
section
variable {prog : Program} {w : World} {A : Around} {E : Value → Shared → Prop} {s : Shared} {t : Tok} {Q : Value → Shared → Prop}
theorem join_kept {D : Addr} {ys : List Value} {l : List Nat} (hl : s.heap.IsList D ys.toArray) (hi : SignsAre ys l) (hw : l.length ≤ 400) (h : ∀ t' k, Q (.str (St l) t') { s with toks := k }) :
    wpAny (model prog w) A (call (.builtin "str.join") [.str (PySem.Str.ofString "") t, .ref D]) Q E s := by
  refine join_listW (ys := l.map fun c => St [c]) hl hi.strs (by decide +kernel) ?_ fun t' k => ?_
  · rw [signs_sum]; omega
  · rw [join_signs]; exact h t' k
end

-- piece 52
-- needs: 25 51
theorem d_of_text_c (x : PySem.Str) (t1 t2 : Tok) (c e n : Int) (hx : x.length ≤ 100) (hA : ∀ c ∈ Lz x, c < 128) (hb : ∀ c, (Lz x)[0]? = some c → c ≠ 32 ∧ c ≠ 9) (hD : DT (Lz x) c e n) :
    Con 253 6 [.str x t1, .int 9 t2] (fun _ _ => True) (RDT (mad c e 9).1 (mad c e 9).2 n) := by
  have hs0 : 0 ≤ sg0 (Lz x) := by unfold sg0; split <;> decide
  rcases hD with ⟨a1, a2, f1, f2, ex, h1, h2, h3, h4, h5, h6, h7, h8, h9, h10, h11, h12, h13, h14, h15, h16, h17⟩ | ⟨a1, f1, ex, h1, h2, h4, h5, h6, h7, h8, h9, h10, h11, h12⟩
  · rw [h16, h17]
    rw [lz_length] at h6 h8
    refine d_of_text_pt x t1 t2 _ a1 a2 n f1 f2 ex hx hA hb rfl h1 ?_ h3 h4 hs0 h5 h6 h7 h8 h9 h10 h11 h12 h13 h14 h15
    rw [o_dot, sl1 (by omega), h2]; simp
  · rw [h11, h12]
    rw [lz_length] at h6
    refine d_of_text_np x t1 t2 _ a1 n f1 ex hx hA hb rfl h1 ?_ h4 hs0 h5 h6 h7 h8 h9 h10
    rw [o_dot, sl1 (by omega)]; simpa using h2
-- @use
local macro_rules | `(tactic| walk_at "call ref") => `(tactic| (k_here; (with_reducible show wpAny _ _ (call (Value.ref 253) _ _) _ _ _); k_dflt (refine' con_use (d_of_text_c _ _ _ _ _ _ ?c1 ?c2 ?c3 ?c4) ?cB ?cF ?cX ?cN ?cT ?cK ?cH ?cD ?cU ?_; (case c1 => with_reducible assumption); (case c2 => with_reducible assumption); (case c3 => with_reducible assumption); (case c4 => with_reducible assumption); (case cH => exact True.intro); walk_at "U use"; walk_at "U RDT")))
local macro_rules | `(tactic| walk_at "U RDT") => `(tactic| (intro v9 nx9 h9 tk9 hR9 F9 N9; obtain ⟨D9, E9, t9, u9, w9, q9, e9, e9', hT9⟩ := hR9; subst e9; subst e9'; (try dsimp only); (try k_fold)))
-- @end
/-- a pair of ints, with three more things on the ledger -/
def RLr (a b : Int) (P : Params) (news : List (Addr × Obj)) (v : Value) (nx : List (Addr × Obj)) : Prop := ∃ D t1 t2 q r u, v = .ref D ∧ nx = q :: r :: u :: news ∧ TA P nx D a b t1 t2
section
local macro_rules | `(tactic| walk_at "eval ListComp") => `(tactic| (k_here; (rename Fr _ _ _ _ => jF'); (rename (Array.all _ _ = true) => jA'); k_dflt (refine ListComp_text jF' jA' (by with_unfolding_all rfl) (by decide) (by rfl) (by decide) (by rfl) ?_)))
local macro_rules | `(tactic| walk_at "last call builtin:str.join") => `(tactic| (k_here; (with_reducible rename News _ _ _ _ => jN'); (with_reducible rename SignsAre _ _ => jS'); k_dflt (refine join_kept (News.isList jN' (List.Mem.head _)) jS' (by assumption) ?_); intro _ _))
local macro_rules | `(tactic| walk_at "call builtin:str.join") => `(tactic| (k_here; (with_reducible rename News _ _ _ _ => jN'); (with_reducible rename SignsAre _ _ => jS'); k_dflt (refine join_kept (News.isList jN' (List.Mem.head _)) jS' (by assumption) ?_); intro _ _))
local macro_rules | `(tactic| walk_at "exec If") => `(tactic| (k_here; (with_reducible show wpAny _ _ (exec (Stmt.If _ [Stmt.Assign [Expr.Name (Str.ofString "kept") _] _ _] [] _) _) _ _ _); (fail_if_success (with_reducible show wpAny _ _ _ (JoinX _ _ _ _ _ _ _) _ _)); (with_reducible rename Fr _ _ _ _ => jF'); (with_reducible rename News _ _ _ _ => jN'); (with_reducible rename JK _ => jK'); refine joinX (Str.ofString "kept") jK' jF' jN' ?_ ?_; (clear jK'); rotate_left; (clear jF' jN' jK'; intro jK t1' h' tk' F' N'; (try dsimp only); (try k_fold)); rotate_left))
local macro_rules | `(tactic| walk_at "U jv") => `(tactic| (with_reducible rename _ = rotL _ => hK9; rw [hK9]; first | exact str_eq (rot_t (by with_reducible assumption) (by with_reducible assumption)) | exact str_eq (rot_f (by with_reducible assumption) (by with_reducible assumption))))
theorem law_read_c (x : PySem.Str) (t1 : Tok) (K0 K : List Nat) (c e n : Int) (hx : x.length ≤ 400) (hA : ∀ c ∈ Lz x, c < 128) (hK0 : K0 = (Lz x).filter keepB) (hl0 : K0.length ≤ 400) (hl00 : 0 < K0.length) (hK : K = rotL K0) (hl : (St K).length ≤ 100) (hKA : ∀ c ∈ Lz (St K), c < 128) (hb : ∀ c, (Lz (St K))[0]? = some c → c ≠ 32 ∧ c ≠ 9) (hD : DT (Lz (St K)) c e n) (hn : n = (St K).length) :
    Con 286 8 [.str x t1] (fun _ _ => True) (RLr (mad c e 9).1 (mad c e 9).2) := by
  have hJ := jk [fun t => .str (St K) t]
  have hxa : x.cps.all (fun c => decide (c < 128)) = true := by
    rw [← Array.all_toList, List.all_eq_true]; intro c hc; exact decide_eq_true (hA c hc)
  walk_at "U in"
  k_steps
  with_reducible rename Fr _ _ _ _ => jF'
  with_reducible rename News _ _ _ _ => jN'
  refine ⟨_, _, rfl, rfl, jF', jN', ?_, fun s₂ hs₂ => rest_all (keep := keepB) ?_ (fun ys hys => ?_) _ 0 [] (Nat.zero_add _) trivial⟩
  · have : x.cps.size ≤ 400 := hx
    rw [PySem.sizeLine_eq]; omega
  · obtain ⟨h9, rfl⟩ := hs₂
    intro c t I oI C oC D ys m₂ h tk E' hc hN hm F N
    k_steps
    exact occ_keep' (hA c hc)
  · obtain ⟨h9, rfl⟩ := hs₂
    rw [← hK0] at hys
    intro D h tk F N o1
    have hl1 : (St K0).length ≤ 400 := hl0
    have hl2 : 0 < (St K0).length := hl00
    k_steps
    · exfalso; omega
    · with_reducible rename News _ _ _ _ => jN'
      exact con_ret (R := RLr _ _) (by assumption) ⟨_, _, _, _, _, _, rfl, rfl, by assumption⟩ (by k_asm) jN' sub_refl
end

-- piece 53
-- needs: 52 37 43
theorem law_read_r (x : PySem.Str) (t1 : Tok) (a b : Int) (hx : x.length ≤ 400) (hR : RdF (Lz x) a b) : Con 286 8 [.str x t1] (fun _ _ => True) (RLr a b) := by
  obtain ⟨h1, h2, h3, h4, c, e, h5, h6⟩ := hR
  have h := law_read_c x t1 _ _ c e _ hx h1 rfl (Nat.le_trans (List.length_filter_le _ _) hx) h2 rfl h3 (fun c hc => h1 c (List.mem_filter.mp (rotL_sub c hc)).1) h4 h5 rfl
  rw [h6] at h
  exact h
theorem TA.eq2 {prog : Program} {w : World} {A : Around} {E : Value → Shared → Prop} {s : Shared} {Q : Value → Shared → Prop} {D1 D2 : Addr} {a b c d : Int} {t1 t2 t3 t4 : Tok}
    (h1 : IsTup s.heap D1 [.int a t1, .int b t2].toArray) (h2 : IsTup s.heap D2 [.int c t3, .int d t4].toArray) (hu : A.units < cLine)
    (h : Q (.bool (decide ((a, b) = (c, d)))) s) : wpAny (model prog w) A (compareOp .Eq (.ref D1) (.ref D2)) Q E s := TA.eq (w' := w) h1 h2 hu h
/-- the text x is a picture, read as p -/
def Tx (x : PySem.Str) (p : Pic) : Prop := ∃ n : Nat, rdL (suf x 0) = (p, n) ∧ bgnL (suf x 0) = true ∧ x.length ≤ 100 ∧ (n : Int) = x.length ∧ 0 < (x.length : Int)
theorem using1_t (x : PySem.Str) (p : Pic) (m : Nat) (v : Value) (V : Addr) (c e : Int) (t1 : Tok) (hT : Tx x p) (hp : GP p) (hc : (c.natAbs : Int) < 10 ^ 12) (he : -20 ≤ e) (he2 : e ≤ 20) :
    Con 203 10 [.str x t1, .ref V] (fun P news => (V, listOf #[v] m) ∈ news ∧ NV P news v c e) (RVF ((St (shw p c e)).length ≤ 400) fun t => .str (St (shw p c e)) t) := by
  obtain ⟨n, h1, h2, h3, h4, h5⟩ := hT
  exact using1_c x p n m v V c e t1 h1 h2 h3 h4 h5 hp hc he he2
-- @use
local macro_rules | `(tactic| walk_at "call ref") => `(tactic| (k_here; (with_reducible show wpAny _ _ (call (Value.ref 286) _ _) _ _ _); k_dflt (refine' con_use (law_read_r _ _ _ _ ?c1 ?c2) ?cB ?cF ?cX ?cN ?cT ?cK ?cH ?cD ?cU ?_; (case c2 => with_reducible assumption); (case c1 => with_reducible assumption); (case cH => exact True.intro); walk_at "U use"; walk_at "U RLr")))
local macro_rules | `(tactic| walk_at "U RLr") => `(tactic| (intro v9 nx9 h9 tk9 hR9 F9 N9; obtain ⟨D9, t9, u9, q9, r9, w9, e9, e9', hT9⟩ := hR9; subst e9; subst e9'; (try dsimp only); (try k_fold)))
local macro_rules | `(tactic| walk_at "call ref") => `(tactic| (k_here; (with_reducible show wpAny _ _ (call (Value.ref 203) _ _) _ _ _); k_dflt (refine' con_use (using1_t _ _ _ _ _ _ _ _ ?c1 ?c2 ?c3 ?c4 ?c5) ?cB ?cF ?cX ?cN ?cT ?cK ?cH ?cD ?cU ?_; walk_at "U use"; (case cH => exact And.intro (by k_mem) (by walk_at "U nv")); (case c1 => with_reducible assumption); (case c2 => with_reducible assumption); (case c3 => with_reducible assumption); (case c4 => with_reducible assumption); (case c5 => with_reducible assumption); walk_at "U RVF")))
local macro_rules | `(tactic| walk_at "compareOp Eq ref") => `(tactic| (k_here; (with_reducible show wpAny _ _ (compareOp CmpOp.Eq (Value.ref _) (Value.ref _)) _ _ _); (with_reducible rename TA _ _ _ _ _ _ _ => hT9); k_dflt (refine TA.eq2 (by walk_at "U tup") (by walk_at "U tup") (by ktr_units) ?_)))
-- @end
theorem shown_right_c (x : PySem.Str) (p : Pic) (v : Value) (D : Addr) (c e a b : Int) (t1 t2 t3 : Tok) (hT : Tx x p) (hp : GP p) (hc : (c.natAbs : Int) < 10 ^ 12) (he : -20 ≤ e) (he2 : e ≤ 20)
    (hc' : (a.natAbs : Int) < 10 ^ 12) (he' : -20 ≤ b) (he2' : b ≤ 20) (hR : RdF (Lz (St (shw p c e))) a b) (hag : a ≠ 0 → shw p a b = shw p c e) :
    Con 293 12 [.str x t1, v, .ref D] (fun P news => NV P news v c e ∧ TA P news D a b t2 t3) (RV fun _ => .bool true) := by
  have hdd : decide ((a, b) = (a, b)) = true := decide_eq_true rfl
  walk_at "U in"
  obtain ⟨hv, hD⟩ := ‹_ ∧ TA _ _ _ _ _ _ _›
  k_steps
  · walk_at "U ret"
    exact bool_eq (beq_iff_eq.mpr (by assumption))
  · walk_at "U ret"
    exact bool_eq (by rw [hag (by assumption)]; exact beq_self_eq_true _)
-- @use
local macro_rules | `(tactic| walk_at "call ref") => `(tactic| (k_here; (with_reducible show wpAny _ _ (call (Value.ref 293) _ _) _ _ _); k_dflt (refine' con_use (shown_right_c _ _ _ _ _ _ _ _ _ _ _ ?c1 ?c2 ?c3 ?c4 ?c5 ?c6 ?c7 ?c8 ?c9 ?c0) ?cB ?cF ?cX ?cN ?cT ?cK ?cH ?cD ?cU ?_; walk_at "U use"; (case cH => exact And.intro (by walk_at "U nv") (TA.more (by assumption) (by walk_at "U sub"))); (case c1 => with_reducible assumption); (case c2 => with_reducible assumption); (case c3 => with_reducible assumption); (case c4 => with_reducible assumption); (case c5 => with_reducible assumption); (case c6 => with_reducible assumption); (case c7 => with_reducible assumption); (case c8 => with_reducible assumption); (case c9 => with_reducible assumption); (case c0 => with_reducible assumption); walk_at "U RV")))
-- @end

-- piece 54
-- needs: 53
theorem order_right_c (x : PySem.Str) (p : Pic) (v o : Value) (c1 e1 c2 e2 a1 b1 a2 b2 : Int) (t1 : Tok) (hT : Tx x p) (hp : GP p)
    (q1 : (c1.natAbs : Int) < 10 ^ 12) (q2 : -20 ≤ e1) (q3 : e1 ≤ 20) (q4 : (c2.natAbs : Int) < 10 ^ 12) (q5 : -20 ≤ e2) (q6 : e2 ≤ 20)
    (r1 : (a1.natAbs : Int) < 10 ^ 18) (r2 : -60 ≤ b1) (r3 : b1 ≤ 20) (r4 : (a2.natAbs : Int) < 10 ^ 18) (r5 : -60 ≤ b2) (r6 : b2 ≤ 20)
    (hR1 : RdF (Lz (St (shw p c1 e1))) a1 b1) (hR2 : RdF (Lz (St (shw p c2 e2))) a2 b2) (hO1 : shw p c2 e2 < shw p c1 e1 ↔ alk a2 b2 b1 < alk a1 b1 b2) (hO2 : shw p c1 e1 < shw p c2 e2 ↔ alk a1 b1 b2 < alk a2 b2 b1) :
    Con 300 12 [.str x t1, v, o] (fun P news => NV P news v c1 e1 ∧ NV P news o c2 e2) (RV fun _ => .bool true) := by
  walk_at "U in"
  obtain ⟨hv, hD⟩ := ‹_ ∧ NV _ _ _ _ _›
  k_steps
  walk_at "U ret"
  exact bool_eq (by simp only [hO1, hO2]; exact beq_self_eq_true _)
-- @use
local macro_rules | `(tactic| walk_at "call ref") => `(tactic| (k_here; (with_reducible show wpAny _ _ (call (Value.ref 300) _ _) _ _ _); k_dflt (refine' con_use (order_right_c _ _ _ _ _ _ _ _ _ _ _ _ _ ?c1 ?c2 ?d1 ?d2 ?d3 ?d4 ?d5 ?d6 ?f1 ?f2 ?f3 ?f4 ?f5 ?f6 ?g1 ?g2 ?g3 ?g4) ?cB ?cF ?cX ?cN ?cT ?cK ?cH ?cD ?cU ?_; walk_at "U use"; (case cH => exact And.intro (by walk_at "U nv") (by walk_at "U nv")); (case c1 => with_reducible assumption); (case c2 => with_reducible assumption); (case d1 => with_reducible assumption); (case d2 => with_reducible assumption); (case d3 => with_reducible assumption); (case d4 => with_reducible assumption); (case d5 => with_reducible assumption); (case d6 => with_reducible assumption); (case g1 => with_reducible assumption); (case g2 => with_reducible assumption); (case f1 => with_reducible assumption); (case f2 => with_reducible assumption); (case f3 => with_reducible assumption); (case f4 => with_reducible assumption); (case f5 => with_reducible assumption); (case f6 => with_reducible assumption); (case g3 => with_reducible assumption); (case g4 => with_reducible assumption); walk_at "U RV")))
-- @end

-- piece 55
-- needs: 13
theorem allLt_neN {d : Nat} {l : List (Addr × Obj)} : AllLt d l → ∀ p ∈ l, @Ne Nat p.1 d := by
  induction l with
  | nil => intro _ p hp; cases hp
  | cons q r ih =>
    intro h p hp
    rcases List.mem_cons.mp hp with hp | hp
    · rw [hp]; exact Nat.ne_of_lt h.1
    · exact ih h.2 p hp
/-- the sack stands first on the ledger, then its cells -/
def SkH (S C : Addr) (ws : List Value) (turn : Int) (rest : List (Addr × Obj)) (_ : Params) (news : List (Addr × Obj)) : Prop := ∃ t, news = (S, listOf #[.ref C, .int turn t] 0) :: (C, listOf ws.toArray 0) :: rest
theorem skH_i {S C : Addr} {ws : List Value} {turn : Int} {rest : List (Addr × Obj)} {P : Params} {t : Tok} : SkH S C ws turn rest P ((S, listOf #[.ref C, .int turn t] 0) :: (C, listOf ws.toArray 0) :: rest) := ⟨t, rfl⟩
/-- an int below a bound, the sack a turn on -/
def RTk (S C : Addr) (ws : List Value) (turn : Int) (rest : List (Addr × Obj)) (below : Int) (P : Params) (_ : List (Addr × Obj)) (v : Value) (nx : List (Addr × Obj)) : Prop := (∃ k t, v = .int k t ∧ 0 ≤ k ∧ k < below) ∧ SkH S C ws (turn + 1) rest P nx
section
local macro_rules | `(tactic| k_all) => `(tactic| (with_reducible assumption))
theorem law_take_c (S C : Addr) (ws : List Value) (ns : List Int) (turn : Int) (rest : List (Addr × Obj)) (below : Int) (t1 : Tok) (hI : IntsAre ws ns) (hSC : @LT.lt Nat _ C S) (hr : ∀ p ∈ rest, p.1 ≠ S) (h0 : 0 ≤ turn) (h1 : turn ≤ 1000) (hb : 0 < below) (hb2 : below ≤ 10 ^ 6) (hl : ns.length ≤ 63) :
    Con 267 1 [.ref S, .int below t1] (SkH S C ws turn rest) (RTk S C ws turn rest below) := by
  walk_at "U in"
  obtain ⟨t, hk⟩ := ‹SkH _ _ _ _ _ _ _›
  subst hk
  k_steps
  all_goals (
    with_reducible rename News _ _ _ _ => jN'
    exact con_ret (R := RTk S C ws turn rest below) (by assumption) ⟨⟨_, _, rfl, Int.fmod_nonneg_of_pos _ hb, Int.fmod_lt_of_pos _ hb⟩, ⟨_, rfl⟩⟩ (by k_asm) jN' sub_refl)
end
section
variable {a b x y z u v : Addr × Obj} {r : List (Addr × Obj)}
theorem perm1 : ∀ p ∈ a :: b :: x :: r, p ∈ x :: a :: b :: r := by
  intro p hp
  simp only [List.mem_cons] at hp ⊢
  rcases hp with h | h | h | h <;> simp only [h, true_or, or_true]
theorem perm2 : ∀ p ∈ a :: b :: x :: y :: r, p ∈ x :: y :: a :: b :: r := by
  intro p hp
  simp only [List.mem_cons] at hp ⊢
  rcases hp with h | h | h | h | h <;> simp only [h, true_or, or_true]
theorem perm3 : ∀ p ∈ a :: b :: x :: y :: z :: r, p ∈ x :: y :: z :: a :: b :: r := by
  intro p hp
  simp only [List.mem_cons] at hp ⊢
  rcases hp with h | h | h | h | h | h <;> simp only [h, true_or, or_true]
theorem perm4 : ∀ p ∈ a :: b :: x :: y :: z :: u :: r, p ∈ x :: y :: z :: u :: a :: b :: r := by
  intro p hp
  simp only [List.mem_cons] at hp ⊢
  rcases hp with h | h | h | h | h | h | h <;> simp only [h, true_or, or_true]
theorem perm5 : ∀ p ∈ a :: b :: x :: y :: z :: u :: v :: r, p ∈ x :: y :: z :: u :: v :: a :: b :: r := by
  intro p hp
  simp only [List.mem_cons] at hp ⊢
  rcases hp with h | h | h | h | h | h | h | h <;> simp only [h, true_or, or_true]
theorem ne_cons {q : Addr × Obj} {S : Addr} {l : List (Addr × Obj)} (h : @Ne Nat q.1 S) (h' : ∀ p ∈ l, p.1 ≠ S) : ∀ p ∈ q :: l, p.1 ≠ S := List.forall_mem_cons.mpr ⟨h, h'⟩
end
-- @use
local macro_rules | `(tactic| walk_at "U nes") => `(tactic| first | (with_reducible assumption) | (refine ne_cons ?_ ?_; (refine neN ?_; (try dsimp only); omega); walk_at "U nes") | exact List.forall_mem_nil _ | walk_at "U ne")
local macro_rules | `(tactic| walk_at "U RTk") => `(tactic| (intro v9 nx9 h9 tk9 hR9 F9 N9; obtain ⟨⟨k9, t9, e9, hk8, hk9⟩, ⟨u9, e9'⟩⟩ := hR9; subst e9; subst e9'; (try dsimp only); (try k_fold)))
local macro_rules | `(tactic| walk_at "U take") => `(tactic| ((case cX => k_asm); (case cT => k_asm); (case cB => k_asm); (case cF => k_asm); (case cH => exact skH_i); (case cK => first | exact rfl | assumption); (case c1 => with_reducible assumption); (case c2 => omega); (case c3 => walk_at "U nes"); (case c4 => omega); (case c5 => omega); (case c6 => omega); (case c7 => omega); (case c8 => omega); (case cD => ktr_room); (case cU => ktr_units); walk_at "U RTk"))
-- @end

-- piece 56
-- needs: 55 29 45
-- @use
local macro_rules | `(tactic| walk_at "call ref") => `(tactic| (k_here; (with_reducible show wpAny _ _ (call (Value.ref 267) _ _) _ _ _); (with_reducible rename News _ _ _ _ => jN'); first | k_dflt (refine' con_use (law_take_c _ _ _ _ _ _ _ _ ?c1 ?c2 ?c3 ?c4 ?c5 ?c6 ?c7 ?c8) ?cB ?cF ?cX jN' ?cT ?cK ?cH ?cD ?cU ?_; walk_at "U take") | k_dflt (refine' con_use (law_take_c _ _ _ _ _ _ _ _ ?c1 ?c2 ?c3 ?c4 ?c5 ?c6 ?c7 ?c8) ?cB ?cF ?cX (fun p hp => jN' p (perm1 p hp)) ?cT ?cK ?cH ?cD ?cU ?_; walk_at "U take") | k_dflt (refine' con_use (law_take_c _ _ _ _ _ _ _ _ ?c1 ?c2 ?c3 ?c4 ?c5 ?c6 ?c7 ?c8) ?cB ?cF ?cX (fun p hp => jN' p (perm2 p hp)) ?cT ?cK ?cH ?cD ?cU ?_; walk_at "U take") | k_dflt (refine' con_use (law_take_c _ _ _ _ _ _ _ _ ?c1 ?c2 ?c3 ?c4 ?c5 ?c6 ?c7 ?c8) ?cB ?cF ?cX (fun p hp => jN' p (perm3 p hp)) ?cT ?cK ?cH ?cD ?cU ?_; walk_at "U take")))
-- @end
theorem pow106 {prog : Program} {w : World} {A : Around} {E : Value → Shared → Prop} {s : Shared} {t u : Tok} {Q : Value → Shared → Prop} (h : Q (.int 1000000 s.toks) { s with toks := s.toks + 1 }) : wpAny (model prog w) A (binaryOp .Pow (.int 10 t) (.int 6 u)) Q E s :=
  pow_int_small (by decide) (by decide) (by decide) h
/-- a number of the law's: an int, or a new pair -/
def RNum (S C : Addr) (ws : List Value) (turn : Int) (rest : List (Addr × Obj)) (P : Params) (_ : List (Addr × Obj)) (v : Value) (nx : List (Addr × Obj)) : Prop :=
  ∃ c e turn' qa qo t, turn ≤ turn' ∧ turn' ≤ turn + 4 ∧ ValOk c e ∧ NV P [(qa, qo)] v c e ∧ (@Eq Nat qa C ∨ (@LT.lt Nat _ S qa ∧ @LT.lt Nat _ C qa ∧ AllLt qa rest)) ∧ nx = (qa, qo) :: (S, listOf #[.ref C, .int turn' t] 0) :: (C, listOf ws.toArray 0) :: rest
section
local macro_rules | `(tactic| walk_at "binaryOp Pow int int") => `(tactic| (k_here; (with_reducible refine pow106 ?_)))
local macro_rules | `(tactic| walk_at "call ref") => `(tactic| (k_here; (with_reducible show wpAny _ _ (call (Value.ref 58) _ _) _ _ _); k_dflt (refine' con_use (made_c _ _ _ _ _ _ ?c1 ?c2 ?c3 ?c4) ?cB ?cF ?cX ?cN ?cT ?cK ?cH ?cD ?cU ?_; (case c1 => (rw [sgn_abs (by with_reducible assumption) (by with_reducible assumption) (by with_reducible assumption)]; omega)); (case c2 => omega); (case c3 => omega); (case c4 => omega); (case cH => exact True.intro); walk_at "U use"; walk_at "U RT")))
theorem law_number_c (S C : Addr) (ws : List Value) (ns : List Int) (turn : Int) (rest : List (Addr × Obj)) (hI : IntsAre ws ns) (hSC : @LT.lt Nat _ C S) (hr : ∀ p ∈ rest, p.1 ≠ S) (h0 : 0 ≤ turn) (h1 : turn ≤ 900) (hl : ns.length ≤ 63) :
    Con 274 5 [.ref S] (SkH S C ws turn rest) (RNum S C ws turn rest) := by
  walk_at "U in"
  obtain ⟨t, hk⟩ := ‹SkH _ _ _ _ _ _ _›
  subst hk
  k_steps
  · with_reducible rename News _ _ _ _ => jN'
    exact con_ret (R := RNum S C ws turn rest) (by assumption) ⟨_, 0, _, C, listOf ws.toArray 0, _, by omega, by omega, valOk_int (by with_reducible assumption) (by with_reducible assumption) (by with_reducible assumption) (by with_reducible assumption), .inl ⟨_, rfl, rfl⟩, .inl rfl, rfl⟩ (by k_asm) jN' (List.forall_mem_cons.mpr ⟨List.Mem.tail _ (List.Mem.head _), sub_refl⟩)
  · with_reducible rename News _ _ _ _ => jN'
    with_reducible rename AllLt _ _ => lt9
    exact con_ret (R := RNum S C ws turn rest) (by assumption) ⟨_, _, _, _, _, _, by omega, by omega, valOk_mad (by (rw [sgn_abs (by with_reducible assumption) (by with_reducible assumption) (by with_reducible assumption)]; omega)) (by omega) (by omega), .inr ⟨_, _, _, rfl, .inl (List.Mem.head _)⟩, .inr lt9, rfl⟩ (by k_asm) jN' sub_refl
end
-- @use
local macro_rules | `(tactic| walk_at "U RNum") => `(tactic| (intro v9 nx9 h9 tk9 hR9 F9 N9; obtain ⟨c9, e9, r9, qa9, qo9, t9, hr8, hr9, hv9, hN9, hq9, e9'⟩ := hR9; subst e9'; (try dsimp only); (try simp only [AllLt, and_true] at hq9); (try k_fold)))
-- @end

-- piece 57
-- needs: 56
section
variable {prog : Program} {w : World} {A : Around} {E : Value → Shared → Prop} {s : Shared} {Q : Value → Shared → Prop}
theorem item_menu {value slice : PySem.Expr} {l : Addr} {vs : List Value} {k : Int} {u : Tok} (X : Nat → PySem.Str) (hl : s.heap.IsList l vs.toArray) (h0 : 0 ≤ k) (hk : k < vs.length) (hk2 : k < 2 ^ 63)
    (hX : ∀ i, i < vs.length → ∃ t, vs[i]? = some (.str (X i) t)) (h : ∀ t, Q (.str (X k.toNat) t) s)
    (hs : subscripted slice false (.ref l) (.int k u) = operate [.ref l, .int k u] (getItem (.ref l) (.int k u)) := by with_unfolding_all rfl) :
    wpAny (model prog w) A (subscriptTail value slice (.ref l) (.int k u)) Q E s := by
  obtain ⟨t, ht⟩ := hX k.toNat (by omega)
  exact item_litK hl h0 hk2 ht (h t) hs
end
def menu5 (i : Nat) : PySem.Str := [PySem.Str.ofString "", PySem.Str.ofString "+", PySem.Str.ofString "**", PySem.Str.ofString "$$", PySem.Str.ofString "**$"].getD i (PySem.Str.ofString "")
def menu3 (i : Nat) : PySem.Str := [PySem.Str.ofString "", PySem.Str.ofString "+", PySem.Str.ofString "-"].getD i (PySem.Str.ofString "")
theorem menu5_at {t0 t1 t2 t3 t4 : Tok} : ∀ i, i < 5 → ∃ t, [Value.str (Str.ofString "") t0, .str (Str.ofString "+") t1, .str (Str.ofString "**") t2, .str (Str.ofString "$$") t3, .str (Str.ofString "**$") t4][i]? = some (.str (menu5 i) t)
  | 0, _ => ⟨t0, rfl⟩
  | 1, _ => ⟨t1, rfl⟩
  | 2, _ => ⟨t2, rfl⟩
  | 3, _ => ⟨t3, rfl⟩
  | 4, _ => ⟨t4, rfl⟩
theorem menu3_at {t0 t1 t2 : Tok} : ∀ i, i < 3 → ∃ t, [Value.str (Str.ofString "") t0, .str (Str.ofString "+") t1, .str (Str.ofString "-") t2][i]? = some (.str (menu3 i) t)
  | 0, _ => ⟨t0, rfl⟩
  | 1, _ => ⟨t1, rfl⟩
  | 2, _ => ⟨t2, rfl⟩
theorem menu5_len : ∀ i, (menu5 i).length ≤ 3
  | 0 => by decide +kernel
  | 1 => by decide +kernel
  | 2 => by decide +kernel
  | 3 => by decide +kernel
  | 4 => by decide +kernel
  | _ + 5 => by show (PySem.Str.ofString "").length ≤ 3; decide +kernel
theorem menu3_len : ∀ i, (menu3 i).length ≤ 1
  | 0 => by decide +kernel
  | 1 => by decide +kernel
  | 2 => by decide +kernel
  | _ + 3 => by show (PySem.Str.ofString "").length ≤ 1; decide +kernel
section
variable {prog : Program} {w : World} {A : Around} {E : Value → Shared → Prop} {s : Shared} {Q : Value → Shared → Prop} {value slice : PySem.Expr} {l : Addr} {k : Int} {u t0 t1 t2 t3 t4 : Tok}
theorem item_menu5 (hl : s.heap.IsList l [Value.str (Str.ofString "") t0, .str (Str.ofString "+") t1, .str (Str.ofString "**") t2, .str (Str.ofString "$$") t3, .str (Str.ofString "**$") t4].toArray) (h0 : 0 ≤ k) (hk : k < 5) (h : ∀ t, (menu5 k.toNat).length ≤ 3 → Q (.str (menu5 k.toNat) t) s)
    (hs : subscripted slice false (.ref l) (.int k u) = operate [.ref l, .int k u] (getItem (.ref l) (.int k u)) := by with_unfolding_all rfl) :
    wpAny (model prog w) A (subscriptTail value slice (.ref l) (.int k u)) Q E s := item_menu menu5 hl h0 (by show k < (5 : Int); exact hk) (by omega) menu5_at (fun t => h t (menu5_len _)) hs
theorem item_menu3 (hl : s.heap.IsList l [Value.str (Str.ofString "") t0, .str (Str.ofString "+") t1, .str (Str.ofString "-") t2].toArray) (h0 : 0 ≤ k) (hk : k < 3) (h : ∀ t, (menu3 k.toNat).length ≤ 1 → Q (.str (menu3 k.toNat) t) s)
    (hs : subscripted slice false (.ref l) (.int k u) = operate [.ref l, .int k u] (getItem (.ref l) (.int k u)) := by with_unfolding_all rfl) :
    wpAny (model prog w) A (subscriptTail value slice (.ref l) (.int k u)) Q E s := item_menu menu3 hl h0 (by show k < (3 : Int); exact hk) (by omega) menu3_at (fun t => h t (menu3_len _)) hs
end
theorem hash_len {n : Int} : (Txt.mul (PySem.Str.ofString "#") n).length = n.toNat := by rw [o_hash, mul_st, st_len, List.length_replicate]
theorem comma_len {n : Int} : (Txt.mul (PySem.Str.ofString ",") n).length = n.toNat := by rw [o_comma, mul_st, st_len, List.length_replicate]
theorem dot_len : (PySem.Str.ofString ".").length = 1 := by decide +kernel
/-- the law's plain picture -/
def plainT (a n c : Nat) (pt : Bool) (h t : Nat) : List Nat :=
  Lz (menu5 a) ++ (List.replicate (1 + n) 35 ++ (List.replicate c 44 ++ ((if pt = true then 46 :: List.replicate h 35 else []) ++ (if a = 1 then [] else Lz (menu3 t)))))
def PlainL (x : PySem.Str) (b : Int) : Prop := ∃ (a n c h t : Nat) (pt : Bool), a < 5 ∧ n < 6 ∧ c < 2 ∧ h < 5 ∧ t < 3 ∧ (pt = true ∨ h = 0) ∧ b = h ∧ x = St (plainT a n c pt h t)
theorem menu5_plus : ∀ i, i < 5 → (menu5 i == PySem.Str.ofString "+") = decide (i = 1) := by decide +kernel
theorem lz_hash (n : Int) : Lz (Txt.mul (PySem.Str.ofString "#") n) = List.replicate n.toNat 35 := by rw [o_hash, mul_st]
theorem lz_comma (n : Int) : Lz (Txt.mul (PySem.Str.ofString ",") n) = List.replicate n.toNat 44 := by rw [o_comma, mul_st]
theorem lz_dot : Lz (PySem.Str.ofString ".") = [46] := by rw [o_dot]
section
variable {ka kn kc kh kt : Int} (a0 : 0 ≤ ka) (a1 : ka < 5) (n0 : 0 ≤ kn) (n1 : kn < 6) (c0 : 0 ≤ kc) (c1 : kc < 2) (h0 : 0 ≤ kh) (h1 : kh < 5)
include a0 a1 n0 n1 c0 c1 h0 h1
theorem plain1 (hp : (menu5 ka.toNat == PySem.Str.ofString "+") = true) : PlainL (menu5 ka.toNat ++ Txt.mul (PySem.Str.ofString "#") (1 + kn) ++ Txt.mul (PySem.Str.ofString ",") kc ++ PySem.Str.ofString "." ++ Txt.mul (PySem.Str.ofString "#") kh) kh := by
  rw [menu5_plus _ (by omega), decide_eq_true_eq] at hp
  refine ⟨ka.toNat, kn.toNat, kc.toNat, kh.toNat, 0, true, by omega, by omega, by omega, by omega, by omega, .inl rfl, by omega, lz_inj ?_⟩
  unfold plainT
  simp only [lz_append, lz_hash, lz_comma, lz_dot, lz_st, if_pos hp, if_true, List.append_nil, List.append_assoc, show (1 + kn).toNat = 1 + kn.toNat by omega, List.cons_append, List.nil_append]
theorem plain2 (t0 : 0 ≤ kt) (t1 : kt < 3) (hp : (menu5 ka.toNat == PySem.Str.ofString "+") = false) : PlainL (menu5 ka.toNat ++ Txt.mul (PySem.Str.ofString "#") (1 + kn) ++ Txt.mul (PySem.Str.ofString ",") kc ++ PySem.Str.ofString "." ++ Txt.mul (PySem.Str.ofString "#") kh ++ menu3 kt.toNat) kh := by
  rw [menu5_plus _ (by omega), decide_eq_false_iff_not] at hp
  refine ⟨ka.toNat, kn.toNat, kc.toNat, kh.toNat, kt.toNat, true, by omega, by omega, by omega, by omega, by omega, .inl rfl, by omega, lz_inj ?_⟩
  unfold plainT
  simp only [lz_append, lz_hash, lz_comma, lz_dot, lz_st, if_neg hp, if_true, List.append_assoc, show (1 + kn).toNat = 1 + kn.toNat by omega, List.cons_append, List.nil_append]
theorem plain3 (hh : ¬ 0 < kh) (hp : (menu5 ka.toNat == PySem.Str.ofString "+") = true) : PlainL (menu5 ka.toNat ++ Txt.mul (PySem.Str.ofString "#") (1 + kn) ++ Txt.mul (PySem.Str.ofString ",") kc) kh := by
  rw [menu5_plus _ (by omega), decide_eq_true_eq] at hp
  refine ⟨ka.toNat, kn.toNat, kc.toNat, 0, 0, false, by omega, by omega, by omega, by omega, by omega, .inr rfl, by omega, lz_inj ?_⟩
  unfold plainT
  simp only [lz_append, lz_hash, lz_comma, lz_st, if_pos hp, Bool.false_eq_true, if_false, List.append_nil, List.append_assoc, show (1 + kn).toNat = 1 + kn.toNat by omega]
theorem plain4 (t0 : 0 ≤ kt) (t1 : kt < 3) (hh : ¬ 0 < kh) (hp : (menu5 ka.toNat == PySem.Str.ofString "+") = false) : PlainL (menu5 ka.toNat ++ Txt.mul (PySem.Str.ofString "#") (1 + kn) ++ Txt.mul (PySem.Str.ofString ",") kc ++ menu3 kt.toNat) kh := by
  rw [menu5_plus _ (by omega), decide_eq_false_iff_not] at hp
  refine ⟨ka.toNat, kn.toNat, kc.toNat, 0, kt.toNat, false, by omega, by omega, by omega, by omega, by omega, .inr rfl, by omega, lz_inj ?_⟩
  unfold plainT
  simp only [lz_append, lz_hash, lz_comma, lz_st, if_neg hp, Bool.false_eq_true, if_false, List.nil_append, List.append_assoc, show (1 + kn).toNat = 1 + kn.toNat by omega]
end
/-- a new pair of a picture's text and its places behind the point -/
def RPl (S C : Addr) (ws : List Value) (turn : Int) (rest : List (Addr × Obj)) (_ : Params) (_ : List (Addr × Obj)) (v : Value) (nx : List (Addr × Obj)) : Prop :=
  ∃ D x b turn' t t1 t2, v = .ref D ∧ PlainL x b ∧ turn ≤ turn' ∧ turn' ≤ turn + 6 ∧ (@LT.lt Nat _ S D ∧ @LT.lt Nat _ C D ∧ AllLt D rest) ∧ nx = (D, tupO [.str x t1, .int b t2]) :: (S, listOf #[.ref C, .int turn' t] 0) :: (C, listOf ws.toArray 0) :: rest
section
local macro_rules | `(tactic| walk_at "U subs") => `(tactic| first | exact sub_refl | (refine sub_cons ?_; walk_at "U subs"))
local macro_rules | `(tactic| walk_at "subscriptTail") => `(tactic| (k_here; (with_reducible show wpAny _ _ (subscriptTail _ _ (Value.ref _) (Value.int _ _)) _ _ _); (with_reducible rename News _ _ _ _ => jN'); k_dflt (first
  | (refine item_menu5 (News.isList jN' (by k_mem)) (by omega) (by omega) ?_; intro t' m9')
  | (refine item_menu3 (News.isList jN' (by k_mem)) (by omega) (by omega) ?_; intro t' m9'))))
local macro_rules | `(tactic| walk_at "last subscriptTail") => `(tactic| (k_here; (with_reducible show wpAny _ _ (subscriptTail _ _ (Value.ref _) (Value.int _ _)) _ _ _); (with_reducible rename News _ _ _ _ => jN'); k_dflt (first
  | (refine item_menu5 (News.isList jN' (by k_mem)) (by omega) (by omega) ?_; intro t' m9')
  | (refine item_menu3 (News.isList jN' (by k_mem)) (by omega) (by omega) ?_; intro t' m9'))))
local macro_rules | `(tactic| walk_at "U sz") => `(tactic| ((try simp only [PySem.sizeLine_eq, PySem.Str.length_append, hash_len, comma_len, dot_len]); omega))
theorem law_picture_c (S C : Addr) (ws : List Value) (ns : List Int) (turn : Int) (rest : List (Addr × Obj)) (hI : IntsAre ws ns) (hSC : @LT.lt Nat _ C S) (hr : ∀ p ∈ rest, p.1 ≠ S) (h0 : 0 ≤ turn) (h1 : turn ≤ 900) (hl : ns.length ≤ 63) :
    Con 281 5 [.ref S] (SkH S C ws turn rest) (RPl S C ws turn rest) := by
  walk_at "U in"
  obtain ⟨t, hk⟩ := ‹SkH _ _ _ _ _ _ _›
  subst hk
  k_steps
  · with_reducible rename News _ _ _ _ => jN'
    exact con_ret (R := RPl S C ws turn rest) (by assumption) ⟨_, _, _, _, _, _, _, rfl, plain1 (by with_reducible assumption) (by with_reducible assumption) (by with_reducible assumption) (by with_reducible assumption) (by with_reducible assumption) (by with_reducible assumption) (by with_reducible assumption) (by with_reducible assumption) (by with_reducible assumption), by omega, by omega, ⟨by omega, by omega, by walk_at "U lt"⟩, rfl⟩ (by k_asm) jN' (List.forall_mem_cons.mpr ⟨List.Mem.head _, List.forall_mem_cons.mpr ⟨List.Mem.tail _ (List.Mem.head _), List.forall_mem_cons.mpr ⟨List.Mem.tail _ (List.Mem.tail _ (List.Mem.head _)), by walk_at "U subs"⟩⟩⟩)
  · with_reducible rename News _ _ _ _ => jN'
    exact con_ret (R := RPl S C ws turn rest) (by assumption) ⟨_, _, _, _, _, _, _, rfl, plain2 (by with_reducible assumption) (by with_reducible assumption) (by with_reducible assumption) (by with_reducible assumption) (by with_reducible assumption) (by with_reducible assumption) (by with_reducible assumption) (by with_reducible assumption) (by with_reducible assumption) (by with_reducible assumption) (by with_reducible assumption), by omega, by omega, ⟨by omega, by omega, by walk_at "U lt"⟩, rfl⟩ (by k_asm) jN' (List.forall_mem_cons.mpr ⟨List.Mem.head _, List.forall_mem_cons.mpr ⟨List.Mem.tail _ (List.Mem.head _), List.forall_mem_cons.mpr ⟨List.Mem.tail _ (List.Mem.tail _ (List.Mem.head _)), by walk_at "U subs"⟩⟩⟩)
  · with_reducible rename News _ _ _ _ => jN'
    exact con_ret (R := RPl S C ws turn rest) (by assumption) ⟨_, _, _, _, _, _, _, rfl, plain1 (by with_reducible assumption) (by with_reducible assumption) (by with_reducible assumption) (by with_reducible assumption) (by with_reducible assumption) (by with_reducible assumption) (by with_reducible assumption) (by with_reducible assumption) (by with_reducible assumption), by omega, by omega, ⟨by omega, by omega, by walk_at "U lt"⟩, rfl⟩ (by k_asm) jN' (List.forall_mem_cons.mpr ⟨List.Mem.head _, List.forall_mem_cons.mpr ⟨List.Mem.tail _ (List.Mem.head _), List.forall_mem_cons.mpr ⟨List.Mem.tail _ (List.Mem.tail _ (List.Mem.head _)), by walk_at "U subs"⟩⟩⟩)
  · with_reducible rename News _ _ _ _ => jN'
    exact con_ret (R := RPl S C ws turn rest) (by assumption) ⟨_, _, _, _, _, _, _, rfl, plain2 (by with_reducible assumption) (by with_reducible assumption) (by with_reducible assumption) (by with_reducible assumption) (by with_reducible assumption) (by with_reducible assumption) (by with_reducible assumption) (by with_reducible assumption) (by with_reducible assumption) (by with_reducible assumption) (by with_reducible assumption), by omega, by omega, ⟨by omega, by omega, by walk_at "U lt"⟩, rfl⟩ (by k_asm) jN' (List.forall_mem_cons.mpr ⟨List.Mem.head _, List.forall_mem_cons.mpr ⟨List.Mem.tail _ (List.Mem.head _), List.forall_mem_cons.mpr ⟨List.Mem.tail _ (List.Mem.tail _ (List.Mem.head _)), by walk_at "U subs"⟩⟩⟩)
  · with_reducible rename News _ _ _ _ => jN'
    exact con_ret (R := RPl S C ws turn rest) (by assumption) ⟨_, _, _, _, _, _, _, rfl, plain3 (by with_reducible assumption) (by with_reducible assumption) (by with_reducible assumption) (by with_reducible assumption) (by with_reducible assumption) (by with_reducible assumption) (by with_reducible assumption) (by with_reducible assumption) (by with_reducible assumption) (by with_reducible assumption), by omega, by omega, ⟨by omega, by omega, by walk_at "U lt"⟩, rfl⟩ (by k_asm) jN' (List.forall_mem_cons.mpr ⟨List.Mem.head _, List.forall_mem_cons.mpr ⟨List.Mem.tail _ (List.Mem.head _), List.forall_mem_cons.mpr ⟨List.Mem.tail _ (List.Mem.tail _ (List.Mem.head _)), by walk_at "U subs"⟩⟩⟩)
  · with_reducible rename News _ _ _ _ => jN'
    exact con_ret (R := RPl S C ws turn rest) (by assumption) ⟨_, _, _, _, _, _, _, rfl, plain4 (by with_reducible assumption) (by with_reducible assumption) (by with_reducible assumption) (by with_reducible assumption) (by with_reducible assumption) (by with_reducible assumption) (by with_reducible assumption) (by with_reducible assumption) (by with_reducible assumption) (by with_reducible assumption) (by with_reducible assumption) (by with_reducible assumption), by omega, by omega, ⟨by omega, by omega, by walk_at "U lt"⟩, rfl⟩ (by k_asm) jN' (List.forall_mem_cons.mpr ⟨List.Mem.head _, List.forall_mem_cons.mpr ⟨List.Mem.tail _ (List.Mem.head _), List.forall_mem_cons.mpr ⟨List.Mem.tail _ (List.Mem.tail _ (List.Mem.head _)), by walk_at "U subs"⟩⟩⟩)
end

-- piece 58
-- needs: 38 54 57 496
theorem lz_menu5 : ∀ a, a < 5 → Lz (menu5 a) = m5 a := by decide +kernel
theorem lz_menu3 : ∀ a, a < 3 → Lz (menu3 a) = m3 a := by decide +kernel
theorem plainT_eq {a n c h t : Nat} {pt : Bool} (ha : a < 5) (ht : t < 3) : plainT a n c pt h t = plT a n c pt h t := by
  unfold plainT plT
  rw [lz_menu5 a ha, lz_menu3 t ht]
theorem o_lt : PySem.Str.ofString "<" = St [60] := by decide +kernel
theorem o_gt : PySem.Str.ofString ">" = St [62] := by decide +kernel
theorem signOk_of {p : Pic} (h : sgB p.sign = true) : SignOk p := by
  unfold sgB at h
  simp only [Bool.or_eq_true, beq_iff_eq] at h
  exact h
/-- the picture's text between brackets -/
def brT (x : PySem.Str) : PySem.Str := PySem.Str.ofString "<" ++ x ++ PySem.Str.ofString ">"
/-- what the plain picture's text is read as -/
structure PlF (x : PySem.Str) (b : Int) (p : Pic) : Prop where
  tx : Tx x p
  gp : GP p
  pl : PlP p
  rt : p.right = b
  br : rdL (suf (brT x) (0 + 1)) = (p, x.length) ∧ bgnL (suf (brT x) 0) = false ∧ bgnL (suf (brT x) (0 + 1)) = true ∧ bgnL (suf (brT x) (0 + 1 + x.length)) = false ∧ Txt.item (brT x) 0 = St [60] ∧ Txt.item (brT x) (0 + 1 + x.length) = St [62] ∧ (brT x).length = x.length + 2
  len : x.length ≤ 90
theorem lz_brT (x : PySem.Str) : Lz (brT x) = 60 :: (Lz x ++ [62]) := by
  unfold brT; rw [lz_append, lz_append, o_lt, o_gt]; rfl
theorem suf0 (x : PySem.Str) : suf x 0 = Lz x := by unfold suf; rfl
theorem chkP_get {D : List Nat} {R : Nat} {r r2 : Pic × Nat} (h : chkP D R r r2 = true) :
    bgnL D = true ∧ bgnL (D ++ [62]) = true ∧ r.2 = D.length ∧ r2.2 = D.length ∧ r.1 = r2.1 ∧ r.1.expo = false ∧ SignOk r.1 ∧ r.1.right = (R : Int) ∧ (r.1.point = true ∨ r.1.right = 0) ∧ 0 ≤ r.1.left ∧ r.1.left ≤ 30 ∧ D.length ≤ 90 ∧ 0 < D.length := by
  unfold chkP at h
  simp only [Bool.and_eq_true, decide_eq_true_eq, Bool.not_eq_true', Bool.or_eq_true] at h
  obtain ⟨h1, h2, h3, h4, h5, h6, h7, h8, h9, h10, h11, h12, h13⟩ := h
  exact ⟨h1, h2, h3, h4, picB_eq h5, h6, signOk_of h7, h8, h9, h10, h11, h12, h13⟩
theorem plF_of {x : PySem.Str} {b : Int} (h : PlainL x b) : ∃ p, PlF x b p := by
  obtain ⟨a, n, c, h, t, pt, ha, hn, hc, hh, ht, hpt, rfl, rfl⟩ := h
  rw [plainT_eq ha ht]
  have hk : chkP (plT a n c pt h t) h (rdL (plT a n c pt h t)) (rdL (plT a n c pt h t ++ [62])) = true := by
    cases pt with
    | true => exact chk_t a ha n hn c hc h hh t ht
    | false =>
      have h0 : h = 0 := hpt.resolve_left (by decide)
      subst h0
      exact chk_f a ha n hn c hc t ht
  generalize plT a n c pt h t = D at hk ⊢
  have e : Lz (St D) = D := rfl
  generalize hr : rdL D = r at hk
  generalize hr2 : rdL (D ++ [62]) = r2 at hk
  obtain ⟨h1, h2, h3, h4, h5, h6, h7, h8, h9, h10, h11, h12, h13⟩ := chkP_get hk
  obtain ⟨p, n1⟩ := r
  obtain ⟨p2, n2⟩ := r2
  simp only at h3 h4 h5 h6 h7 h8 h9 h10 h11
  subst h3; subst h4; subst h5
  have hl : (St D).length = D.length := rfl
  have hb := lz_brT (St D)
  rw [e] at hb
  have s1 : suf (brT (St D)) (0 + 1) = D ++ [62] := by unfold suf; rw [hb]; rfl
  have s2 : suf (brT (St D)) (0 + 1 + (St D).length) = [62] := by
    unfold suf
    rw [hb, show (0 + 1 + ((St D).length : Int)).toNat = D.length + 1 by rw [hl]; omega, List.drop_succ_cons, List.drop_left]
  have hlen : (brT (St D)).length = D.length + 2 := by rw [← lz_length, hb]; simp only [List.length_cons, List.length_append, List.length_nil]
  refine ⟨p, ⟨D.length, ?_, ?_, by rw [hl]; omega, by rw [hl], by rw [hl]; omega⟩, .inl ⟨h6, h10, h11, by omega, by omega⟩, ⟨h6, h7, by omega, by omega, h9⟩, h8, ⟨?_, ?_, ?_, ?_, ?_, ?_, by rw [hlen, hl]⟩, by rw [hl]; exact h12⟩
  · rw [suf0, e]; exact hr
  · rw [suf0, e]; exact h1
  · rw [s1, hr2, hl]
  · rw [suf0, hb]; rfl
  · rw [s1]; exact h2
  · rw [s2]; decide
  · obtain ⟨c', q1, q2⟩ := item_lz (x := brT (St D)) (i := 0) (by decide) (by rw [hlen]; omega)
    rw [hb] at q1
    have : c' = 60 := (Option.some.inj q1).symm
    rw [q2, this]
  · obtain ⟨c', q1, q2⟩ := item_lz (x := brT (St D)) (i := 0 + 1 + (St D).length) (by omega) (by rw [hlen, hl]; omega)
    rw [hb, show (0 + 1 + ((St D).length : Int)).toNat = D.length + 1 by rw [hl]; omega, List.getElem?_cons_succ, List.getElem?_append_right (Nat.le_refl _), Nat.sub_self] at q1
    have : c' = 62 := (Option.some.inj q1).symm
    rw [q2, this]
/-- what is shown is read as due, and shown again -/
def ShowOk (x : PySem.Str) (c e a b : Int) : Prop := ∃ p, Tx x p ∧ GP p ∧ (c.natAbs : Int) < 10 ^ 12 ∧ -20 ≤ e ∧ e ≤ 20 ∧ (a.natAbs : Int) < 10 ^ 12 ∧ -20 ≤ b ∧ b ≤ 20 ∧ RdF (Lz (St (shw p c e))) a b ∧ (a ≠ 0 → shw p a b = shw p c e)
theorem shown_right_b (x : PySem.Str) (v : Value) (D : Addr) (c e a b : Int) (t1 t2 t3 : Tok) (h : ShowOk x c e a b) :
    Con 293 12 [.str x t1, v, .ref D] (fun P news => NV P news v c e ∧ TA P news D a b t2 t3) (RV fun _ => .bool true) := by
  obtain ⟨p, h1, h2, h3, h4, h5, h6, h7, h8, h9, h10⟩ := h
  exact shown_right_c x p v D c e a b t1 t2 t3 h1 h2 h3 h4 h5 h6 h7 h8 h9 h10
theorem valOk_bd {c e : Int} (h : ValOk c e) : (c.natAbs : Int) < 10 ^ 12 ∧ -20 ≤ e ∧ e ≤ 20 := by
  obtain ⟨v1, v2, v3, v4, v5, v6⟩ := h
  have h9 : (10 : Int) ^ 6 < 10 ^ 12 := by decide
  exact ⟨by omega, by omega, by omega⟩
theorem showOk_plain {x : PySem.Str} {p : Pic} {c e a b R : Int} (h : PlF x R p) (hv : ValOk c e) (ha : a = (mad c e 9).1) (hb : b = (mad c e 9).2) : ShowOk x c e (drd a b R).1 (drd a b R).2 := by
  obtain ⟨h1, h2, h3, h4, h5, h6⟩ := h
  subst ha; subst hb; subst h4
  have hl := plain_law h3 hv
  have hd := drd_bd (R := p.right) (valOk_made hv) h3.2.2.1 h3.2.2.2.1
  have hq := valOk_bd hv
  exact ⟨p, h1, h2, hq.1, hq.2.1, hq.2.2, hd.1, hd.2.1, hd.2.2, hl.1, hl.2⟩
/-- the text of a picture with an exponent -/
def powS (k r : Int) : PySem.Str := Txt.mul (PySem.Str.ofString "#") k ++ (if 0 < r then PySem.Str.ofString "." ++ Txt.mul (PySem.Str.ofString "#") r else PySem.Str.ofString "") ++ PySem.Str.ofString "^^^^"
theorem lz_powS {k r : Int} : Lz (powS k r) = poD k.toNat r.toNat := by
  unfold powS poD
  by_cases h : 0 < r
  · rw [if_pos h, if_pos (by omega)]
    simp only [lz_append, lz_hash, lz_dot, o_cc, lz_st, List.append_assoc, List.cons_append, List.nil_append]
  · rw [if_neg h, if_neg (by omega)]
    simp only [lz_append, lz_hash, o_empty, o_cc, lz_st, List.append_assoc, List.nil_append]
theorem showOk_pow {c e a b k r : Int} (k0 : 2 ≤ k) (k1 : k ≤ 5) (r0 : 0 ≤ r) (r1 : r < 4) (hv : ValOk c e) (ha : a = (mad c e 9).1) (hb : b = (mad c e 9).2) : ShowOk (powS k r) c e (mad a b (k - 1 + r)).1 (mad a b (k - 1 + r)).2 := by
  have hk := chk_e k.toNat (by omega) (by omega) r.toNat (by omega)
  rw [← lz_powS] at hk
  generalize hD : powS k r = x at hk ⊢
  generalize hr : rdL (Lz x) = q at hk
  obtain ⟨q, n⟩ := q
  unfold chkE at hk
  simp only [Bool.and_eq_true, decide_eq_true_eq] at hk
  obtain ⟨h1, h2, h3, h4, h5⟩ := hk
  have h3' := picB_eq h3
  rw [show ((k.toNat : Nat) : Int) = k by omega, show ((r.toNat : Nat) : Int) = r by omega] at h3'
  rw [lz_length] at h2 h4 h5
  have hT : Tx x q := ⟨n, by rw [suf0, hr], by rw [suf0]; exact h1, by omega, by omega, by omega⟩
  have hE : ExpoPic q := by subst h3'; rfl
  have hX : ExP q := ⟨hE, by rw [h3'], by rw [h3']; exact k0, by rw [h3']; exact k1, by rw [h3']; exact r0, by rw [h3']; show r ≤ 3; omega, by rw [h3']; show decide (0 < r.toNat) = true ∨ r = 0; rw [decide_eq_true_eq]; omega⟩
  have hl := expo_law hX hv
  have hq := valOk_bd hv
  have hm := valOk_made hv
  rw [h3'] at hl
  simp only at hl
  rw [← ha, ← hb] at hl hm
  have h67 : (10 : Int) ^ 6 < 10 ^ 7 := by decide
  have hd := mad_bd (c := a) (e := b) (d := k - 1 + r) (by have := hm.1; omega) hm.2.1 hm.2.2.2.2.1 (by omega)
  refine ⟨q, hT, .inr ⟨hE, by rw [h3'], by rw [h3'], by rw [h3']; exact k0, by rw [h3']; show k ≤ 10; omega, by rw [h3']; exact r0, by rw [h3']; show r ≤ 10; omega⟩, hq.1, hq.2.1, hq.2.2, hd.1, hd.2.1, hd.2.2, ?_, ?_⟩
  · rw [h3']; exact hl.1
  · rw [h3']; exact hl.2
def menu2 (i : Nat) : PySem.Str := [PySem.Str.ofString "", PySem.Str.ofString "**"].getD i (PySem.Str.ofString "")
theorem menu2_at {t0 t1 : Tok} : ∀ i, i < 2 → ∃ t, [Value.str (Str.ofString "") t0, .str (Str.ofString "**") t1][i]? = some (.str (menu2 i) t)
  | 0, _ => ⟨t0, rfl⟩
  | 1, _ => ⟨t1, rfl⟩
theorem menu2_len : ∀ i, (menu2 i).length ≤ 2
  | 0 => by decide +kernel
  | 1 => by decide +kernel
  | _ + 2 => by show (PySem.Str.ofString "").length ≤ 2; decide +kernel
theorem lz_menu2 : ∀ a, a < 2 → Lz (menu2 a) = if a = 0 then [] else [42, 42] := by decide +kernel
def widS (a c h : Int) : PySem.Str := menu2 a.toNat ++ Txt.mul (PySem.Str.ofString "#") 12 ++ Txt.mul (PySem.Str.ofString ",") c ++ PySem.Str.ofString "." ++ Txt.mul (PySem.Str.ofString "#") h
theorem lz_widS {a c h : Int} (a0 : 0 ≤ a) (a1 : a < 2) : Lz (widS a c h) = wdD a.toNat c.toNat h.toNat := by
  unfold widS wdD
  simp only [lz_append, lz_hash, lz_comma, lz_dot, lz_menu2 a.toNat (by omega), List.append_assoc, List.cons_append, List.nil_append]
  rfl
def OrderOk (x : PySem.Str) (c1 e1 c2 e2 : Int) : Prop := ∃ p a1 b1 a2 b2, Tx x p ∧ GP p ∧ (c1.natAbs : Int) < 10 ^ 12 ∧ -20 ≤ e1 ∧ e1 ≤ 20 ∧ (c2.natAbs : Int) < 10 ^ 12 ∧ -20 ≤ e2 ∧ e2 ≤ 20 ∧
  (a1.natAbs : Int) < 10 ^ 18 ∧ -60 ≤ b1 ∧ b1 ≤ 20 ∧ (a2.natAbs : Int) < 10 ^ 18 ∧ -60 ≤ b2 ∧ b2 ≤ 20 ∧ RdF (Lz (St (shw p c1 e1))) a1 b1 ∧ RdF (Lz (St (shw p c2 e2))) a2 b2 ∧
  (shw p c2 e2 < shw p c1 e1 ↔ alk a2 b2 b1 < alk a1 b1 b2) ∧ (shw p c1 e1 < shw p c2 e2 ↔ alk a1 b1 b2 < alk a2 b2 b1)
theorem order_right_b (x : PySem.Str) (v o : Value) (c1 e1 c2 e2 : Int) (t1 : Tok) (h : OrderOk x c1 e1 c2 e2) :
    Con 300 12 [.str x t1, v, o] (fun P news => NV P news v c1 e1 ∧ NV P news o c2 e2) (RV fun _ => .bool true) := by
  obtain ⟨p, a1, b1, a2, b2, h1, h2, q1, q2, q3, q4, q5, q6, r1, r2, r3, r4, r5, r6, R1, R2, O1, O2⟩ := h
  exact order_right_c x p v o c1 e1 c2 e2 a1 b1 a2 b2 t1 h1 h2 q1 q2 q3 q4 q5 q6 r1 r2 r3 r4 r5 r6 R1 R2 O1 O2
theorem orderOk_of {ka kc kh c1 e1 c2 e2 : Int} (a0 : 0 ≤ ka) (a1 : ka < 2) (d0 : 0 ≤ kc) (d1 : kc < 2) (h0 : 0 ≤ kh) (h1 : kh < 3) (hv1 : ValOk c1 e1) (hv2 : ValOk c2 e2) : OrderOk (widS ka kc kh) c1.natAbs e1 c2.natAbs e2 := by
  have hk := chk_w ka.toNat (by omega) kc.toNat (by omega) kh.toNat (by omega)
  rw [← lz_widS a0 a1] at hk
  generalize hD : widS ka kc kh = x at hk ⊢
  generalize hr : rdL (Lz x) = q at hk
  obtain ⟨p, n⟩ := q
  unfold chkW at hk
  simp only [Bool.and_eq_true, decide_eq_true_eq, Bool.not_eq_true', beq_iff_eq] at hk
  obtain ⟨g1, g2, g3, g4, g5, g6, g7, g8, g9, g10, g11, g12⟩ := hk
  rw [lz_length] at g2 g11 g12
  have hT : Tx x p := ⟨n, by rw [suf0, hr], by rw [suf0]; exact g1, by omega, by omega, by omega⟩
  have hW : WdP p := ⟨g3, g4, g5, g6, g7, g8, g9, g10⟩
  have u1 := valOk_abs hv1
  have u2 := valOk_abs hv2
  obtain ⟨x1, y1, x2, y2, l1, l2, l3, l4, l5, l6, l7, l8, l9, l10⟩ := order_law hW u1 u2 (by omega) (by omega)
  have b1 := valOk_bd u1
  have b2 := valOk_bd u2
  exact ⟨p, x1, y1, x2, y2, hT, .inl ⟨g3, by omega, by omega, g9, by omega⟩, b1.1, b1.2.1, b1.2.2, b2.1, b2.2.1, b2.2.2, l3, l4, l5, l6, l7, l8, l1, l2, l9, l10⟩
theorem using3_b (x : PySem.Str) (p : Pic) (R : Int) (m : Nat) (v0 v1 v2 : Value) (V : Addr) (c0 e0 c1 e1 c2 e2 : Int) (t1 : Tok) (h : PlF x R p) (q0 : ValOk c0 e0) (q1 : ValOk c1 e1) (q2 : ValOk c2 e2) :
    Con 203 10 [.str (brT x) t1, .ref V] (fun P news => (V, listOf #[v0, v1, v2] m) ∈ news ∧ NV P news v0 c0 e0 ∧ NV P news v1 c1 e1 ∧ NV P news v2 c2 e2)
      (RV fun t => .str (St [60] ++ St (shw p c0 e0) ++ St [62] ++ (St [60] ++ St (shw p c1 e1) ++ St [62]) ++ (St [60] ++ St (shw p c2 e2) ++ St [62])) t) := by
  obtain ⟨⟨n, _, _, _, _, _⟩, h2, _, _, ⟨r1, r2, r3, r4, r5, r6, r7⟩, h6⟩ := h
  have n1 : ∀ s, s = St [60] ∨ s = St [62] → (s == PySem.Str.ofString "!") = false ∧ (s == PySem.Str.ofString "&") = false ∧ (s == PySem.Str.ofString "_") = false ∧ (s == PySem.Str.ofString "\\") = false ∧ ((PySem.Str.ofString "" ++ s) != PySem.Str.ofString "") = true := by
    rintro s (rfl | rfl) <;> decide +kernel
  have i0 := n1 _ (.inl r5)
  have i1 := n1 _ (.inr r6)
  have z0 : Txt.item (brT x) (0 + 1 - 1) = Txt.item (brT x) 0 := rfl
  have z1 : Txt.item (brT x) (0 + 1 + (x.length : Int) + 1 - 1) = Txt.item (brT x) (0 + 1 + x.length) := by rw [show (0 + 1 + (x.length : Int) + 1 - 1) = 0 + 1 + (x.length : Int) by omega]
  have b0 := valOk_bd q0
  have b1 := valOk_bd q1
  have b2 := valOk_bd q2
  have ea : PySem.Str.ofString "" ++ Txt.item (brT x) (0 + 1 - 1) = St [60] := by rw [z0, r5, o_empty, st_append]; rfl
  have eb : PySem.Str.ofString "" ++ Txt.item (brT x) (0 + 1 + (x.length : Int) + 1 - 1) = St [62] := by rw [z1, r6, o_empty, st_append]; rfl
  exact using3_c (brT x) p x.length m v0 v1 v2 V c0 e0 c1 e1 c2 e2 t1 (St [60]) (St [62]) r1 r2 r3 r4 i0.1 i0.2.1 i0.2.2.1 i0.2.2.2.1 i1.1 i1.2.1 i1.2.2.1 i1.2.2.2.1 (by rw [z0]; exact i0.2.2.2.2) (by rw [z1]; exact i1.2.2.2.2) ea eb rfl rfl (by omega) (by omega) h2
    b0.1 b0.2.1 b0.2.2 b1.1 b1.2.1 b1.2.2 b2.1 b2.2.1 b2.2.2
theorem using1_b (x : PySem.Str) (p : Pic) (R : Int) (m : Nat) (v : Value) (V : Addr) (c e : Int) (t1 : Tok) (h : PlF x R p) (hv : ValOk c e) :
    Con 203 10 [.str x t1, .ref V] (fun P news => (V, listOf #[v] m) ∈ news ∧ NV P news v c e) (RVF ((St (shw p c e)).length ≤ 400) fun t => .str (St (shw p c e)) t) := by
  have b := valOk_bd hv
  exact using1_t x p m v V c e t1 h.tx h.gp b.1 b.2.1 b.2.2

-- piece 59
-- needs: 58 14 15 18
theorem decimal_of_t (D : Addr) (c e : Int) (t1 t2 t3 : Tok) (hc : (c.natAbs : Int) < 10 ^ 20) (he1 : -60 ≤ e) (he2 : e ≤ 20) : Con 65 4 [.ref D, .int 9 t3] (fun P news => TA P news D c e t1 t2) (RT (mad c e 9).1 (mad c e 9).2) := by
  walk_at "U in"
  have jT := ‹TA _ _ _ _ _ _ _›
  k_steps
  walk_at "U retT" <;> rfl
/-- a number made: a new pair, its parts by letters -/
def RNm (c e : Int) (_ : Params) (news : List (Addr × Obj)) (v : Value) (nx : List (Addr × Obj)) : Prop :=
  ∃ D a b t1 t2, v = .ref D ∧ nx = (D, tupO [.int a t1, .int b t2]) :: news ∧ AllLt D news ∧ ValOk a b ∧ a = (mad c e 9).1 ∧ b = (mad c e 9).2
theorem decimal_of_v (v : Value) (c e : Int) (t3 : Tok) (hv : ValOk c e) : Con 65 4 [v, .int 9 t3] (fun P news => NV P news v c e) (RNm c e) := by
  have h20 : (10 : Int) ^ 6 < 10 ^ 20 := by decide
  have h1 := hv.1
  have h2 := hv.2.1
  have h3 := hv.2.2.1
  have hm := valOk_made hv
  intro w mean mg mb dp un gd cn cs a ccd cl outer A₀ base h₀ L m news s Q E B F X N T hk hdp hu hH hret
  have hr : ∀ (v : Value) (nx : List (Addr × Obj)) (h' : Heap) (tk' : Nat), RT (mad c e 9).1 (mad c e 9).2 w.params news v nx → Fr h₀ L h' m → News h₀ L h' nx → Q v { s with heap := h', toks := tk' } := by
    rintro v nx h' tk' ⟨D, t1, t2, rfl, rfl, hl⟩ F' N'
    exact hret _ _ _ _ ⟨D, _, _, t1, t2, rfl, rfl, hl, hm, rfl, rfl⟩ F' N'
  rcases hH with ⟨t, rfl, rfl⟩ | ⟨D, t1, t2, rfl, hT⟩
  · exact decimal_of_i c t t3 (by omega) w mean mg mb dp un gd cn cs a ccd cl outer A₀ base h₀ L m news s Q E B F X N T hk hdp hu trivial hr
  · exact decimal_of_t D c e t1 t2 t3 (by omega) (by omega) (by omega) w mean mg mb dp un gd cn cs a ccd cl outer A₀ base h₀ L m news s Q E B F X N T hk hdp hu hT hr
/-- a pair of ints, with one more thing on the ledger -/
def RTq (a b : Int) (P : Params) (news : List (Addr × Obj)) (v : Value) (nx : List (Addr × Obj)) : Prop := ∃ D t1 t2 qa qo, v = .ref D ∧ nx = (qa, qo) :: news ∧ TA P nx D a b t1 t2
theorem d_round_t (D : Addr) (c e p : Int) (t1 t2 t3 t4 : Tok) (hv : ValOk c e) (hp : 0 ≤ p) (hp2 : p ≤ 4) :
    Con 232 4 [.ref D, .int p t3, .int 9 t4] (fun _ news => (D, tupO [.int c t1, .int e t2]) ∈ news) (RTq (drd c e p).1 (drd c e p).2) := by
  have h19 : (10 : Int) ^ 6 < 10 ^ 19 := by decide
  have h1 := hv.1
  have h2 := hv.2.1
  have h3 := hv.2.2.1
  intro w mean mg mb dp un gd cn cs a ccd cl outer A₀ base h₀ L m news s Q E B F X N T hk hdp hu hH hret
  refine d_round_c D c e p t1 t2 t3 t4 (by omega) (by omega) (by omega) hp (by omega) w mean mg mb dp un gd cn cs a ccd cl outer A₀ base h₀ L m news s Q E B F X N T hk hdp hu hH ?_
  rintro v nx h' tk' ((⟨D', s1, s2, rfl, rfl, hl⟩ | ⟨rfl, rfl, ha, hb⟩) | ⟨rfl, rfl, s1, s2, hm⟩) F' N'
  · exact hret _ _ _ _ ⟨D', s1, s2, _, _, rfl, rfl, .inl (List.Mem.head _)⟩ F' N'
  · have ex : ∃ s1 s2, (hd.heap_39 w.params).lookup 204 = some (tupO [.int 0 s1, .int 0 s2]) := ⟨_, _, rfl⟩
    obtain ⟨s1, s2, ex⟩ := ex
    refine hret _ ((D, tupO [.int c t1, .int e t2]) :: nx) _ _ ⟨204, s1, s2, _, _, rfl, rfl, .inr ?_⟩ F' (List.forall_mem_cons.mpr ⟨N' _ hH, N'⟩)
    rw [ha, hb]; exact ex
  · exact hret _ ((D, tupO [.int c t1, .int e t2]) :: nx) _ _ ⟨_, s1, s2, _, _, rfl, rfl, .inl (List.Mem.tail _ hm)⟩ F' (List.forall_mem_cons.mpr ⟨N' _ hH, N'⟩)

-- piece 591
-- needs: 59
section
open PySem.Spec PyProof.Rows.LCg
variable {prog : Program} {w : World} {A : Around} {s : Shared} {h₀ : Heap} {L : Addr} {m : Str → Option Value} {env : Env} {elt : PySem.Expr} {x : Str} {scope : Scope} {cl : List (Str × Addr)} {P' : Nat → Value → Prop} {Fin : List Value → List (Addr × Obj) → Prop} {S0 C0 : Addr} {ws : List Value}
/-- one turn: a number drawn -/
def TurnN (prog : Program) (w : World) (A : Around) (h₀ : Heap) (L : Addr) (m : Str → Option Value) (env : Env) (elt : PySem.Expr) (scope : Scope) (cl : List (Str × Addr)) (s : Shared) (S0 C0 : Addr) (ws : List Value) (rest0 : List (Addr × Obj)) : Prop :=
  ∀ (turn : Int) (t : Tok) (rest : List (Addr × Obj)) (C : Addr) (h : Heap) (tk : Nat) (E' : Value → Shared → Prop), 0 ≤ turn → turn ≤ 100 → (∀ p ∈ rest0 ++ rest, p.1 ≠ S0) → Fr h₀ L h m → News h₀ L h ((S0, listOf #[.ref C0, .int turn t] 0) :: (C0, listOf ws.toArray 0) :: (rest0 ++ rest)) →
    wpAny (model prog w) A (eval elt (compEnvC scope cl C env)) (fun y s' => ∃ h' tk' nx, s' = { s with heap := h', toks := tk' } ∧ Fr h₀ L h' m ∧ News h₀ L h' nx ∧ RNum S0 C0 ws turn (rest0 ++ rest) w.params ((S0, listOf #[.ref C0, .int turn t] 0) :: (C0, listOf ws.toArray 0) :: (rest0 ++ rest)) y nx) E' { s with heap := h, toks := tk }
theorem allLt_mem {d : Addr} : ∀ {l : List (Addr × Obj)}, AllLt d l → ∀ p ∈ l, @LT.lt Nat _ p.1 d
  | [], _, _, h => nomatch h
  | _ :: _, x, p, h => by
    rcases List.mem_cons.mp h with rfl | h
    · exact x.1
    · exact allLt_mem x.2 p h
theorem values_step {turn : Int} {t : Tok} {qs rest0 : List (Addr × Obj)} {k i : Nat} {ys : List Value} (T : TurnN prog w A h₀ L m env elt scope cl s S0 C0 ws rest0) (hSC : @LT.lt Nat _ C0 S0) (hq0 : ∀ p ∈ qs, p.1 ≠ S0) (hr0 : ∀ p ∈ rest0, p.1 ≠ S0) (hC0 : ∀ p ∈ rest0, p.1 ≠ C0)
    (h0 : 0 ≤ turn) (h1 : turn ≤ 100)
    (ih : ∀ v c e turn' t' qa qo, turn ≤ turn' → turn' ≤ turn + 4 → ValOk c e → NV w.params [(qa, qo)] v c e → @Ne Nat qa S0 → (∀ p ∈ rest0, p.1 ≠ qa) →
      CompRest prog w A h₀ L m env elt x scope cl s (fun _ => True) P' Fin k (i + 1) (ys ++ [v]) ((S0, listOf #[.ref C0, .int turn' t'] 0) :: (C0, listOf ws.toArray 0) :: ((qa, qo) :: (qs ++ rest0)))) :
    CompRest prog w A h₀ L m env elt x scope cl s (fun _ => True) P' Fin (k + 1) i ys ((S0, listOf #[.ref C0, .int turn t] 0) :: (C0, listOf ws.toArray 0) :: (qs ++ rest0)) := by
  refine CompRest.succ ?_
  intro v' I oI C oC D m₂ h tk E' hP hC hx F N off ne
  have offm := Off3.mem off
  have oS := offm _ (List.Mem.head _)
  have oC0 := offm _ (List.Mem.tail _ (List.Mem.head _))
  have oR : ∀ p ∈ qs ++ rest0, p.1 ≠ I ∧ p.1 ≠ C ∧ p.1 ≠ D := fun p hp => offm p (List.Mem.tail _ (List.Mem.tail _ hp))
  have hrest : ∀ p ∈ rest0 ++ (I, oI) :: (C, oC) :: (D, lst ys) :: qs, p.1 ≠ S0 := by
    intro p hp
    rcases List.mem_append.mp hp with hp | hp
    · exact hr0 p hp
    · rcases List.mem_cons.mp hp with rfl | hp
      · exact fun e => oS.1 e.symm
      · rcases List.mem_cons.mp hp with rfl | hp
        · exact fun e => oS.2.1 e.symm
        · rcases List.mem_cons.mp hp with rfl | hp
          · exact fun e => oS.2.2 e.symm
          · exact hq0 p hp
  have hperm : ∀ p ∈ (S0, listOf #[.ref C0, .int turn t] 0) :: (C0, listOf ws.toArray 0) :: (rest0 ++ (I, oI) :: (C, oC) :: (D, lst ys) :: qs), p ∈ (I, oI) :: (C, oC) :: (D, lst ys) :: (S0, listOf #[.ref C0, .int turn t] 0) :: (C0, listOf ws.toArray 0) :: (qs ++ rest0) := by
    intro p hp
    simp only [List.mem_cons, List.mem_append] at hp ⊢
    rcases hp with h | h | h | h | h | h | h <;> simp only [h, true_or, or_true]
  refine wpAny_mono (T turn t _ C h tk E' h0 h1 hrest F fun p hp => N p (hperm p hp)) (fun y s' hq => ?_) fun _ _ e => e
  obtain ⟨h', tk', nx, rfl, F', N', c, e, turn', qa, qo, t', b1, b2, hv, hN, hq, rfl⟩ := hq
  have qS : @Ne Nat qa S0 := by
    rcases hq with hq | hq
    · rw [hq]; exact Nat.ne_of_lt hSC
    · exact Nat.ne_of_gt hq.1
  have qI : qa ≠ I ∧ qa ≠ C ∧ qa ≠ D := by
    rcases hq with hq | hq
    · rw [hq]; exact oC0
    · have hm := allLt_mem hq.2.2
      exact ⟨Nat.ne_of_gt (hm (I, oI) (List.mem_append.mpr (.inr (.head _)))), Nat.ne_of_gt (hm (C, oC) (List.mem_append.mpr (.inr (.tail _ (.head _))))), Nat.ne_of_gt (hm (D, lst ys) (List.mem_append.mpr (.inr (.tail _ (.tail _ (.head _))))))⟩
  have qR : ∀ p ∈ rest0, p.1 ≠ qa := by
    intro p hp
    rcases hq with hq | hq
    · rw [hq]; exact hC0 p hp
    · exact Nat.ne_of_lt (allLt_mem hq.2.2 p (List.mem_append.mpr (.inl hp)))
  refine ⟨h', tk', _, rfl, F', ?_, ?_, trivial, ih y c e turn' t' qa qo b1 b2 hv hN qS qR⟩
  · intro p hp
    refine N' p ?_
    simp only [List.mem_cons, List.mem_append] at hp ⊢
    rcases hp with h | h | h | h | h | h | h | h <;> simp only [h, true_or, or_true]
  · refine Off3.of fun p hp => ?_
    rcases List.mem_cons.mp hp with rfl | hp
    · exact oS
    · rcases List.mem_cons.mp hp with rfl | hp
      · exact oC0
      · rcases List.mem_cons.mp hp with rfl | hp
        · exact qI
        · exact oR p hp
theorem values_rest {t : Tok} {rest0 : List (Addr × Obj)} (T : TurnN prog w A h₀ L m env elt scope cl s S0 C0 ws rest0) (hSC : @LT.lt Nat _ C0 S0) (hr0 : ∀ p ∈ rest0, p.1 ≠ S0) (hC0 : ∀ p ∈ rest0, p.1 ≠ C0)
    (fin : ∀ v0 v1 v2 c0 e0 c1 e1 c2 e2 turn' t' qa0 qo0 qa1 qo1 qa2 qo2, 0 ≤ turn' → turn' ≤ 12 → ValOk c0 e0 → ValOk c1 e1 → ValOk c2 e2 → NV w.params [(qa0, qo0)] v0 c0 e0 → NV w.params [(qa1, qo1)] v1 c1 e1 → NV w.params [(qa2, qo2)] v2 c2 e2 →
      @Ne Nat qa0 S0 → @Ne Nat qa1 S0 → @Ne Nat qa2 S0 → (∀ p ∈ rest0, @Ne Nat p.1 qa0) → (∀ p ∈ rest0, @Ne Nat p.1 qa1) → (∀ p ∈ rest0, @Ne Nat p.1 qa2) →
      Fin [v0, v1, v2] ((S0, listOf #[.ref C0, .int turn' t'] 0) :: (C0, listOf ws.toArray 0) :: (qa2, qo2) :: (qa1, qo1) :: (qa0, qo0) :: rest0)) :
    CompRest prog w A h₀ L m env elt x scope cl s (fun _ => True) P' Fin 3 0 [] ((S0, listOf #[.ref C0, .int 0 t] 0) :: (C0, listOf ws.toArray 0) :: rest0) := by
  refine values_step (qs := []) T hSC (by intro p hp; cases hp) hr0 hC0 (by decide) (by decide) ?_
  intro v0 c0 e0 r0 t0 qa0 qo0 a1 a2 hv0 hN0 hs0 hq0
  refine values_step (qs := [(qa0, qo0)]) T hSC (by intro p hp; rw [List.mem_singleton.mp hp]; exact hs0) hr0 hC0 (by omega) (by omega) ?_
  intro v1 c1 e1 r1 t1 qa1 qo1 b1 b2 hv1 hN1 hs1 hq1
  refine values_step (qs := [(qa1, qo1), (qa0, qo0)]) T hSC (by intro p hp; rcases List.mem_cons.mp hp with rfl | hp; exact hs1; rw [List.mem_singleton.mp hp]; exact hs0) hr0 hC0 (by omega) (by omega) ?_
  intro v2 c2 e2 r2 t2 qa2 qo2 d1 d2 hv2 hN2 hs2 hq2
  exact CompRest.zero (fin v0 v1 v2 c0 e0 c1 e1 c2 e2 r2 t2 qa0 qo0 qa1 qo1 qa2 qo2 (by omega) (by omega) hv0 hv1 hv2 hN0 hN1 hN2 hs0 hs1 hs2 hq0 hq1 hq2)
end

-- piece 592
-- needs: 591
theorem News.tl {h₀ h : Heap} {L : Addr} {q : Addr × Obj} {l : List (Addr × Obj)} (N : News h₀ L h (q :: l)) : News h₀ L h l := fun p hp => N p (List.Mem.tail _ hp)
theorem NV.at {P : Params} {q : Addr × Obj} {nx : List (Addr × Obj)} {v : Value} {c e : Int} (h : NV P [q] v c e) (hm : q ∈ nx) : NV P nx v c e := h.more fun p hp => by rw [List.mem_singleton.mp hp]; exact hm
theorem NV.pair {P : Params} {nx : List (Addr × Obj)} {D : Addr} {c e : Int} {t1 t2 : Tok} (hm : (D, tupO [.int c t1, .int e t2]) ∈ nx) : NV P nx (.ref D) c e := .inr ⟨D, t1, t2, rfl, .inl hm⟩
theorem valOk_lin {a b : Int} (h : ValOk a b) : (a.natAbs : Int) < 1000000 ∧ -5 ≤ b ∧ b ≤ 8 := ⟨h.1, h.2.1, h.2.2.1⟩
theorem plF_lin {x : PySem.Str} {b : Int} {p : Pic} (h : PlF x b p) : (0 ≤ b ∧ b ≤ 4) ∧ x.length ≤ 90 := by
  have h1 := h.rt
  have h2 := h.pl.2.2.1
  have h3 := h.pl.2.2.2.1
  exact ⟨⟨by omega, by omega⟩, h.len⟩
section
variable {M : Model} {A : Around} {E : Value → Shared → Prop} {s : Shared} {h₀ : Heap} {L : Addr} {m : Str → Option Value} {news : List (Addr × Obj)} {k r : Int} {t1 t2 : Tok}
/-- where the two ways of the exponent's picture meet -/
structure JoinP (h₀ : Heap) (L : Addr) (s : Shared) (m : Str → Option Value) (news : List (Addr × Obj)) (k r : Int) (f : Flow) (s' : Shared) : Prop where
  go : JoinX h₀ L s m news (Str.ofString "power") (fun t => .str (powS k r) t) f s'
/-- the two ways of the exponent's picture meet -/
theorem joinPow {c : Sem Flow} {Q : Flow → Shared → Prop} (_F : Fr h₀ L s.heap m) (_N : News h₀ L s.heap news) (_ : m (Str.ofString "places") = some (.int k t1)) (_ : m (Str.ofString "right") = some (.int r t2))
    (h : wpAny M A c (JoinP h₀ L s m news k r) E s)
    (g : ∀ t h' tk, Fr h₀ L h' (fun y => if y = Str.ofString "power" then some (.str (powS k r) t) else m y) → News h₀ L h' news → Q .next { s with heap := h', toks := tk }) : wpAny M A c Q E s := by
  refine wpAny_mono h (fun f s' hj => ?_) fun _ _ h => h
  obtain ⟨rfl, t, h', tk, rfl, F, N⟩ := hj.go
  exact g t h' tk F N
theorem pow_t (h : 0 < r) : Txt.mul (PySem.Str.ofString "#") k ++ (PySem.Str.ofString "." ++ Txt.mul (PySem.Str.ofString "#") r) ++ PySem.Str.ofString "^^^^" = powS k r := by unfold powS; rw [if_pos h]
theorem pow_f (h : ¬ 0 < r) : Txt.mul (PySem.Str.ofString "#") k ++ PySem.Str.ofString "" ++ PySem.Str.ofString "^^^^" = powS k r := by unfold powS; rw [if_neg h]
theorem JoinP.of1 {h' : Heap} {tk : Nat} {t : Tok} {nx : List (Addr × Obj)} (F : Fr h₀ L h' (fun y => if y = Str.ofString "power" then some (.str (Txt.mul (PySem.Str.ofString "#") k ++ (PySem.Str.ofString "." ++ Txt.mul (PySem.Str.ofString "#") r) ++ PySem.Str.ofString "^^^^") t) else m y)) (N : News h₀ L h' nx) (hr : 0 < r) (hs : ∀ p ∈ news, p ∈ nx) :
    JoinP h₀ L s m news k r .next { s with heap := h', toks := tk } := ⟨joinX_set F N hs (str_eq (pow_t hr))⟩
theorem JoinP.of2 {h' : Heap} {tk : Nat} {t : Tok} {nx : List (Addr × Obj)} (F : Fr h₀ L h' (fun y => if y = Str.ofString "power" then some (.str (Txt.mul (PySem.Str.ofString "#") k ++ PySem.Str.ofString "" ++ PySem.Str.ofString "^^^^") t) else m y)) (N : News h₀ L h' nx) (hr : ¬ 0 < r) (hs : ∀ p ∈ news, p ∈ nx) :
    JoinP h₀ L s m news k r .next { s with heap := h', toks := tk } := ⟨joinX_set F N hs (str_eq (pow_f hr))⟩
theorem cc_len : (PySem.Str.ofString "^^^^").length = 4 := by decide +kernel
theorem lt_len9 : (PySem.Str.ofString "<").length = 1 := by decide +kernel
theorem gt_len9 : (PySem.Str.ofString ">").length = 1 := by decide +kernel
theorem e_len9 : (PySem.Str.ofString "").length = 0 := by decide +kernel
end
section
variable {prog : Program} {w : World} {A : Around} {E : Value → Shared → Prop} {s : Shared} {Q : Value → Shared → Prop} {value slice : PySem.Expr} {l : Addr} {k : Int} {u t0 t1 : Tok}
theorem item_menu2 (hl : s.heap.IsList l [Value.str (Str.ofString "") t0, .str (Str.ofString "**") t1].toArray) (h0 : 0 ≤ k) (hk : k < 2) (h : ∀ t, (menu2 k.toNat).length ≤ 2 → Q (.str (menu2 k.toNat) t) s)
    (hs : subscripted slice false (.ref l) (.int k u) = operate [.ref l, .int k u] (getItem (.ref l) (.int k u)) := by with_unfolding_all rfl) :
    wpAny (model prog w) A (subscriptTail value slice (.ref l) (.int k u)) Q E s := item_menu menu2 hl h0 (by show k < (2 : Int); exact hk) (by omega) menu2_at (fun t => h t (menu2_len _)) hs
end
section
open PySem.Spec PyProof.Rows.LCg
variable {prog : Program} {w : World} {A : Around} {s : Shared} {h₀ : Heap} {L : Addr} {m : Str → Option Value} {env : Env} {elt : PySem.Expr} {x : Str} {scope : Scope} {cl : List (Str × Addr)} {Fin : List Value → List (Addr × Obj) → Prop}
/-- the end of a turn: the text is made, the ledger grown -/
structure EndX (h₀ : Heap) (L : Addr) (m : Str → Option Value) (s : Shared) (p : Pic) (c e : Int) (all : List (Addr × Obj)) (y : Value) (s' : Shared) : Prop where
  go : ∃ h' tk' nx t, s' = { s with heap := h', toks := tk' } ∧ Fr h₀ L h' m ∧ News h₀ L h' nx ∧ (∀ p ∈ all, p ∈ nx) ∧ (St (shw p c e)).length ≤ 400 ∧ y = .str (brT (St (shw p c e))) t
/-- one turn of the last comprehension: a number's text between brackets -/
def TurnX (prog : Program) (w : World) (A : Around) (h₀ : Heap) (L : Addr) (m : Str → Option Value) (env : Env) (elt : PySem.Expr) (x : Str) (scope : Scope) (cl : List (Str × Addr)) (s : Shared) (p : Pic) (news : List (Addr × Obj)) : Prop :=
  ∀ (v : Value) (c e : Int) (I : Addr) (oI : Obj) (C : Addr) (oC : Obj) (D : Addr) (ys : List Value) m₂ (h : Heap) (tk : Nat) (E' : Value → Shared → Prop), ValOk c e → NV w.params news v c e → NsObj oC m₂ → m₂ x = some v → Fr h₀ L h m → News h₀ L h ((I, oI) :: (C, oC) :: (D, lst ys) :: news) →
    wpAny (model prog w) A (eval elt (compEnvC scope cl C env)) (EndX h₀ L m s p c e ((I, oI) :: (C, oC) :: (D, lst ys) :: news)) E' { s with heap := h, toks := tk }
theorem texts_step {p : Pic} {news : List (Addr × Obj)} {ax : Addr} {its : Array Value} {k i : Nat} {ys : List Value} {v : Value} {c e : Int} (T : TurnX prog w A h₀ L m env elt x scope cl s p news) (hS : SrcAt h₀ ax its news) (hi : its[i]? = some v) (hv : ValOk c e) (hN : NV w.params news v c e)
    (ih : ∀ t, (St (shw p c e)).length ≤ 400 → CompRest prog w A h₀ L m env elt x scope cl s (SrcAt h₀ ax its) (fun i v => its[i]? = some v) Fin k (i + 1) (ys ++ [.str (brT (St (shw p c e))) t]) news) :
    CompRest prog w A h₀ L m env elt x scope cl s (SrcAt h₀ ax its) (fun i v => its[i]? = some v) Fin (k + 1) i ys news := by
  refine CompRest.succ ?_
  intro v' I oI C oC D m₂ h tk E' hP hC hx F N off ne
  have e : v' = v := by rw [hi] at hP; exact (Option.some.inj hP).symm
  subst e
  refine wpAny_mono (T v' c e I oI C oC D ys m₂ h tk E' hv hN hC hx F N) (fun y s' hq => ?_) fun _ _ e => e
  obtain ⟨h', tk', nx, t, rfl, F', N', hs, hl, rfl⟩ := hq.go
  exact ⟨h', tk', news, rfl, F', fun p hp => N' p (hs p hp), off, hS, ih t hl⟩
theorem texts_rest {p : Pic} {news : List (Addr × Obj)} {ax : Addr} {v0 v1 v2 : Value} {c0 e0 c1 e1 c2 e2 : Int} (T : TurnX prog w A h₀ L m env elt x scope cl s p news) (hS : SrcAt h₀ ax #[v0, v1, v2] news) (hv0 : ValOk c0 e0) (hv1 : ValOk c1 e1) (hv2 : ValOk c2 e2)
    (hN0 : NV w.params news v0 c0 e0) (hN1 : NV w.params news v1 c1 e1) (hN2 : NV w.params news v2 c2 e2)
    (fin : ∀ t0 t1 t2, (St (shw p c0 e0)).length ≤ 400 → (St (shw p c1 e1)).length ≤ 400 → (St (shw p c2 e2)).length ≤ 400 → Fin [.str (brT (St (shw p c0 e0))) t0, .str (brT (St (shw p c1 e1))) t1, .str (brT (St (shw p c2 e2))) t2] news) :
    CompRest prog w A h₀ L m env elt x scope cl s (SrcAt h₀ ax #[v0, v1, v2]) (fun i v => (#[v0, v1, v2] : Array Value)[i]? = some v) Fin 3 0 [] news := by
  refine texts_step (v := v0) T hS rfl hv0 hN0 fun t0 l0 => ?_
  refine texts_step (v := v1) T hS rfl hv1 hN1 fun t1 l1 => ?_
  refine texts_step (v := v2) T hS rfl hv2 hN2 fun t2 l2 => ?_
  exact CompRest.zero (fin t0 t1 t2 l0 l1 l2)
theorem EndX.of {p : Pic} {c e : Int} {all nx : List (Addr × Obj)} {h' : Heap} {tk' : Nat} {t : Tok} (F : Fr h₀ L h' m) (N : News h₀ L h' nx) (hs : ∀ p ∈ all, p ∈ nx) (hl : (St (shw p c e)).length ≤ 400) :
    EndX h₀ L m s p c e all (.str (PySem.Str.ofString "<" ++ St (shw p c e) ++ PySem.Str.ofString ">") t) { s with heap := h', toks := tk' } := ⟨h', tk', nx, t, rfl, F, N, hs, hl, rfl⟩
/-- as texts_rest, the picture named by a fact -/
theorem texts_restP {b : Int} {z : PySem.Str} {p : Pic} {news : List (Addr × Obj)} {ax : Addr} {v0 v1 v2 : Value} {c0 e0 c1 e1 c2 e2 : Int} (_ : PlF z b p) (T : TurnX prog w A h₀ L m env elt x scope cl s p news) (hS : SrcAt h₀ ax #[v0, v1, v2] news) (hv0 : ValOk c0 e0) (hv1 : ValOk c1 e1) (hv2 : ValOk c2 e2)
    (hN0 : NV w.params news v0 c0 e0) (hN1 : NV w.params news v1 c1 e1) (hN2 : NV w.params news v2 c2 e2)
    (fin : ∀ t0 t1 t2, (St (shw p c0 e0)).length ≤ 400 → (St (shw p c1 e1)).length ≤ 400 → (St (shw p c2 e2)).length ≤ 400 → Fin [.str (brT (St (shw p c0 e0))) t0, .str (brT (St (shw p c1 e1))) t1, .str (brT (St (shw p c2 e2))) t2] news) :
    CompRest prog w A h₀ L m env elt x scope cl s (SrcAt h₀ ax #[v0, v1, v2]) (fun i v => (#[v0, v1, v2] : Array Value)[i]? = some v) Fin 3 0 [] news := texts_rest T hS hv0 hv1 hv2 hN0 hN1 hN2 fin
theorem join3 {E : Value → Shared → Prop} {Q : Value → Shared → Prop} {D : Addr} {a b c : PySem.Str} {t t0 t1 t2 : Tok} (hl : s.heap.IsList D #[.str a t0, .str b t1, .str c t2]) (ha : a.length ≤ 500) (hb : b.length ≤ 500) (hc : c.length ≤ 500)
    (h : ∀ t' k, Q (.str (a ++ b ++ c) t') { s with toks := k }) : wpAny (model prog w) A (call (.builtin "str.join") [.str (PySem.Str.ofString "") t, .ref D]) Q E s := by
  refine join_listW (ys := [a, b, c]) hl (.cons _ _ (.cons _ _ (.cons _ _ .nil))) (by decide +kernel) ?_ fun t' k => ?_
  · simp only [List.map_cons, List.map_nil, List.sum_cons, List.sum_nil, List.length_cons, List.length_nil]; omega
  · have e : Txt.join (PySem.Str.ofString "") [a, b, c] = a ++ b ++ c := by
      show Builtin.Str.glued _ _ = _
      rw [StrLaws.glued_eq_join, o_empty]
      show a ++ St [] ++ (b ++ St [] ++ c) = _
      refine lz_inj ?_
      simp only [lz_append, lz_st, List.append_nil, List.append_assoc]
    rw [e]; exact h t' k
theorem brT_len (x : PySem.Str) : (brT x).length = x.length + 2 := by
  rw [← lz_length, lz_brT]; simp only [List.length_cons, List.length_append, List.length_nil, lz_length]
/-- the whole text is the three -/
theorem whole_eq (a b c : List Nat) : St [60] ++ St a ++ St [62] ++ (St [60] ++ St b ++ St [62]) ++ (St [60] ++ St c ++ St [62]) = brT (St a) ++ brT (St b) ++ brT (St c) := by
  refine lz_inj ?_
  simp only [brT, lz_append, o_lt, o_gt, lz_st, List.append_assoc]
end
theorem unrEnd2 {h₀ : Heap} {L I : Addr} {it : Obj} {rest : (Str → Option Value) → List (Addr × Obj) → Prop} {s₁ : Shared} {h' : Heap} {tk : Nat} {m' : Str → Option Value} {a b : Addr × Obj} {r : List (Addr × Obj)} (F : Fr h₀ L h' m') (N : News h₀ L h' (a :: b :: (I, it) :: r))
    (off : ∀ p ∈ a :: b :: r, @Ne Nat p.1 I) (g : rest m' (a :: b :: r)) : UnrEnd h₀ L s₁ I it rest { s₁ with heap := h', toks := tk } :=
  UnrEnd.intro F N _ (fun p hp => by
    simp only [List.mem_cons] at hp ⊢
    rcases hp with h | h | h | h <;> simp only [h, true_or, or_true]) off g

-- piece 60
-- needs: 592
structure Stop (p : Prop) : Prop where
  go : p
theorem stop_here {p : Prop} (h : Stop p) : p := h.go
theorem stop_inv {p : Prop} (h : p) : Stop p := ⟨h⟩
section
local macro_rules | `(tactic| walk_at "exec Assign cons ListComp") => `(tactic| (k_here; (with_reducible show wpAny _ _ (exec (Stmt.Assign [Expr.Name (Str.ofString "values") _] _ _) _) _ _ _); k_dflt (refine LCg.Assign_ListComp_U (F₀ := by k_asm) (by rfl) (by with_unfolding_all rfl) (by with_unfolding_all rfl) (by decide) (by rfl) (by decide) (by rfl) (by rfl) (by rfl) ?_)))
local macro_rules | `(tactic| walk_at "CompSrc") => `(tactic| (k_here; first
  | k_dflt (refine LCg.CompSrc.range (by rfl) (by k_asm) (by k_asm) (by with_reducible assumption) (by first | decide | rfl) (by first | rfl | decide) (by exact Nat.le_of_ble_eq_true rfl) ?_; intro g'; lcg_lit)
  | k_dflt (refine LCg.CompSrc.ledger (by rfl) (by k_asm) (by k_asm) (by k_mem) (by exact Nat.le_of_ble_eq_true rfl) ?_; intro g'; lcg_lit; refine stop_here ?_)
  | (refine stop_here ?_)))
local macro_rules | `(tactic| walk_at "CompRest") => `(tactic| (k_dflt (refine' values_rest ?vT ?vS ?vr ?vC ?_); (case vS => omega); (case vr => walk_at "U nes"); (case vC => walk_at "U nes"); (all_goals (first
  | (unfold TurnN; intro turn t rest C h tk E' h0 h1 hr F' N'; simp only [List.cons_append, List.nil_append] at hr N' ⊢)
  | (intro v0 v1 v2 c0 e0 c1 e1 c2 e2 turn' t' qa0 qo0 qa1 qo1 qa2 qo2 r0 r1 hv0 hv1 hv2 hN0 hN1 hN2 hs0 hs1 hs2 hq0 hq1 hq2; simp only [List.forall_mem_cons, List.not_mem_nil, false_imp_iff, implies_true, and_true] at hq0 hq1 hq2)))))
local macro_rules | `(tactic| walk_at "call ref") => `(tactic| (k_here; (with_reducible show wpAny _ _ (call (Value.ref 274) _ _) _ _ _); (with_reducible rename News _ _ _ _ => jN'); k_dflt (refine' con_use (law_number_c _ _ _ _ _ _ ?c1 ?c2 ?c3 ?c4 ?c5 ?c6) ?cB ?cF ?cX jN' ?cT ?cK ?cH ?cD ?cU ?cZ); ((case cX => k_asm); (case cT => k_asm); (case cB => k_asm); (case cF => k_asm); (case cH => exact skH_i); (case cK => first | exact rfl | assumption); (case c1 => with_reducible assumption); (case c2 => omega); (case c3 => with_reducible assumption); (case c4 => omega); (case c5 => omega); (case c6 => omega); (case cD => ktr_room); (case cU => ktr_units); (case cZ => (intro v nx h' tk' R F N; exact ⟨h', tk', nx, rfl, F, N, R⟩)))))
local macro_rules | `(tactic| walk_at "U pre") => `(tactic| ((case cX => k_asm); (case cT => k_asm); (case cB => k_asm); (case cF => k_asm); (case cK => first | exact rfl | assumption); (case cD => ktr_room); (case cU => ktr_units)))
local macro_rules | `(tactic| walk_at "U RPl") => `(tactic| (intro v9 nx9 h9 tk9 hR9 F9 N9; obtain ⟨D9, x9, b9, r9, t9, t8, t7, e9, hPL9, hr8, hr9, hlt9, e9'⟩ := hR9; subst e9; subst e9'; obtain ⟨p9, hF9⟩ := plF_of hPL9; have hb9 := plF_lin hF9; clear hPL9; (try simp only [AllLt, and_true] at hlt9); (try dsimp only); (try k_fold)))
local macro_rules | `(tactic| walk_at "call ref") => `(tactic| (k_here; (with_reducible show wpAny _ _ (call (Value.ref 281) _ _) _ _ _); first
  | ((with_reducible rename News _ _ _ _ => jN'); k_dflt (refine' con_use (law_picture_c _ _ _ _ _ _ ?c1 ?c2 ?c3 ?c4 ?c5 ?c6) ?cB ?cF ?cX (fun p hp => jN' p (perm1 p hp)) ?cT ?cK ?cH ?cD ?cU ?_; walk_at "U pre"; (case cH => exact skH_i); (case c1 => with_reducible assumption); (case c2 => omega); (case c3 => walk_at "U nes"); (case c4 => omega); (case c5 => omega); (case c6 => omega); walk_at "U RPl"))
  | (refine stop_here ?_)))
local macro_rules | `(tactic| walk_at "U tk") => `(tactic| (walk_at "U pre"; (case cH => exact skH_i); (case c1 => with_reducible assumption); (case c2 => omega); (case c3 => walk_at "U nes"); (case c4 => omega); (case c5 => omega); (case c6 => omega); (case c7 => omega); (case c8 => omega); walk_at "U RTk"))
local macro_rules | `(tactic| walk_at "call ref") => `(tactic| (k_here; (with_reducible show wpAny _ _ (call (Value.ref 267) _ _) _ _ _); (with_reducible rename News _ _ _ _ => jN'); first
  | (k_dflt (refine' con_use (law_take_c _ _ _ _ _ _ _ _ ?c1 ?c2 ?c3 ?c4 ?c5 ?c6 ?c7 ?c8) ?cB ?cF ?cX jN' ?cT ?cK ?cH ?cD ?cU ?_; walk_at "U tk"))
  | (k_dflt (refine' con_use (law_take_c _ _ _ _ _ _ _ _ ?c1 ?c2 ?c3 ?c4 ?c5 ?c6 ?c7 ?c8) ?cB ?cF ?cX (fun p hp => jN' p (perm1 p hp)) ?cT ?cK ?cH ?cD ?cU ?_; walk_at "U tk"))
  | (k_dflt (refine' con_use (law_take_c _ _ _ _ _ _ _ _ ?c1 ?c2 ?c3 ?c4 ?c5 ?c6 ?c7 ?c8) ?cB ?cF ?cX (fun p hp => jN' p (perm2 p hp)) ?cT ?cK ?cH ?cD ?cU ?_; walk_at "U tk"))
  | (k_dflt (refine' con_use (law_take_c _ _ _ _ _ _ _ _ ?c1 ?c2 ?c3 ?c4 ?c5 ?c6 ?c7 ?c8) ?cB ?cF ?cX (fun p hp => jN' p (perm3 p hp)) ?cT ?cK ?cH ?cD ?cU ?_; walk_at "U tk"))
  | (refine stop_here ?_)))
local macro_rules | `(tactic| walk_at "exec Assign") => `(tactic| (k_here; (with_reducible show wpAny _ _ (exec (Stmt.Assign [Expr.Name (Str.ofString "power") _] _ _) _) _ _ _); (fail_if_success (with_reducible show wpAny _ _ _ (JoinP _ _ _ _ _ _ _) _ _)); first
  | ((with_reducible rename Fr _ _ _ _ => jF'); (with_reducible rename News _ _ _ _ => jN'); k_dflt (refine joinPow jF' jN' (by rfl) (by rfl) ?_ ?_; rotate_left; (clear jF' jN'; intro t1' h' tk' F' N'; (try dsimp only); (try k_fold)); rotate_left))
  | (refine stop_here ?_)))
local macro_rules | `(tactic| walk_at "U sz") => `(tactic| ((try simp only [PySem.sizeLine_eq, PySem.Str.length_append, hash_len, comma_len, dot_len, cc_len, lt_len9, gt_len9, e_len9]); omega))
local macro_rules | `(tactic| walk_at "subscriptTail") => `(tactic| (k_here; (with_reducible show wpAny _ _ (subscriptTail (Expr.List _ _) _ (Value.ref _) (Value.int _ _)) _ _ _); (with_reducible rename News _ _ _ _ => jN'); k_dflt (refine item_menu2 (News.isList jN' (by k_mem)) (by omega) (by omega) ?_; intro t' m9')))
local macro_rules | `(tactic| walk_at "last subscriptTail") => `(tactic| (k_here; (with_reducible show wpAny _ _ (subscriptTail (Expr.List _ _) _ (Value.ref _) (Value.int _ _)) _ _ _); (with_reducible rename News _ _ _ _ => jN'); k_dflt (refine item_menu2 (News.isList jN' (by k_mem)) (by omega) (by omega) ?_; intro t' m9')))
local macro_rules | `(tactic| walk_at "exec For Name Name cons nil") => `(tactic| (k_here; (rename Fr _ _ _ _ => lF'); first | (with_unfolding_all refine' For_invVF lF' ?k1 ?k2 ?_; (case k1 => exact rfl); (case k2 => exact rfl); k_whole) | (refine stop_here ?_)))
local macro_rules | `(tactic| walk_at "pyIter ref") => `(tactic| ((with_reducible show wpAny _ _ (pyIter (Value.ref _)) (fun it s₂ => LoopAtV _ _ _ _ _ _ _ _ _ it s₂) _ _); (rename Fr _ _ _ _ => lF'); (rename News _ _ _ _ => lN'); first | (with_unfolding_all refine iter_listUnr (by rfl) lF' lN' (by k_mem) (by rfl) (by rfl) ?_; clear lF' lN'; intro i' l1; (try k_lt l1)) | (refine stop_here ?_)))
local macro_rules | `(tactic| walk_at "UnrEnd") => `(tactic| (first | k_dflt ((with_reducible rename News _ _ _ _ => jN'); refine unrEnd2 (by assumption) jN' ?_ ⟨by k_mem, ?_⟩; (simp only [List.forall_mem_cons, List.not_mem_nil, false_imp_iff, implies_true, and_true]; omega)) | (refine stop_here ?_)))
local macro_rules | `(tactic| walk_at "U RNm") => `(tactic| (intro v9 nx9 h9 tk9 hR9 F9 N9; obtain ⟨D9, a9, b9, t9, u9, e9, e9', lt9, hv9, ha9, hb9⟩ := hR9; subst e9; subst e9'; have hl9 := valOk_lin hv9; (try simp only [AllLt, and_true] at lt9); (try dsimp only); (try k_fold)))
local macro_rules | `(tactic| walk_at "U RTq") => `(tactic| (intro v9 nx9 h9 tk9 hR9 F9 N9; obtain ⟨D9, t9, u9, qa9, qo9, e9, e9', hT9⟩ := hR9; subst e9; subst e9'; (try dsimp only); (try k_fold)))
local macro_rules | `(tactic| walk_at "U RVd") => `(tactic| (intro v9 nx9 h9 tk9 hR9 F9 N9; obtain ⟨⟨t9, e9⟩, e9'⟩ := hR9; subst e9; subst e9'; replace N9 := News.tl N9; (try (with_reducible rename TA _ _ _ _ _ _ _ => hT9; clear hT9)); (try dsimp only); (try k_fold)))
local macro_rules | `(tactic| walk_at "call ref") => `(tactic| (k_here; (with_reducible show wpAny _ _ (call (Value.ref 65) _ _) _ _ _); first
  | k_dflt (refine' con_use (decimal_of_v _ _ _ _ ?c1) ?cB ?cF ?cX ?cN ?cT ?cK ?cH ?cD ?cU ?_; (case cN => k_asm); walk_at "U pre"; (case cH => exact NV.at (by with_reducible assumption) (by k_mem)); (case c1 => with_reducible assumption); walk_at "U RNm")
  | (refine stop_here ?_)))
local macro_rules | `(tactic| walk_at "call ref") => `(tactic| (k_here; (with_reducible show wpAny _ _ (call (Value.ref 232) _ _) _ _ _); first
  | k_dflt (refine' con_use (d_round_t _ _ _ _ _ _ _ _ ?c1 ?c2 ?c3) ?cB ?cF ?cX ?cN ?cT ?cK ?cH ?cD ?cU ?_; (case cN => k_asm); walk_at "U pre"; (case cH => k_mem); (case c1 => with_reducible assumption); (case c2 => omega); (case c3 => omega); walk_at "U RTq")
  | (refine stop_here ?_)))
local macro_rules | `(tactic| walk_at "call ref") => `(tactic| (k_here; (with_reducible show wpAny _ _ (call (Value.ref 293) _ _) _ _ _); first
  | k_dflt (refine' con_use (shown_right_b _ _ _ _ _ _ _ _ _ _ ?c1) ?cB ?cF ?cX ?cN ?cT ?cK ?cH ?cD ?cU ?_; (case cN => k_asm); walk_at "U pre"; (case cH => (refine And.intro (NV.at (by with_reducible assumption) (by k_mem)) ?_; first | with_reducible assumption | exact TA.of_mem (by k_mem))); (case c1 => with_reducible (first | exact showOk_plain (by assumption) (by assumption) (by assumption) (by assumption) | exact showOk_pow (by omega) (by omega) (by omega) (by omega) (by assumption) (by assumption) (by assumption))); walk_at "U RVd")
  | (refine stop_here ?_)))
local macro_rules | `(tactic| walk_at "call ref") => `(tactic| (k_here; (with_reducible show wpAny _ _ (call (Value.ref 58) _ _) _ _ _); first
  | k_dflt (refine' con_use (made_c _ _ _ _ _ _ ?c1 ?c2 ?c3 ?c4) ?cB ?cF ?cX ?cN ?cT ?cK ?cH ?cD ?cU ?_; (case cN => k_asm); walk_at "U pre"; (case c1 => omega); (case c2 => omega); (case c3 => omega); (case c4 => omega); (case cH => exact True.intro); walk_at "U RT")
  | (refine stop_here ?_)))
local macro_rules | `(tactic| walk_at "call ref") => `(tactic| (k_here; (with_reducible show wpAny _ _ (call (Value.ref 211) _ _) _ _ _); first
  | k_dflt (refine' con_use (d_size_c _ _ _ _ _) ?cB ?cF ?cX ?cN ?cT ?cK ?cH ?cD ?cU ?_; (case cN => k_asm); walk_at "U pre"; (case cH => k_mem); walk_at "U RT"; (with_reducible rename AllLt _ _ => lt9; (try simp only [AllLt, and_true] at lt9)))
  | (refine stop_here ?_)))
local macro_rules | `(tactic| walk_at "call ref") => `(tactic| (k_here; (with_reducible show wpAny _ _ (call (Value.ref 300) _ _) _ _ _); first
  | k_dflt (refine' con_use (order_right_b _ _ _ _ _ _ _ _ ?c1) ?cB ?cF ?cX ?cN ?cT ?cK ?cH ?cD ?cU ?_; (case cN => k_asm); walk_at "U pre"; (case cH => exact And.intro (NV.pair (by k_mem)) (NV.pair (by k_mem))); (case c1 => exact orderOk_of (by with_reducible assumption) (by with_reducible assumption) (by with_reducible assumption) (by with_reducible assumption) (by with_reducible assumption) (by with_reducible assumption) (by with_reducible assumption) (by with_reducible assumption)); walk_at "U RV")
  | (refine stop_here ?_)))
local macro_rules | `(tactic| walk_at "call ref") => `(tactic| (k_here; (with_reducible show wpAny _ _ (call (Value.ref 203) _ _) _ _ _); first
  | k_dflt (refine' con_use (using3_b _ _ _ _ _ _ _ _ _ _ _ _ _ _ _ ?c1 ?q0 ?q1 ?q2) ?cB ?cF ?cX ?cN ?cT ?cK ?cH ?cD ?cU ?_; (case cN => k_asm); walk_at "U pre"; (case cH => exact ⟨by k_mem, NV.at (by with_reducible assumption) (by k_mem), NV.at (by with_reducible assumption) (by k_mem), NV.at (by with_reducible assumption) (by k_mem)⟩); (case c1 => with_reducible assumption); (case q0 => with_reducible assumption); (case q1 => with_reducible assumption); (case q2 => with_reducible assumption); walk_at "U RV")
  | k_dflt (refine' con_use (using1_b _ _ _ _ _ _ _ _ _ ?c1 ?q0) ?cB ?cF ?cX ?cN ?cT ?cK ?cH ?cD ?cU ?_; (case cN => k_asm); walk_at "U pre"; (case cH => first | exact And.intro (by k_mem) (NV.at (by with_reducible assumption) (by k_mem)) | exact And.intro (by k_mem) (NV.more (by with_reducible assumption) (by walk_at "U sub"))); (case c1 => with_reducible assumption); (case q0 => with_reducible assumption); walk_at "U RVF")
  | (refine stop_here ?_)))
local macro_rules | `(tactic| walk_at "eval ListComp") => `(tactic| (k_here; k_dflt (refine LCg.ListComp_U (F₀ := by k_asm) (by with_unfolding_all rfl) (by decide) (by rfl) (by decide) (by rfl) ?_)))
local macro_rules | `(tactic| walk_at "call builtin:str.join") => `(tactic| (k_here; (with_reducible rename News _ _ _ _ => jN'); k_dflt (refine join3 (News.isList jN' (List.Mem.head _)) (by rw [brT_len]; omega) (by rw [brT_len]; omega) (by rw [brT_len]; omega) ?_); intro _ _))
local macro_rules | `(tactic| walk_at "last call builtin:str.join") => `(tactic| (k_here; (with_reducible rename News _ _ _ _ => jN'); k_dflt (refine join3 (News.isList jN' (List.Mem.head _)) (by rw [brT_len]; omega) (by rw [brT_len]; omega) (by rw [brT_len]; omega) ?_); intro _ _))
local macro_rules | `(tactic| walk_at "CompRest") => `(tactic| (k_dflt (refine' texts_rest ?xT ?xS ?v0 ?v1 ?v2 ?n0 ?n1 ?n2 ?_; (case n0 => exact NV.at (by with_reducible assumption) (by k_mem)); (case n1 => exact NV.at (by with_reducible assumption) (by k_mem)); (case n2 => exact NV.at (by with_reducible assumption) (by k_mem)); (case v0 => with_reducible assumption); (case v1 => with_reducible assumption); (case v2 => with_reducible assumption); (case xS => lcg_src); (all_goals (first
  | (unfold TurnX; intro v c e I oI C oC D ys m₂ h tk E' hv hN hC hx F' N')
  | (intro t0 t1 t2 l0 l1 l2))))))
local macro_rules | `(tactic| walk_at "eval Name") => `(tactic| (k_here; (with_reducible show wpAny _ _ (eval (Expr.Name (Str.ofString "sack") _) (compEnvC _ _ _ _)) _ _ _); k_dflt (refine' lcf_cell ?xN ?xc ?xm ?xd ?_ ?xa ?xb; (case xa => rfl); (case xb => rfl); (case xN => k_asm); (case xc => rfl); (case xm => k_mem); (case xd => k_asm); k_whole)))
local macro_rules | `(tactic| walk_at "eval Name") => `(tactic| (k_here; (with_reducible show wpAny _ _ (eval (Expr.Name (Str.ofString "plain") _) (compEnvC _ _ _ _)) _ _ _); k_dflt (refine' lcf_cell ?xN ?xc ?xm ?xd ?_ ?xa ?xb; (case xa => rfl); (case xb => rfl); (case xN => k_asm); (case xc => rfl); (case xm => k_mem); (case xd => k_asm); k_whole)))
local macro_rules | `(tactic| walk_at "eval Name") => `(tactic| (k_here; (with_reducible show wpAny _ _ (eval (Expr.Name (Str.ofString "value") _) (compEnvC _ _ _ _)) _ _ _); k_dflt (refine LCgL.ld_own (by k_asm) (by k_mem) (by with_reducible assumption) (by with_reducible assumption) ?_)))
theorem law_holds : PySem.Challenge.rw_sa0063_01.Holds := hd (by
  k_go0
  (all_goals try k_fold)
  rename_i w s0 s1 mg mb G Y fa o pm doc ho hg X Xm V GL T Bt TE TW wa wb M wc wd hcd ns hs hlay0 hL1 hr1 hl2 we wf wg vs wh hL ra w1 r0 I hr hlen hcond B hD h1 tk1 F o1 o0 hc1 hc0 N X0
  replace hc0 : _ = Data.cell none := hc0
  replace hc1 : _ = Data.cell none := hc1
  clear Y ho Xm V GL Bt TE TW M hcd hD
  k_steps
  rotate_left 2
  refine stop_inv ?_
  (with_reducible rename PlF _ _ _ => jP')
  refine' texts_restP jP' ?xT ?xS ?xv0 ?xv1 ?xv2 ?xn0 ?xn1 ?xn2 ?_
  (case xn0 => exact NV.at (by with_reducible assumption) (by k_mem))
  (case xn1 => exact NV.at (by with_reducible assumption) (by k_mem))
  (case xn2 => exact NV.at (by with_reducible assumption) (by k_mem))
  (case xv0 => with_reducible assumption)
  (case xv1 => with_reducible assumption)
  (case xv2 => with_reducible assumption)
  (case xS => exact .inr ⟨_, by k_mem, rfl, _, rfl⟩)
  (case xT => (
    unfold TurnX
    intro v c e I oI C oC D ys m₂ h tk E' hv hN hC hx F' N'
    k_steps
    with_reducible rename Fr _ _ _ _ => jF'
    with_reducible rename News _ _ _ _ => jN'
    refine' EndX.of jF' jN' ?xS ?xL
    (case xS => walk_at "U sub")
    (case xL => with_reducible assumption)))
  intro t0 t1 t2 l0 l1 l2
  k_steps
  all_goals (
    (with_reducible rename Fr _ _ _ _ => jF')
    (with_reducible rename News _ _ _ _ => jN')
    with_reducible first
    | refine JoinP.of1 jF' jN' (by omega) ?_
    | refine JoinP.of2 jF' jN' (by omega) ?_
    walk_at "U sub"))
end

end Mine
theorem PySem.Challenge.cw_sa0063_01_holds : PySem.Challenge.rw_sa0063_01.Holds := by
  exact Mine.law_holds
