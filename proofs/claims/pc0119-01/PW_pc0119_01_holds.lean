import PyProof.Rows.All
import Wide.All
import OpenK.AllK
import Wide.FinOn
import Lean
import PySem.Challenge.RW_pc0119_01
open PySem PySem.W PyProof.Rows
set_option Elab.async false
set_option maxRecDepth 100000
set_option maxHeartbeats 8000000
namespace Mine
open_top hd for PySem.Challenge.rw_pc0119_01
end Mine

namespace Mine
theorem fdiv_tdiv {a b : Int} (ha : 0 ≤ a) (hb : 0 ≤ b) : a.fdiv b = a.tdiv b := by
  rw [Int.fdiv_eq_ediv_of_nonneg _ hb, Int.tdiv_eq_ediv_of_nonneg ha]

theorem cut_lo {a b : Int} (hb : 0 < b) (h : (decide (a < 0) != decide (b < 0)) = true) : -((if a < 0 then -a else a).fdiv (if b < 0 then -b else b)) = a.tdiv b := by
  have h2 : ¬ b < 0 := by omega
  have h1 : a < 0 := by simpa [h2] using h
  rw [if_pos h1, if_neg h2, fdiv_tdiv (by omega) (by omega), Int.neg_tdiv, Int.neg_neg]
theorem cut_hi {a b : Int} (hb : 0 < b) (h : (decide (a < 0) != decide (b < 0)) = false) : (if a < 0 then -a else a).fdiv (if b < 0 then -b else b) = a.tdiv b := by
  have h2 : ¬ b < 0 := by omega
  have h1 : ¬ a < 0 := by simpa [h2] using h
  rw [if_neg h1, if_neg h2, fdiv_tdiv (by omega) (by omega)]

/-- the whole number of units of a scale, cut toward nought -/
def cutAt (u sc k : Int) : Int := if sc ≤ k then u * 10 ^ (k - sc).toNat else u.tdiv (10 ^ (sc - k).toNat)
/-- the same, rounded half away from nought -/
def halfOf (u size : Int) : Int := (2 * (if u < 0 then -u else u) + size).fdiv (2 * size)
def nearAt (u sc k : Int) : Int := if sc ≤ k then u * 10 ^ (k - sc).toNat else (if u < 0 then -halfOf u (10 ^ (sc - k).toNat) else halfOf u (10 ^ (sc - k).toNat))
def unitsAt (u sc k : Int) (fl : Bool) : Int := if fl then nearAt u sc k else cutAt u sc k

theorem units_hi {u sc k p : Int} {fl : Bool} (h : sc ≤ k) (hp : p = 10 ^ (k - sc).toNat) : u * p = unitsAt u sc k fl := by
  subst hp; unfold unitsAt nearAt cutAt
  cases fl <;> simp [h]
theorem units_cut {u sc k p : Int} {fl : Bool} (h : ¬ sc ≤ k) (hf : fl = false) (hp : p = 10 ^ (sc - k).toNat) : u.tdiv p = unitsAt u sc k fl := by
  subst hp hf; unfold unitsAt cutAt
  simp [h]
theorem units_lo {u sc k p : Int} {fl : Bool} (h : ¬ sc ≤ k) (hf : fl = true) (hp : p = 10 ^ (sc - k).toNat) (hu : u < 0) : -(2 * (if u < 0 then -u else u) + p).fdiv (2 * p) = unitsAt u sc k fl := by
  subst hp hf; unfold unitsAt nearAt halfOf
  simp [h, hu]
theorem units_up {u sc k p : Int} {fl : Bool} (h : ¬ sc ≤ k) (hf : fl = true) (hp : p = 10 ^ (sc - k).toNat) (hu : ¬ u < 0) : (2 * (if u < 0 then -u else u) + p).fdiv (2 * p) = unitsAt u sc k fl := by
  subst hp hf; unfold unitsAt nearAt halfOf
  simp [h, hu]
end Mine

namespace Mine
/-- n is the number of figures of a -/
def Digits (a : Int) (n : Nat) : Prop := 1 ≤ n ∧ a < 10 ^ n ∧ (a = 0 → n = 1) ∧ (a ≠ 0 → (10 : Int) ^ (n - 1) ≤ a)

theorem ten_cast (k : Nat) : ((10 ^ k : Nat) : Int) = (10 : Int) ^ k := Int.natCast_pow 10 k

theorem repr_figures (m : Nat) : Digits (m : Int) (Nat.repr m).length := by
  have h1 : 1 ≤ (Nat.repr m).length := by
    have h := Nat.length_repr_pos (n := m)
    omega
  refine ⟨h1, ?_, ?_, ?_⟩
  · have h := (Nat.length_repr_le_iff (n := m) (k := (Nat.repr m).length) h1).mp (Nat.le_refl _)
    rw [← ten_cast]; exact Int.ofNat_lt.mpr h
  · intro h0
    have : m = 0 := by omega
    subst this; rfl
  · intro h0
    rw [← ten_cast]
    refine Int.ofNat_le.mpr ?_
    by_cases h2 : (Nat.repr m).length = 1
    · rw [h2]; simp; omega
    · refine Nat.le_of_not_lt fun h3 => ?_
      have h4 := (Nat.length_repr_le_iff (n := m) (k := (Nat.repr m).length - 1) (by omega)).mpr h3
      omega
theorem repr_short {m k : Nat} (hk : 0 < k) (h : m < 10 ^ k) : (Nat.repr m).length ≤ k := (Nat.length_repr_le_iff hk).mpr h

theorem abs_eq (c : Int) : (if c < 0 then -c else c) = (c.natAbs : Int) := by split <;> omega

theorem pow_split {a b : Int} (h0 : 0 ≤ a) (h1 : 0 ≤ b) : (10 : Int) ^ (a + b).toNat = 10 ^ a.toNat * 10 ^ b.toNat := by
  rw [← Int.pow_add]; congr 1; omega

theorem ten_gt (n : Nat) : 0 < (10 : Int) ^ n := Int.pow_pos (by decide)

theorem tdiv_cancel {x d : Int} (h : 0 < d) : (x * d).tdiv d = x := Int.mul_tdiv_cancel x (by omega)

theorem law_A {u sc k p q : Int} (hk : k ≤ 60) (hs : sc ≤ 60) (hp : p = 10 ^ (60 - sc).toNat) (hq : q = 10 ^ (60 - k).toNat) : unitsAt u sc k false = (u * p).tdiv q := by
  show cutAt u sc k = _
  unfold cutAt
  by_cases h : sc ≤ k
  · rw [if_pos h]
    have e : p = 10 ^ (k - sc).toNat * q := by
      rw [hp, hq, ← pow_split (by omega) (by omega)]; congr 2; omega
    rw [e, ← Int.mul_assoc, tdiv_cancel]
    rw [hq]; exact ten_gt _
  · rw [if_neg h]
    have e : q = 10 ^ (sc - k).toNat * p := by
      rw [hp, hq, ← pow_split (by omega) (by omega)]; congr 2; omega
    have hpp : 0 < p := by rw [hp]; exact ten_gt _
    rw [e, Int.mul_tdiv_mul_of_pos_left _ _ hpp]

theorem half_up {a q : Int} (hq : 0 < q) : (2 * (a * q) + q).fdiv (2 * q) = a := by
  rw [Int.fdiv_eq_ediv_of_nonneg _ (by omega)]
  have e : 2 * (a * q) + q = q + (2 * q) * a := by
    rw [Int.mul_assoc, Int.mul_comm q a]; omega
  rw [e, Int.add_mul_ediv_left _ _ (by omega), Int.ediv_eq_zero_of_lt (by omega) (by omega)]
  omega
theorem half_dn {a p d : Int} (hp : 0 < p) (hd : 0 < d) : (2 * (a * p) + d * p).fdiv (2 * (d * p)) = (2 * a + d).fdiv (2 * d) := by
  have hdp : 0 < d * p := Int.mul_pos hd hp
  rw [Int.fdiv_eq_ediv_of_nonneg _ (by omega), Int.fdiv_eq_ediv_of_nonneg _ (by omega), ← Int.mul_assoc, ← Int.mul_assoc, ← Int.add_mul]
  exact Int.mul_ediv_mul_of_pos_left _ _ hp

theorem abs_mul_pos {u p : Int} (hp : 0 < p) : (if u * p < 0 then -(u * p) else u * p) = (if u < 0 then -u else u) * p := by
  by_cases h : u < 0
  · rw [if_pos h, if_pos (Int.mul_neg_of_neg_of_pos h hp), Int.neg_mul]
  · have := Int.mul_nonneg (show 0 ≤ u by omega) (Int.le_of_lt hp)
    rw [if_neg h, if_neg (by omega)]
theorem neg_iff {u p : Int} (hp : 0 < p) : u * p < 0 ↔ u < 0 := by
  constructor
  · intro h
    refine Int.not_le.mp fun h2 => ?_
    have := Int.mul_nonneg h2 (Int.le_of_lt hp)
    omega
  · intro h; exact Int.mul_neg_of_neg_of_pos h hp

theorem law_B {u sc k p q : Int} (hk : k ≤ 60) (hs : sc ≤ 60) (hp : p = 10 ^ (60 - sc).toNat) (hq : q = 10 ^ (60 - k).toNat) :
    unitsAt u sc k true = if u * p < 0 then -(2 * (if u * p < 0 then -(u * p) else u * p) + q).fdiv (2 * q) else (2 * (if u * p < 0 then -(u * p) else u * p) + q).fdiv (2 * q) := by
  show nearAt u sc k = _
  have hpp : 0 < p := by rw [hp]; exact ten_gt _
  have hqq : 0 < q := by rw [hq]; exact ten_gt _
  rw [abs_mul_pos hpp]
  unfold nearAt
  by_cases h : sc ≤ k
  · rw [if_pos h]
    have e : p = 10 ^ (k - sc).toNat * q := by
      rw [hp, hq, ← pow_split (by omega) (by omega)]; congr 2; omega
    have f : (2 * ((if u < 0 then -u else u) * p) + q).fdiv (2 * q) = (if u < 0 then -u else u) * 10 ^ (k - sc).toNat := by
      have g := half_up (a := (if u < 0 then -u else u) * 10 ^ (k - sc).toNat) hqq
      rw [Int.mul_assoc] at g
      rw [e]; exact g
    rw [f]
    by_cases hu : u < 0
    · rw [if_pos ((neg_iff hpp).mpr hu), if_pos hu, Int.neg_mul, Int.neg_neg]
    · rw [if_neg (fun x => hu ((neg_iff hpp).mp x)), if_neg hu]
  · rw [if_neg h]
    have e : q = 10 ^ (sc - k).toNat * p := by
      rw [hp, hq, ← pow_split (by omega) (by omega)]; congr 2; omega
    have f : (2 * ((if u < 0 then -u else u) * p) + q).fdiv (2 * q) = halfOf u (10 ^ (sc - k).toNat) := by
      unfold halfOf
      rw [e, half_dn hpp (ten_gt _)]
    rw [f]
    by_cases hu : u < 0
    · rw [if_pos ((neg_iff hpp).mpr hu), if_pos hu]
    · rw [if_neg (fun x => hu ((neg_iff hpp).mp x)), if_neg hu]

def fitsB (u d : Int) : Bool := decide ((if u < 0 then -u else u) < 10 ^ d.toNat)
theorem fits_at {u d p : Int} (hp : p = 10 ^ d.toNat) : decide ((if u < 0 then -u else u) < p) = fitsB u d := by subst hp; rfl

theorem law_C {c : Int} {n : Nat} (h : Digits (if c < 0 then -c else c) n) : fitsB c n = true ∧ fitsB (-c) (n + 1) = true ∧ fitsB c ((n : Int) - 1) = (c == 0) := by
  obtain ⟨h1, h2, h3, h4⟩ := h
  have e1 : ((n : Int)).toNat = n := by omega
  have e2 : ((n : Int) + 1).toNat = n + 1 := by omega
  have e3 : ((n : Int) - 1).toNat = n - 1 := by omega
  have e4 : (if -c < 0 then - -c else -c) = (if c < 0 then -c else c) := by
    by_cases hc : c < 0
    · rw [if_pos hc, if_neg (by omega)]
    · by_cases h0 : c = 0
      · subst h0; rfl
      · rw [if_neg hc, if_pos (by omega), Int.neg_neg]
  refine ⟨?_, ?_, ?_⟩
  · unfold fitsB; rw [e1]; exact decide_eq_true h2
  · unfold fitsB; rw [e2, e4, Int.pow_succ]
    refine decide_eq_true ?_
    have := ten_gt n
    omega
  · unfold fitsB; rw [e3]
    by_cases h0 : c = 0
    · subst h0
      have := h3 rfl
      subst this
      rfl
    · have h5 : (if c < 0 then -c else c) ≠ 0 := by split <;> omega
      have h6 := h4 h5
      rw [decide_eq_false (by omega)]
      exact (beq_eq_false_iff_ne.mpr h0).symm

theorem cut_small {u p q sc : Int} (hu : Builtin.Int.intBits u ≤ 300) (h0 : 0 ≤ sc) (hp : p = 10 ^ (60 - sc).toNat) : ((u * p).tdiv q).natAbs < 10 ^ 200 := by
  have h1 : u.natAbs < 2 ^ 300 := intBits_le_iff.mp hu
  have h2 : p.natAbs ≤ 10 ^ 60 := by
    have e : p.natAbs = 10 ^ (60 - sc).toNat := by rw [hp, Int.natAbs_pow]; rfl
    rw [e]; exact Nat.pow_le_pow_right (by decide) (by omega)
  rw [Int.natAbs_tdiv]
  calc (u * p).natAbs / q.natAbs ≤ (u * p).natAbs := Nat.div_le_self _ _
    _ = u.natAbs * p.natAbs := Int.natAbs_mul _ _
    _ ≤ 2 ^ 300 * 10 ^ 60 := Nat.mul_le_mul (Nat.le_of_lt h1) h2
    _ < 10 ^ 200 := by decide +kernel
theorem abs_rest {c p : Int} (h : c.natAbs < 10 ^ 200) (hp : p = 10 ^ Int.toNat 200) : (if c < 0 then -c else c).fmod p = (if c < 0 then -c else c) := by
  have e : p = ((10 ^ 200 : Nat) : Int) := by rw [hp, ten_cast]; rfl
  rw [abs_eq, e]
  exact Int.fmod_eq_of_lt (by omega) (Int.ofNat_lt.mpr h)
theorem law_Bn {u sc k p q : Int} (hk : k ≤ 60) (hs : sc ≤ 60) (hp : p = 10 ^ (60 - sc).toNat) (hq : q = 10 ^ (60 - k).toNat) (h : u * p < 0) :
    unitsAt u sc k true = -(2 * (if u * p < 0 then -(u * p) else u * p) + q).fdiv (2 * q) := (law_B hk hs hp hq).trans (if_pos h)
theorem law_Bp {u sc k p q : Int} (hk : k ≤ 60) (hs : sc ≤ 60) (hp : p = 10 ^ (60 - sc).toNat) (hq : q = 10 ^ (60 - k).toNat) (h : ¬ u * p < 0) :
    unitsAt u sc k true = (2 * (if u * p < 0 then -(u * p) else u * p) + q).fdiv (2 * q) := (law_B hk hs hp hq).trans (if_neg h)
section
variable {u sc p q r : Int} {n : Nat}
theorem law_Cs (hu : Builtin.Int.intBits u ≤ 300) (h0 : 0 ≤ sc) (hp : p = 10 ^ (60 - sc).toNat) (hr : r = 10 ^ Int.toNat 200) (hd : Digits ((if (u * p).tdiv q < 0 then -(u * p).tdiv q else (u * p).tdiv q).fmod r) n) :
    fitsB ((u * p).tdiv q) n = true ∧ fitsB (-(u * p).tdiv q) (n + 1) = true ∧ fitsB ((u * p).tdiv q) ((n : Int) - 1) = ((u * p).tdiv q == 0) := by
  rw [abs_rest (cut_small hu h0 hp) hr] at hd
  exact law_C hd
theorem law_C1 (hu : Builtin.Int.intBits u ≤ 300) (h0 : 0 ≤ sc) (hp : p = 10 ^ (60 - sc).toNat) (hr : r = 10 ^ Int.toNat 200) (hd : Digits ((if (u * p).tdiv q < 0 then -(u * p).tdiv q else (u * p).tdiv q).fmod r) n) :
    fitsB ((u * p).tdiv q) n = true := (law_Cs hu h0 hp hr hd).1
theorem law_C2 (hu : Builtin.Int.intBits u ≤ 300) (h0 : 0 ≤ sc) (hp : p = 10 ^ (60 - sc).toNat) (hr : r = 10 ^ Int.toNat 200) (hd : Digits ((if (u * p).tdiv q < 0 then -(u * p).tdiv q else (u * p).tdiv q).fmod r) n) :
    fitsB (-(u * p).tdiv q) (n + 1) = true := (law_Cs hu h0 hp hr hd).2.1
theorem law_C3 (hu : Builtin.Int.intBits u ≤ 300) (h0 : 0 ≤ sc) (hp : p = 10 ^ (60 - sc).toNat) (hr : r = 10 ^ Int.toNat 200) (hd : Digits ((if (u * p).tdiv q < 0 then -(u * p).tdiv q else (u * p).tdiv q).fmod r) n) :
    (fitsB ((u * p).tdiv q) ((n : Int) - 1) == ((u * p).tdiv q == 0)) = true := by
  rw [(law_Cs hu h0 hp hr hd).2.2]
  exact beq_self_eq_true _
end
end Mine

namespace Mine
open PySem.Calls PySem.Spec

/-! numbers and their sizes -/
theorem bits_mono {a : Int} {m n : Nat} (h : Builtin.Int.intBits a ≤ m) (hm : m ≤ n) : Builtin.Int.intBits a ≤ n := Nat.le_trans h hm
theorem log2_of_bits {a : Int} {m : Nat} (h : Builtin.Int.intBits a ≤ m) (hm : m < 9000) : a.natAbs.log2 < 9000 := by
  have h1 := lt_pow_of_bits h (Nat.le_refl m)
  by_cases h0 : a.natAbs = 0
  · rw [h0]; decide
  · have := (Nat.log2_lt h0).mpr h1
    omega
theorem ten_bits (n : Int) (h : n ≤ 250) : Builtin.Int.intBits ((10 : Int) ^ n.toNat) ≤ 1000 := by
  refine intBits_le_iff.mpr ?_
  have e : ((10 : Int) ^ n.toNat).natAbs = 10 ^ n.toNat := by
    rw [Int.natAbs_pow]; rfl
  rw [e]
  calc 10 ^ n.toNat ≤ 10 ^ 250 := Nat.pow_le_pow_right (by decide) (by omega)
    _ < 2 ^ 1000 := by decide +kernel
theorem ten_pos (n : Int) : 0 < (10 : Int) ^ n.toNat := Int.pow_pos (by decide)

section
variable {prog : Program} {w : World} {A : Around} {E : Value → Shared → Prop} {s : Shared} {Q : Value → Shared → Prop} {a b n : Int} {t u : Tok}
theorem pow_step (h0 : 0 ≤ n) (h1 : n ≤ 250) (h : ∀ p : Int, p = 10 ^ n.toNat → 0 < p → Builtin.Int.intBits p ≤ 1000 → Q (.int p s.toks) { s with toks := s.toks + 1 }) :
    wpAny (model prog w) A (binaryOp .Pow (.int 10 t) (.int n u)) Q E s :=
  pow_int_small h0 (by omega) (by decide) (h _ rfl (ten_pos n) (ten_bits n h1))
theorem mul_step {k l : Nat} (ha : Builtin.Int.intBits a ≤ k) (hb : Builtin.Int.intBits b ≤ l) (hm : k + l ≤ 134217728) (h : Q (.int (a * b) s.toks) { s with toks := s.toks + 1 }) :
    wpAny (model prog w) A (binaryOp .Mult (.int a t) (.int b u)) Q E s := mul_int h (mulOk_of_bits ha hb hm)
theorem div_step {k : Nat} (h0 : 0 < b) (hb : Builtin.Int.intBits b ≤ k) (hk : k < 9000) (h : Q (.int (a.fdiv b) s.toks) { s with toks := s.toks + 1 }) :
    wpAny (model prog w) A (binaryOp .FloorDiv (.int a t) (.int b u)) Q E s :=
  floordiv_int (by omega) h (Or.inl (PyProof.noPylong_of_log2 (log2_of_bits hb hk)))
end

abbrev Ret (h₀ : Heap) (L : Addr) (m : Str → Option Value) (news : List (Addr × Obj)) (s : Shared) (Q : Value → Shared → Prop) (R : Tok → Value) : Prop :=
  ∀ (t : Tok) (h' : Heap) (tk' : Nat), Fr h₀ L h' m → News h₀ L h' news → Q (R t) { s with heap := h', toks := tk' }

/-- what a call of the def at f gives, wherever it is called: a plain value, the caller's objects as they were -/
def Gives (w : World) (mean : ExcName → Option Value) (mg mb : Str → Option Value) (f : Addr) (room : Nat) (news : List (Addr × Obj)) (vs : List Value) (R : Tok → Value) : Prop :=
  ∀ (dp un : Nat) (gd : Option (List Code)) (cn : Str) (cs : Scope) (a : Addr) (ccd : Value) (cl : List (Str × Addr)) (outer : List Env) (A₀ : Around) (base h₀ : Heap) (L : Addr) (m : Str → Option Value) (s : Shared) (Q E : Value → Shared → Prop),
    Below A₀ base outer h₀ → Fr h₀ L s.heap m → (hd.heap_39 w.params).In h₀ → News h₀ L s.heap news → Top hd.view_39 (looseW hd.view_39 [Str.ofString "decimal"]) mean mg mb h₀ → cs.kind = .function →
    dp + room < recursionLimit → un + 8 * room < cLine → Ret h₀ L m news s Q R →
      wpAny (model PySem.Challenge.rw_pc0119_01.row.prog w) (ktrTop dp un gd cn cs L a ccd cl outer) (call (.ref f) vs) Q E s

theorem ret_int {h₀ h' : Heap} {L : Addr} {m : Str → Option Value} {news : List (Addr × Obj)} {s : Shared} {Q : Value → Shared → Prop} {t : Tok} {tk' : Nat} {x y : Int} (hret : Ret h₀ L m news s Q (fun t => .int x t)) (e : y = x) (F : Fr h₀ L h' m) (N : News h₀ L h' news) : Q (.int y t) { s with heap := h', toks := tk' } := by
  subst e
  exact hret t h' tk' F N
theorem ret_bool {h₀ h' : Heap} {L : Addr} {m : Str → Option Value} {news : List (Addr × Obj)} {s : Shared} {Q : Value → Shared → Prop} {tk' : Nat} {x y : Bool} (hret : Ret h₀ L m news s Q (fun _ => .bool x)) (e : y = x) (F : Fr h₀ L h' m) (N : News h₀ L h' news) : Q (.bool y) { s with heap := h', toks := tk' } := by
  subst e
  exact hret 0 h' tk' F N

section
variable {w : World} {mean : ExcName → Option Value} {mg mb : Str → Option Value} {f : Addr} {room : Nat} {news : List (Addr × Obj)} {vs : List Value} {R : Tok → Value}
  {dp un : Nat} {gd : Option (List Code)} {cn : Str} {cs : Scope} {a : Addr} {ccd : Value} {cl : List (Str × Addr)} {outer : List Env} {A₀ : Around} {base h₀ : Heap} {L : Addr} {m : Str → Option Value} {s : Shared} {Q E : Value → Shared → Prop}
theorem Gives.use (G : Gives w mean mg mb f room news vs R) (B : Below A₀ base outer h₀) (F : Fr h₀ L s.heap m) (X : (hd.heap_39 w.params).In h₀) (N : News h₀ L s.heap news) (T : Top hd.view_39 (looseW hd.view_39 [Str.ofString "decimal"]) mean mg mb h₀) (hk : cs.kind = .function)
    (hd : dp + room < recursionLimit) (hu : un + 8 * room < cLine) (ret : Ret h₀ L m news s Q R) :
    wpAny (model PySem.Challenge.rw_pc0119_01.row.prog w) (ktrTop dp un gd cn cs L a ccd cl outer) (call (.ref f) vs) Q E s := G _ _ _ _ _ _ _ _ _ _ _ _ _ _ _ _ _ B F X N T hk hd hu ret
end

local macro_rules | `(tactic| bits_by_make) => `(tactic| with_reducible assumption)
local macro_rules | `(tactic| walk_at "binaryOp FloorDiv int int") => `(tactic| (k_here; (with_reducible refine' div_step ?kb1 ?kb2 ?kb3 ?_); (case kb2 => bits_by_make); (case kb1 => first | omega | ((repeat' split) <;> omega)); (case kb3 => decide)))
local macro_rules | `(tactic| walk_at "binaryOp Mult int int") => `(tactic| (k_here; (with_reducible refine' mul_step ?kb1 ?kb2 ?kb3 ?_); (case kb1 => bits_by_make); (case kb2 => bits_by_make); (case kb3 => decide)))
local macro_rules | `(tactic| walk_at "binaryOp Pow int int") => `(tactic| (k_here; (with_reducible refine pow_step ?kb1 ?kb2 ?_); (case kb1 => omega); (case kb2 => omega); intro p9 hp9 hq9 hb9))

theorem cut_quotient_gives (w : World) (mean : ExcName → Option Value) (mg mb : Str → Option Value) (news : List (Addr × Obj)) (a b : Int) (ta tb : Tok) (hb : 0 < b) (hl : Builtin.Int.intBits b ≤ 1000) :
    Gives w mean mg mb 21 2 news [.int a ta, .int b tb] (fun t => .int (a.tdiv b) t) := by
  unfold Gives
  w_top off
  k_fill
  intro dp un gd cn cs x ccd cl outer A₀ base h₀ L m s Q E B F X N T hk hd hu hret
  refine wpAny_call ?_
  k_dflt cell_enter
  k_steps
  · exact ret_int hret (cut_lo hb (by assumption)) (by k_asm) (by k_asm)
  · exact ret_int hret (cut_hi hb (by assumption)) (by k_asm) (by k_asm)

local macro_rules | `(tactic| walk_at "call ref") => `(tactic| (k_here; k_dflt (refine' Gives.use (cut_quotient_gives _ _ _ _ _ _ _ _ _ ?a1 ?a2) ?k1 ?k2 ?k3 ?k4 ?k5 ?kK ?kd ?ku ?_; (case k1 => k_asm); (case k2 => k_asm); (case k3 => k_asm); (case k4 => k_asm); (case k5 => k_asm); (case kK => first | exact rfl | assumption); (case a1 => assumption); (case a2 => assumption); (case kd => ktr_room); (case ku => ktr_units)); intro t9 h9 tk9 F9 N9; (try dsimp only); (try k_fold)))

theorem units_at_gives (w : World) (mean : ExcName → Option Value) (mg mb : Str → Option Value) (news : List (Addr × Obj)) (x : Addr) (u sc k : Int) (tu ts tk : Tok) (fl : Bool)
    (hm : (x, ({ cls := .type "tuple", data := .seq [Value.int u tu, Value.int sc ts].toArray } : Obj)) ∈ news) (hu : Builtin.Int.intBits u ≤ 300) (h0 : 0 ≤ sc) (h1 : sc ≤ 30) (h2 : -20 ≤ k) (h3 : k ≤ 40) :
    Gives w mean mg mb 36 4 news [.ref x, .int k tk, .bool fl] (fun t => .int (unitsAt u sc k fl) t) := by
  unfold Gives
  w_top off
  k_fill
  intro dp un gd cn cs x ccd cl outer A₀ base h₀ L m s Q E B F X N T hk hd hu hret
  refine wpAny_call ?_
  k_dflt cell_enter
  k_steps
  all_goals first
    | exact ret_int hret (units_hi (by assumption) (by assumption)) (by k_asm) (by k_asm)
    | exact ret_int hret (units_cut (by assumption) (by assumption) (by assumption)) (by k_asm) (by k_asm)
    | exact ret_int hret (units_lo (by assumption) (by assumption) (by assumption) (by assumption)) (by k_asm) (by k_asm)
    | exact ret_int hret (units_up (by assumption) (by assumption) (by assumption) (by assumption)) (by k_asm) (by k_asm)
end Mine

namespace Mine
open PySem.Calls PySem.Spec
local macro_rules | `(tactic| bits_by_make) => `(tactic| with_reducible assumption)
local macro_rules | `(tactic| walk_at "binaryOp FloorDiv int int") => `(tactic| (k_here; (with_reducible refine' div_step ?kb1 ?kb2 ?kb3 ?_); (case kb2 => bits_by_make); (case kb1 => first | omega | ((repeat' split) <;> omega)); (case kb3 => decide)))
local macro_rules | `(tactic| walk_at "binaryOp Mult int int") => `(tactic| (k_here; (with_reducible refine' mul_step ?kb1 ?kb2 ?kb3 ?_); (case kb1 => bits_by_make); (case kb2 => bits_by_make); (case kb3 => decide)))
local macro_rules | `(tactic| walk_at "binaryOp Pow int int") => `(tactic| (k_here; (with_reducible refine pow_step ?kb1 ?kb2 ?_); (case kb1 => omega); (case kb2 => omega); intro p9 hp9 hq9 hb9))

theorem fits_gives (w : World) (mean : ExcName → Option Value) (mg mb : Str → Option Value) (news : List (Addr × Obj)) (u d : Int) (tu td : Tok) (h0 : 0 ≤ d) (h1 : d ≤ 250) :
    Gives w mean mg mb 57 2 news [.int u tu, .int d td] (fun _ => .bool (fitsB u d)) := by
  unfold Gives
  w_top off
  k_fill
  intro dp un gd cn cs x ccd cl outer A₀ base h₀ L m s Q E B F X N T hk hd hu hret
  refine wpAny_call ?_
  k_dflt cell_enter
  k_steps
  exact ret_bool hret (fits_at (by assumption)) (by k_asm) (by k_asm)

theorem law_cut_lo {a b : Int} (hb : 0 < b) (h : a < 0) : -(-a).fdiv b = a.tdiv b := by
  rw [fdiv_tdiv (by omega) (by omega), Int.neg_tdiv, Int.neg_neg]
theorem law_cut_hi {a b : Int} (hb : 0 < b) (h : ¬ a < 0) : a.fdiv b = a.tdiv b := fdiv_tdiv (by omega) (by omega)

theorem law_cut_gives (w : World) (mean : ExcName → Option Value) (mg mb : Str → Option Value) (news : List (Addr × Obj)) (a b : Int) (ta tb : Tok) (hb : 0 < b) (hl : Builtin.Int.intBits b ≤ 1000) :
    Gives w mean mg mb 78 2 news [.int a ta, .int b tb] (fun t => .int (a.tdiv b) t) := by
  unfold Gives
  w_top off
  k_fill
  intro dp un gd cn cs x ccd cl outer A₀ base h₀ L m s Q E B F X N T hk hd hu hret
  refine wpAny_call ?_
  k_dflt cell_enter
  k_steps
  · exact ret_int hret (law_cut_lo hb (by assumption)) (by k_asm) (by k_asm)
  · exact ret_int hret (law_cut_hi hb (by assumption)) (by k_asm) (by k_asm)

theorem is_whole_gives (w : World) (mean : ExcName → Option Value) (mg mb : Str → Option Value) (news : List (Addr × Obj)) (x : Addr) (u sc : Int) (tu ts : Tok)
    (hm : (x, ({ cls := .type "tuple", data := .seq [Value.int u tu, Value.int sc ts].toArray } : Obj)) ∈ news) :
    Gives w mean mg mb 43 2 news [.ref x] (fun _ => .bool (sc == 0)) := by
  unfold Gives
  w_top off
  k_fill
  intro dp un gd cn cs x ccd cl outer A₀ base h₀ L m s Q E B F X N T hk hd hu hret
  refine wpAny_call ?_
  k_dflt cell_enter
  k_steps
  exact ret_bool hret rfl (by k_asm) (by k_asm)
local macro_rules | `(tactic| walk_at "call ref") => `(tactic| (k_here; k_dflt (refine' Gives.use (units_at_gives _ _ _ _ _ _ _ _ _ _ _ _ _ ?a1 ?a2 ?a3 ?a4 ?a5 ?a6) ?k1 ?k2 ?k3 ?k4 ?k5 ?kK ?kd ?ku ?_; (case k1 => k_asm); (case k2 => k_asm); (case k3 => k_asm); (case k4 => k_asm); (case k5 => k_asm); (case kK => first | exact rfl | assumption); (case a1 => first | assumption | k_mem); (case a2 => assumption); (case a3 => omega); (case a4 => omega); (case a5 => first | decide | omega); (case a6 => first | decide | omega); (case kd => ktr_room); (case ku => ktr_units)); intro t9 h9 tk9 F9 N9; (try dsimp only); (try k_fold)))
theorem whole_of_gives (w : World) (mean : ExcName → Option Value) (mg mb : Str → Option Value) (news : List (Addr × Obj)) (x : Addr) (u sc : Int) (tu ts : Tok)
    (hm : (x, ({ cls := .type "tuple", data := .seq [Value.int u tu, Value.int sc ts].toArray } : Obj)) ∈ news) (hu : Builtin.Int.intBits u ≤ 300) (h0 : 0 ≤ sc) (h1 : sc ≤ 30) :
    Gives w mean mg mb 50 6 news [.ref x] (fun t => .int (cutAt u sc 0) t) := by
  unfold Gives
  w_top off
  k_fill
  intro dp un gd cn cs x ccd cl outer A₀ base h₀ L m s Q E B F X N T hk hd hu hret
  refine wpAny_call ?_
  k_dflt cell_enter
  k_steps
  exact ret_int hret (by simp [unitsAt]) (by k_asm) (by k_asm)

/-- a call that makes a pair of ints of which P is so -/
def GivesPair (w : World) (mean : ExcName → Option Value) (mg mb : Str → Option Value) (f : Addr) (room : Nat) (news : List (Addr × Obj)) (vs : List Value) (P : Int → Int → Prop) : Prop :=
  ∀ (dp un : Nat) (gd : Option (List Code)) (cn : Str) (cs : Scope) (a : Addr) (ccd : Value) (cl : List (Str × Addr)) (outer : List Env) (A₀ : Around) (base h₀ : Heap) (L : Addr) (m : Str → Option Value) (s : Shared) (Q E : Value → Shared → Prop),
    Below A₀ base outer h₀ → Fr h₀ L s.heap m → (hd.heap_39 w.params).In h₀ → News h₀ L s.heap news → Top hd.view_39 (looseW hd.view_39 [Str.ofString "decimal"]) mean mg mb h₀ → cs.kind = .function →
    dp + room < recursionLimit → un + 8 * room < cLine →
    (∀ (r : Addr) (u sc : Int) (tu ts : Tok) (h' : Heap) (tk' : Nat), P u sc → Fr h₀ L h' m → News h₀ L h' ((r, ({ cls := .type "tuple", data := .seq [Value.int u tu, Value.int sc ts].toArray } : Obj)) :: news) → (∀ p ∈ news, p.1 < r) → Q (.ref r) { s with heap := h', toks := tk' }) →
      wpAny (model PySem.Challenge.rw_pc0119_01.row.prog w) (ktrTop dp un gd cn cs L a ccd cl outer) (call (.ref f) vs) Q E s

theorem five_bits {u p n : Int} (h : n ≤ 5) (hu : Builtin.Int.intBits u ≤ 255) (hp : p = 10 ^ n.toNat) : Builtin.Int.intBits (u * p) ≤ 300 := by
  have h2 : Builtin.Int.intBits p ≤ 20 := by
    refine intBits_le_iff.mpr ?_
    have e : p.natAbs = 10 ^ n.toNat := by rw [hp, Int.natAbs_pow]; rfl
    rw [e]
    calc 10 ^ n.toNat ≤ 10 ^ 5 := Nat.pow_le_pow_right (by decide) (by omega)
      _ < 2 ^ 20 := by decide +kernel
  exact bits_mono (bits_mul hu h2) (by decide)
theorem acc_bits {a x : Int} {k : Nat} (h : Builtin.Int.intBits x ≤ k) : ∀ n : Nat, Builtin.Int.intBits (accN (fun (j x : Int) => (fun (_ x : Int) => x.fdiv 10) (-j) x) a x n) ≤ k
  | 0 => h
  | n + 1 => by
    show Builtin.Int.intBits ((accN _ a x n).fdiv 10) ≤ k
    exact bits_fdiv (acc_bits h n)
theorem down_bits {a x j : Int} {k : Nat} (h : Builtin.Int.intBits x ≤ k) : Builtin.Int.intBits (accDown (fun (_ x : Int) => x.fdiv 10) a x j) ≤ k := acc_bits h _

theorem decimal_gives (w : World) (mean : ExcName → Option Value) (mg mb : Str → Option Value) (news : List (Addr × Obj)) (u sc : Int) (tu ts : Tok) (hub : Builtin.Int.intBits u ≤ 255) (h0 : -5 ≤ sc) (h1 : sc ≤ 30) :
    GivesPair w mean mg mb 29 2 news [.int u tu, .int sc ts] (fun u' sc' => Builtin.Int.intBits u' ≤ 300 ∧ 0 ≤ sc' ∧ sc' ≤ 30) := by
  unfold GivesPair
  w_top off
  k_fill
  intro dp un gd cn cs x ccd cl outer A₀ base h₀ L m s Q E B F X N T hk hd hu hret
  refine wpAny_call ?_
  k_dflt (refine' code_def ?k1 ?k2 ?k3 ?k4 ?k5 ?kA ?kF ?kK ?k6 ?k7 ?k8 ?k9 ?kB ?_ ?c2 ?c3 ?c4 ?c5; (case kA => exact rfl); (case kF => exact rfl); (case kK => assumption); (case k1 => k_asm); (case k2 => k_asm); (case k3 => k_asm); (case k4 => k_asm); (case k5 => k_asm); (case k6 => k_is); (case k7 => k_is); (case k8 => ktr_room); (case k9 => first | exact BindsTo.of_eq rfl | exact binds_K (by k_in) rfl (by k_is) rfl rfl rfl); (case c5 => decide); (case kB => exact locs rfl); (case c2 => exact rfl); (case c3 => exact rfl); (case c4 => exact rfl); k_whole; intro g' L' h' FG' F' N' B' X' T'; (try dsimp only); (try k_lift B'); (try k_fold))
  k_steps
  · refine hret _ _ _ _ _ _ _ ?_ (by k_asm) (by k_asm) (by assumption)
    exact ⟨five_bits (n := -sc) (by omega) hub (by assumption), by omega, by omega⟩
  · refine hret _ _ _ _ _ _ _ ?_ (by k_asm) (by k_asm) (by assumption)
    exact ⟨down_bits (bits_mono hub (by decide)), by omega, by omega⟩
end Mine

namespace Mine
open PySem.Calls PySem.Spec
local macro_rules | `(tactic| bits_by_make) => `(tactic| with_reducible assumption)
local macro_rules | `(tactic| walk_at "binaryOp FloorDiv int int") => `(tactic| (k_here; (with_reducible refine' div_step ?kb1 ?kb2 ?kb3 ?_); (case kb2 => bits_by_make); (case kb1 => first | omega | ((repeat' split) <;> omega)); (case kb3 => decide)))
local macro_rules | `(tactic| walk_at "binaryOp Mult int int") => `(tactic| (k_here; (with_reducible refine' mul_step ?kb1 ?kb2 ?kb3 ?_); (case kb1 => bits_by_make); (case kb2 => bits_by_make); (case kb3 => decide)))
local macro_rules | `(tactic| walk_at "binaryOp Pow int int") => `(tactic| (k_here; (try k_fmods); (with_reducible refine pow_step ?kb1 ?kb2 ?_); (case kb1 => omega); (case kb2 => omega); intro p9 hp9 hq9 hb9))

theorem draw_bits {x y p : Int} (hp : p = 10 ^ (1 + y.fmod 75).toNat) : Builtin.Int.intBits (x.fmod p) ≤ 255 := by
  have hf : y.fmod 75 < 75 := Int.fmod_lt_of_pos y (by decide)
  have h0 : 0 < p := by rw [hp]; exact ten_pos _
  have h2 : Builtin.Int.intBits p ≤ 255 := by
    refine intBits_le_iff.mpr ?_
    have e : p.natAbs = 10 ^ (1 + y.fmod 75).toNat := by rw [hp, Int.natAbs_pow]; rfl
    rw [e]
    calc 10 ^ (1 + y.fmod 75).toNat ≤ 10 ^ 75 := Nat.pow_le_pow_right (by decide) (by omega)
      _ < 2 ^ 255 := by decide +kernel
  exact bits_fmod_by (by omega) h2
theorem draw_scale (z : Int) : -5 ≤ z.fmod 24 - 5 ∧ z.fmod 24 - 5 ≤ 30 := by
  have h1 : z.fmod 24 < 24 := Int.fmod_lt_of_pos z (by decide)
  have h2 : 0 ≤ z.fmod 24 := Int.fmod_nonneg_of_pos z (by decide)
  omega

theorem law_decimal_gives (w : World) (mean : ExcName → Option Value) (mg mb : Str → Option Value) (news : List (Addr × Obj)) (l : Addr) (vs : List Value) (ns : List Int) (k : Int) (tk : Tok) (h0 : 0 ≤ k) (h1 : k ≤ 2) :
  ∀ (dp un : Nat) (gd : Option (List Code)) (cn : Str) (cs : Scope) (a : Addr) (ccd : Value) (cl : List (Str × Addr)) (outer : List Env) (A₀ : Around) (base h₀ : Heap) (L : Addr) (m : Str → Option Value) (s : Shared) (Q E : Value → Shared → Prop),
    Below A₀ base outer h₀ → Fr h₀ L s.heap m → (hd.heap_39 w.params).In h₀ → News h₀ L s.heap news → Top hd.view_39 (looseW hd.view_39 [Str.ofString "decimal"]) mean mg mb h₀ → cs.kind = .function →
    base.IsList l vs.toArray → IntsAre vs ns → ns.length < 2 ^ 62 →
    dp + 2 < recursionLimit → un + 16 < cLine →
    (∀ (r : Addr) (u sc : Int) (tu ts : Tok) (h' : Heap) (tk' : Nat), (Builtin.Int.intBits u ≤ 255 ∧ -5 ≤ sc ∧ sc ≤ 30) → Fr h₀ L h' m → News h₀ L h' ((r, ({ cls := .type "tuple", data := .seq [Value.int u tu, Value.int sc ts].toArray } : Obj)) :: news) → (∀ p ∈ news, p.1 < r) → Q (.ref r) { s with heap := h', toks := tk' }) →
      wpAny (model PySem.Challenge.rw_pc0119_01.row.prog w) (ktrTop dp un gd cn cs L a ccd cl outer) (call (.ref 64) [.ref l, .int k tk]) Q E s := by
  w_top off
  k_fill
  intro dp un gd cn cs x ccd cl outer A₀ base h₀ L m s Q E B F X N T hk hl hi hfit hd hu hret
  refine wpAny_call ?_
  k_dflt cell_enter
  k_steps
  all_goals (refine hret _ _ _ _ _ _ _ ?_ (by k_asm) (by k_asm) (by assumption))
  all_goals first
    | exact ⟨draw_bits (by assumption), draw_scale _⟩
    | exact ⟨bits_neg (draw_bits (by assumption)), draw_scale _⟩
end Mine

namespace Mine
open PySem.Calls PySem.Spec
local macro_rules | `(tactic| bits_by_make) => `(tactic| with_reducible assumption)
local macro_rules | `(tactic| walk_at "binaryOp FloorDiv int int") => `(tactic| (k_here; (with_reducible refine' div_step ?kb1 ?kb2 ?kb3 ?_); (case kb2 => bits_by_make); (case kb1 => first | omega | ((repeat' split) <;> omega)); (case kb3 => decide)))
local macro_rules | `(tactic| walk_at "binaryOp Mult int int") => `(tactic| (k_here; (with_reducible refine' mul_step ?kb1 ?kb2 ?kb3 ?_); (case kb1 => bits_by_make); (case kb2 => bits_by_make); (case kb3 => decide)))
local macro_rules | `(tactic| walk_at "binaryOp Pow int int") => `(tactic| (k_here; (with_reducible refine pow_step ?kb1 ?kb2 ?_); (case kb1 => omega); (case kb2 => omega); intro p9 hp9 hq9 hb9))
local macro_rules | `(tactic| walk_at "call ref") => `(tactic| (k_here; k_dflt (refine' Gives.use (units_at_gives _ _ _ _ _ _ _ _ _ _ _ _ _ ?a1 ?a2 ?a3 ?a4 ?a5 ?a6) ?k1 ?k2 ?k3 ?k4 ?k5 ?kK ?kd ?ku ?_; (case k1 => k_asm); (case k2 => k_asm); (case k3 => k_asm); (case k4 => k_asm); (case k5 => k_asm); (case kK => first | exact rfl | assumption); (case a1 => first | assumption | (refine List.mem_cons_of_mem _ ?_; assumption) | k_mem); (case a2 => assumption); (case a3 => omega); (case a4 => omega); (case a5 => first | decide | omega); (case a6 => first | decide | omega); (case kd => ktr_room); (case ku => ktr_units)); intro t9 h9 tk9 F9 N9; (try dsimp only); (try k_fold)))
local macro_rules | `(tactic| walk_at "call ref") => `(tactic| (k_here; k_dflt (refine' Gives.use (law_cut_gives _ _ _ _ _ _ _ _ _ ?a1 ?a2) ?k1 ?k2 ?k3 ?k4 ?k5 ?kK ?kd ?ku ?_; (case k1 => k_asm); (case k2 => k_asm); (case k3 => k_asm); (case k4 => k_asm); (case k5 => k_asm); (case kK => first | exact rfl | assumption); (case a1 => assumption); (case a2 => assumption); (case kd => ktr_room); (case ku => ktr_units)); intro t9 h9 tk9 F9 N9; (try dsimp only); (try k_fold)))
local macro_rules | `(tactic| walk_at "call ref") => `(tactic| (k_here; k_dflt (refine' Gives.use (fits_gives _ _ _ _ _ _ _ _ _ ?a1 ?a2) ?k1 ?k2 ?k3 ?k4 ?k5 ?kK ?kd ?ku ?_; (case k1 => k_asm); (case k2 => k_asm); (case k3 => k_asm); (case k4 => k_asm); (case k5 => k_asm); (case kK => first | exact rfl | assumption); (case a1 => omega); (case a2 => omega); (case kd => ktr_room); (case ku => ktr_units)); intro t9 h9 tk9 F9 N9; (try dsimp only); (try k_fold)))

local macro_rules | `(tactic| walk_at "eval Call") => `(tactic| (k_here; k_dflt (refine Call_ ?_)))

theorem str_step {prog : Program} {w : World} {A : Around} {E : Value → Shared → Prop} {s : Shared} {Q : Value → Shared → Prop} {x p : Int} {t : Tok} (hp : p = 10 ^ Int.toNat 200)
    (h : ∀ S : Str, 1 ≤ (S.length : Int) → (S.length : Int) ≤ 200 → Digits (x.fmod p) S.length → Q (.str S s.toks) { s with toks := s.toks + 1 }) :
    wpAny (model prog w) A (call (.type "str") [.int (x.fmod p) t]) Q E s := by
  have h0 : 0 < p := by rw [hp]; exact ten_gt _
  have h1 : 0 ≤ x.fmod p := Int.fmod_nonneg_of_pos x h0
  have h2 : x.fmod p < p := Int.fmod_lt_of_pos x h0
  generalize x.fmod p = a at h1 h2 h
  obtain ⟨m, rfl⟩ := Int.eq_ofNat_of_zero_le h1
  have h3 : m < 10 ^ 200 := by
    have e : p = ((10 ^ 200 : Nat) : Int) := by rw [hp, ten_cast]; rfl
    rw [e] at h2; exact Int.ofNat_lt.mp h2
  have hl : (m : Int).natAbs.log2 < 1920 := by
    rw [Int.natAbs_natCast]
    by_cases hm : m = 0
    · subst hm; decide
    · have : m.log2 < 700 := (Nat.log2_lt hm).mpr (Nat.lt_trans h3 (by decide +kernel))
      omega
  have e : (Str.ofString (toString (m : Int))).length = (Nat.repr m).length := PySem.ofString_length _
  have d := repr_figures m
  have l1 := d.1
  have l2 := repr_short (k := 200) (by decide) h3
  refine P.str_of_int hl (h _ ?_ ?_ ?_)
  · rw [e]; omega
  · rw [e]; omega
  · rw [e]; exact d
local macro_rules | `(tactic| walk_at "call type:str") => `(tactic| (k_here; (refine str_step (by assumption) ?_); intro S9 hS8 hS9 hD9))

theorem law_right_gives (w : World) (mean : ExcName → Option Value) (mg mb : Str → Option Value) (news : List (Addr × Obj)) (x : Addr) (u sc k : Int) (tu ts tk : Tok)
    (hm : (x, ({ cls := .type "tuple", data := .seq [Value.int u tu, Value.int sc ts].toArray } : Obj)) ∈ news) (hub : Builtin.Int.intBits u ≤ 300) (h0 : 0 ≤ sc) (h1 : sc ≤ 30) (h2 : -20 ≤ k) (h3 : k ≤ 40) :
    Gives w mean mg mb 85 8 news [.ref x, .int k tk] (fun _ => .bool true) := by
  have hk60 : k ≤ 60 := by omega
  have hs60 : sc ≤ 60 := by omega
  unfold Gives
  w_top off
  k_fill
  intro dp un gd cn cs x ccd cl outer A₀ base h₀ L m s Q E B F X N T hk hd hu hret
  refine wpAny_call ?_
  k_dflt cell_enter
  k_steps
  all_goals first
    | exact absurd (law_A (u := u) (sc := sc) (k := k) hk60 hs60 (by with_reducible assumption) (by with_reducible assumption)) (by with_reducible assumption)
    | exact absurd (law_Bn (u := u) (sc := sc) (k := k) hk60 hs60 (by with_reducible assumption) (by with_reducible assumption) (by with_reducible assumption)) (by with_reducible assumption)
    | exact absurd (law_Bp (u := u) (sc := sc) (k := k) hk60 hs60 (by with_reducible assumption) (by with_reducible assumption) (by with_reducible assumption)) (by with_reducible assumption)
    | with_reducible exact ret_bool hret (law_C1 hub h0 (by with_reducible assumption) (by with_reducible assumption) (by with_reducible assumption)) (by k_asm) (cb_drop (by k_asm) fun _ hp => List.mem_cons_of_mem _ hp)
    | with_reducible exact ret_bool hret (law_C2 hub h0 (by with_reducible assumption) (by with_reducible assumption) (by with_reducible assumption)) (by k_asm) (cb_drop (by k_asm) fun _ hp => List.mem_cons_of_mem _ hp)
    | with_reducible exact ret_bool hret (law_C3 hub h0 (by with_reducible assumption) (by with_reducible assumption) (by with_reducible assumption)) (by k_asm) (cb_drop (by k_asm) fun _ hp => List.mem_cons_of_mem _ hp)
end Mine

namespace Mine
open PySem.Calls PySem.Spec
local macro_rules | `(tactic| bits_by_make) => `(tactic| with_reducible assumption)
local macro_rules | `(tactic| walk_at "binaryOp FloorDiv int int") => `(tactic| (k_here; (with_reducible refine' div_step ?kb1 ?kb2 ?kb3 ?_); (case kb2 => bits_by_make); (case kb1 => first | omega | ((repeat' split) <;> omega)); (case kb3 => decide)))
local macro_rules | `(tactic| walk_at "binaryOp Mult int int") => `(tactic| (k_here; (with_reducible refine' mul_step ?kb1 ?kb2 ?kb3 ?_); (case kb1 => bits_by_make); (case kb2 => bits_by_make); (case kb3 => decide)))
local macro_rules | `(tactic| walk_at "binaryOp Pow int int") => `(tactic| (k_here; (with_reducible refine pow_step ?kb1 ?kb2 ?_); (case kb1 => omega); (case kb2 => omega); intro p9 hp9 hq9 hb9))
local macro_rules | `(tactic| walk_at "call ref") => `(tactic| (k_here; k_dflt (refine' Gives.use (units_at_gives _ _ _ _ _ _ _ _ _ _ _ _ _ ?a1 ?a2 ?a3 ?a4 ?a5 ?a6) ?k1 ?k2 ?k3 ?k4 ?k5 ?kK ?kd ?ku ?_; (case k1 => k_asm); (case k2 => k_asm); (case k3 => k_asm); (case k4 => k_asm); (case k5 => k_asm); (case kK => first | exact rfl | assumption); (case a1 => first | assumption | (refine List.mem_cons_of_mem _ ?_; assumption) | k_mem); (case a2 => first | with_reducible assumption | decide); (case a3 => omega); (case a4 => omega); (case a5 => first | decide | omega); (case a6 => first | decide | omega); (case kd => ktr_room); (case ku => ktr_units)); intro t9 h9 tk9 F9 N9; (try dsimp only); (try k_fold)))
local macro_rules | `(tactic| walk_at "call ref") => `(tactic| (k_here; k_dflt (refine' Gives.use (law_cut_gives _ _ _ _ _ _ _ _ _ ?a1 ?a2) ?k1 ?k2 ?k3 ?k4 ?k5 ?kK ?kd ?ku ?_; (case k1 => k_asm); (case k2 => k_asm); (case k3 => k_asm); (case k4 => k_asm); (case k5 => k_asm); (case kK => first | exact rfl | assumption); (case a1 => assumption); (case a2 => assumption); (case kd => ktr_room); (case ku => ktr_units)); intro t9 h9 tk9 F9 N9; (try dsimp only); (try k_fold)))
local macro_rules | `(tactic| walk_at "call ref") => `(tactic| (k_here; k_dflt (refine' Gives.use (fits_gives _ _ _ _ _ _ _ _ _ ?a1 ?a2) ?k1 ?k2 ?k3 ?k4 ?k5 ?kK ?kd ?ku ?_; (case k1 => k_asm); (case k2 => k_asm); (case k3 => k_asm); (case k4 => k_asm); (case k5 => k_asm); (case kK => first | exact rfl | assumption); (case a1 => omega); (case a2 => omega); (case kd => ktr_room); (case ku => ktr_units)); intro t9 h9 tk9 F9 N9; (try dsimp only); (try k_fold)))

local macro_rules | `(tactic| walk_at "eval Call") => `(tactic| (k_here; k_dflt (refine Call_ ?_)))

/-- a row of the written table, its tokens as one letter -/
abbrev tup (u v w x y : Int) (a b c d e : Tok) : Obj := { cls := .type "tuple", data := .seq [Value.int u a, Value.int v b, Value.int w c, Value.int x d, Value.int y e].toArray }
abbrev rowO (u v w x y : Int) (z : Nat → Tok) : Obj := tup u v w x y (z 0) (z 1) (z 2) (z 3) (z 4)
def five (a b c d e : Tok) : Nat → Tok
  | 0 => a
  | 1 => b
  | 2 => c
  | 3 => d
  | _ => e
theorem pack {P : Prop} {h₀ h : Heap} {L : Addr} {A B C : Addr × Obj} {d1 d2 d3 d4 d5 d6 d7 d8 d9 d10 d11 : Addr} {u1 v1 w1 x1 y1 u2 v2 w2 x2 y2 u3 v3 w3 x3 y3 u4 v4 w4 x4 y4 u5 v5 w5 x5 y5 u6 v6 w6 x6 y6 u7 v7 w7 x7 y7 u8 v8 w8 x8 y8 u9 v9 w9 x9 y9 u10 v10 w10 x10 y10 u11 v11 w11 x11 y11 : Int} {k1a k1b k1c k1d k1e k2a k2b k2c k2d k2e k3a k3b k3c k3d k3e k4a k4b k4c k4d k4e k5a k5b k5c k5d k5e k6a k6b k6c k6d k6e k7a k7b k7c k7d k7e k8a k8b k8c k8d k8e k9a k9b k9c k9d k9e k10a k10b k10c k10d k10e k11a k11b k11c k11d k11e : Tok}
    (N : News h₀ L h [A, B, (d11, tup u11 v11 w11 x11 y11 k11a k11b k11c k11d k11e), (d10, tup u10 v10 w10 x10 y10 k10a k10b k10c k10d k10e), (d9, tup u9 v9 w9 x9 y9 k9a k9b k9c k9d k9e), (d8, tup u8 v8 w8 x8 y8 k8a k8b k8c k8d k8e), (d7, tup u7 v7 w7 x7 y7 k7a k7b k7c k7d k7e), C, (d6, tup u6 v6 w6 x6 y6 k6a k6b k6c k6d k6e), (d5, tup u5 v5 w5 x5 y5 k5a k5b k5c k5d k5e), (d4, tup u4 v4 w4 x4 y4 k4a k4b k4c k4d k4e), (d3, tup u3 v3 w3 x3 y3 k3a k3b k3c k3d k3e), (d2, tup u2 v2 w2 x2 y2 k2a k2b k2c k2d k2e), (d1, tup u1 v1 w1 x1 y1 k1a k1b k1c k1d k1e)])
    (k : ∀ z1 z2 z3 z4 z5 z6 z7 z8 z9 z10 z11 : Nat → Tok, News h₀ L h [A, (d1, rowO u1 v1 w1 x1 y1 z1), (d2, rowO u2 v2 w2 x2 y2 z2), (d3, rowO u3 v3 w3 x3 y3 z3), (d4, rowO u4 v4 w4 x4 y4 z4), (d5, rowO u5 v5 w5 x5 y5 z5), (d6, rowO u6 v6 w6 x6 y6 z6), (d7, rowO u7 v7 w7 x7 y7 z7), (d8, rowO u8 v8 w8 x8 y8 z8), (d9, rowO u9 v9 w9 x9 y9 z9), (d10, rowO u10 v10 w10 x10 y10 z10), (d11, rowO u11 v11 w11 x11 y11 z11)] → P) : P := by
  refine k (five k1a k1b k1c k1d k1e) (five k2a k2b k2c k2d k2e) (five k3a k3b k3c k3d k3e) (five k4a k4b k4c k4d k4e) (five k5a k5b k5c k5d k5e) (five k6a k6b k6c k6d k6e) (five k7a k7b k7c k7d k7e) (five k8a k8b k8c k8d k8e) (five k9a k9b k9c k9d k9e) (five k10a k10b k10c k10d k10e) (five k11a k11b k11c k11d k11e) fun p hp => N p ?_
  simp only [List.mem_cons, List.not_mem_nil, or_false] at hp ⊢
  rcases hp with rfl | rfl | rfl | rfl | rfl | rfl | rfl | rfl | rfl | rfl | rfl | rfl <;> simp [rowO, five]
theorem subs : ∀ {l all : List (Addr × Obj)}, (∀ p ∈ l, p ∈ all) → SubL l all
  | [], _, _ => trivial
  | p :: _, _, h => ⟨h p (.head _), subs fun q hq => h q (.tail _ hq)⟩
theorem mem_two {i a b c d : Addr × Obj} {r : List (Addr × Obj)} {p : Addr × Obj} (h : p ∈ c :: r) : p ∈ a :: b :: i :: c :: d :: r := by
  rcases List.mem_cons.mp h with h | h
  · subst h
    exact .tail _ (.tail _ (.tail _ (.head _)))
  · exact .tail _ (.tail _ (.tail _ (.tail _ (.tail _ h))))
/-- the end of a turn that made two tuples and is through with its row: the three are dropped -/
theorem end_two {h₀ : Heap} {L : Addr} {i a b c d : Addr × Obj} {r : List (Addr × Obj)} {rest : (Str → Option Value) → List (Addr × Obj) → Prop} {s₁ : Shared} {h' : Heap} {tk : Nat} {m' : Str → Option Value} (F : Fr h₀ L h' m') (N : News h₀ L h' (a :: b :: i :: c :: d :: r))
    (off : OffW [i] (c :: r)) (k : rest m' (c :: r)) : UnrEndW h₀ L s₁ [i] rest { s₁ with heap := h', toks := tk } :=
  UnrEndW.intro F N (c :: r) ⟨.tail _ (.tail _ (.head _)), trivial⟩ (subs fun _ hp => mem_two hp) off k
theorem any_tok {prog : Program} {w : World} {A : Around} {M : Sem Value} {Q E : Value → Shared → Prop} {s : Shared} (h : ∀ t : Tok, wpAny (model prog w) A M Q E { s with toks := t }) : wpAny (model prog w) A M Q E s := h s.toks
theorem same_else {p : Prop} [Decidable p] {A x y : Option Value} (h : ¬ p → x = y) : (if p then A else x) = if p then A else y := by
  split
  · rfl
  · exact h (by assumption)
theorem end_fr {h₀ h : Heap} {L : Addr} {a b c d e : Str} {A B C D E A' B' C' D' E' : Option Value} {f : Str → Option Value}
    (F : Fr h₀ L h (fun y => if y = a then A else if y = b then B else if y = c then C else if y = d then D else if y = e then E else if y = a then A' else if y = b then B' else if y = c then C' else if y = d then D' else if y = e then E' else f y)) :
    Fr h₀ L h (fun y => if y = a then A else if y = b then B else if y = c then C else if y = d then D else if y = e then E else f y) := by
  refine Eq.mp (congrArg (Fr h₀ L h) (funext fun y => ?_)) F
  refine same_else fun h1 => same_else fun h2 => same_else fun h3 => same_else fun h4 => same_else fun h5 => ?_
  rw [if_neg h1, if_neg h2, if_neg h3, if_neg h4, if_neg h5]
local macro_rules | `(tactic| walk_at "UnrEndW") => `(tactic| k_dflt first
  | (refine end_two (end_fr (by assumption)) (by assumption) (by ktu_offL) ⟨by k_subL, ?_⟩)
  | (refine end_two (by assumption) (by assumption) (by ktu_offL) ⟨by k_subL, ?_⟩))
local macro_rules | `(tactic| walk_at "pyIter ref") => `(tactic| (k_here; (with_reducible show wpAny _ _ (pyIter (Value.ref _)) (fun it s₂ => TurnsAt _ _ _ _ _ _ _ _ _ it s₂) _ _); (with_reducible rename News _ _ _ _ => N9); k_dflt (refine pack N9 ?_); clear N9; intro z1 z2 z3 z4 z5 z6 z7 z8 z9 z10 z11 N9; refine any_tok (fun tk9 => ?_); (try dsimp only); ktu_seq))

theorem law_table_gives (w : World) (mean : ExcName → Option Value) (mg mb : Str → Option Value) :
    Gives w mean mg mb 92 8 [] [] (fun _ => .bool true) := by
  unfold Gives
  w_top off
  k_fill
  intro dp un gd cn cs x ccd cl outer A₀ base h₀ L m s Q E B F X N T hk hd hu hret
  refine wpAny_call ?_
  k_dflt cell_enter
  k_steps
  exact ret_bool hret (by decide) (by k_asm) (cb_drop (by k_asm) fun _ hp => nomatch hp)
end Mine

namespace Mine
open PySem.Calls PySem.Spec

section
variable {w : World} {mean : ExcName → Option Value} {mg mb : Str → Option Value} {f : Addr} {room : Nat} {news : List (Addr × Obj)} {vs : List Value} {P : Int → Int → Prop}
  {dp un : Nat} {gd : Option (List Code)} {cn : Str} {cs : Scope} {a : Addr} {ccd : Value} {cl : List (Str × Addr)} {outer : List Env} {A₀ : Around} {base h₀ : Heap} {L : Addr} {m : Str → Option Value} {s : Shared} {Q E : Value → Shared → Prop}
theorem GivesPair.use (G : GivesPair w mean mg mb f room news vs P) (B : Below A₀ base outer h₀) (F : Fr h₀ L s.heap m) (X : (hd.heap_39 w.params).In h₀) (N : News h₀ L s.heap news) (T : Top hd.view_39 (looseW hd.view_39 [Str.ofString "decimal"]) mean mg mb h₀) (hk : cs.kind = .function)
    (hd : dp + room < recursionLimit) (hu : un + 8 * room < cLine)
    (ret : ∀ (r : Addr) (u sc : Int) (tu ts : Tok) (h' : Heap) (tk' : Nat), P u sc → Fr h₀ L h' m → News h₀ L h' ((r, ({ cls := .type "tuple", data := .seq [Value.int u tu, Value.int sc ts].toArray } : Obj)) :: news) → (∀ p ∈ news, p.1 < r) → Q (.ref r) { s with heap := h', toks := tk' }) :
    wpAny (model PySem.Challenge.rw_pc0119_01.row.prog w) (ktrTop dp un gd cn cs L a ccd cl outer) (call (.ref f) vs) Q E s := G _ _ _ _ _ _ _ _ _ _ _ _ _ _ _ _ _ B F X N T hk hd hu ret
theorem Gives.drop {R : Tok → Value} (G : Gives w mean mg mb f room [] vs R) (B : Below A₀ base outer h₀) (F : Fr h₀ L s.heap m) (X : (hd.heap_39 w.params).In h₀) (T : Top hd.view_39 (looseW hd.view_39 [Str.ofString "decimal"]) mean mg mb h₀) (hk : cs.kind = .function)
    (hd : dp + room < recursionLimit) (hu : un + 8 * room < cLine) (ret : Ret h₀ L m [] s Q R) :
    wpAny (model PySem.Challenge.rw_pc0119_01.row.prog w) (ktrTop dp un gd cn cs L a ccd cl outer) (call (.ref f) vs) Q E s := G _ _ _ _ _ _ _ _ _ _ _ _ _ _ _ _ _ B F X (fun _ hp => nomatch hp) T hk hd hu ret
theorem law_decimal_use {l : Addr} {vs : List Value} {ns : List Int} {k : Int} {tk : Tok} (h0 : 0 ≤ k) (h1 : k ≤ 2)
    (B : Below A₀ base outer h₀) (F : Fr h₀ L s.heap m) (X : (hd.heap_39 w.params).In h₀) (N : News h₀ L s.heap news) (T : Top hd.view_39 (looseW hd.view_39 [Str.ofString "decimal"]) mean mg mb h₀) (hk : cs.kind = .function)
    (hl : base.IsList l vs.toArray) (hi : IntsAre vs ns) (hfit : ns.length < 2 ^ 62) (hd : dp + 2 < recursionLimit) (hu : un + 16 < cLine)
    (ret : ∀ (r : Addr) (u sc : Int) (tu ts : Tok) (h' : Heap) (tk' : Nat), (Builtin.Int.intBits u ≤ 255 ∧ -5 ≤ sc ∧ sc ≤ 30) → Fr h₀ L h' m → News h₀ L h' ((r, ({ cls := .type "tuple", data := .seq [Value.int u tu, Value.int sc ts].toArray } : Obj)) :: news) → (∀ p ∈ news, p.1 < r) → Q (.ref r) { s with heap := h', toks := tk' }) :
    wpAny (model PySem.Challenge.rw_pc0119_01.row.prog w) (ktrTop dp un gd cn cs L a ccd cl outer) (call (.ref 64) [.ref l, .int k tk]) Q E s := law_decimal_gives w mean mg mb news l vs ns k tk h0 h1 _ _ _ _ _ _ _ _ _ _ _ _ _ _ _ _ _ B F X N T hk hl hi hfit hd hu ret
end
theorem at_lo (x : Int) : -20 ≤ x.fmod 40 - 9 := by
  have := Int.fmod_nonneg_of_pos x (show (0 : Int) < 40 by decide)
  omega
theorem at_hi (x : Int) : x.fmod 40 - 9 ≤ 40 := by
  have := Int.fmod_lt_of_pos x (show (0 : Int) < 40 by decide)
  omega

theorem whole_law {u sc p : Int} (h0 : 0 ≤ sc) (hp : p = 10 ^ sc.toNat) : cutAt u sc 0 = u.tdiv p := by
  subst hp
  unfold cutAt
  by_cases h : sc ≤ 0
  · have : sc = 0 := by omega
    subst this
    simp
  · rw [if_neg h, Int.sub_zero]
theorem ne_same {prog : Program} {w : World} {A : Around} {E : Value → Shared → Prop} {s : Shared} {Q : Value → Shared → Prop} {a b : Int} {t u : Tok} (e : a = b) (h : Q (.bool false) s) : wpAny (model prog w) A (compareOp .NotEq (.int a t) (.int b u)) Q E s := by
  subst e
  refine ne_int ?_
  rwa [bne_self_eq_false]
theorem ne_sym {a b : Nat} (h : b ≠ a) : a ≠ b := fun e => h e.symm
end Mine
open Mine
local macro_rules | `(tactic| k_in) => `(tactic| exact Frag.In.keeps (by with_reducible assumption) (Fr.keep (by with_reducible assumption)))
local macro_rules | `(tactic| k_ne) => `(tactic| (refine neN ?_; (try dsimp only); first | with_reducible assumption | (refine ne_sym ?_; with_reducible assumption) | (refine Nat.ne_of_lt ?_; with_reducible assumption) | (refine Nat.ne_of_gt ?_; with_reducible assumption) | ((repeat (with_reducible rename (@Ne Nat _ _) => hq9; clear hq9)); omega)))
local macro_rules | `(tactic| walk_at "UnrEndW") => `(tactic| ((repeat ((with_reducible rename (_ ∧ _) => hq9); obtain ⟨_, _⟩ := hq9)); k_dflt ktu_end))
local macro_rules | `(tactic| walk_at "compareOp NotEq int int") => `(tactic| (k_here; (with_reducible refine ne_same (whole_law (by with_reducible assumption) (by with_reducible assumption)) ?_)))
local macro_rules | `(tactic| walk_at "CompRest") => `(tactic| ((repeat (with_reducible rename (@Ne Nat _ _) => hq9; clear hq9)); with_unfolding_all first
  | (refine LCg.CompRest.succ ?_; intro v' I' oI' C' oC' D' m' h' tk' E' hv' hC' hx' F' N' off' ne'; (first | lcg_open hv' | (obtain ⟨t9', hv9'⟩ := hv'; subst hv9')); (try simp only [LCg.Off3, and_true] at off'); (repeat (with_reducible obtain ⟨⟨_, _, _⟩, off'⟩ := off')); (try (with_reducible obtain ⟨_, _, _⟩ := off')); (with_reducible obtain ⟨_, _, _⟩ := ne'))
  | refine LCg.CompRest.zero ?_))
local macro_rules | `(tactic| walk_at "FinA") => `(tactic| ((repeat (with_reducible rename (@Ne Nat _ _) => hq9; clear hq9)); (unfold LCg.FinA); intro D' h' tk' F' N' o1'; (try simp only [List.nil_append, List.cons_append] at N'); (try dsimp only); clear o1'))
local macro_rules | `(tactic| walk_at "FinE") => `(tactic| ((repeat (with_reducible rename (@Ne Nat _ _) => hq9; clear hq9)); (unfold LCg.FinE); intro D' h' tk' F' N' o1'; (try simp only [List.nil_append, List.cons_append] at N'); (try dsimp only); clear o1'))
local macro_rules | `(tactic| bits_by_make) => `(tactic| with_reducible assumption)
local macro_rules | `(tactic| walk_at "binaryOp Pow int int") => `(tactic| (k_here; (with_reducible refine pow_step ?kb1 ?kb2 ?_); (case kb1 => omega); (case kb2 => omega); intro p9 hp9 hq9 hb9))
local macro_rules | `(tactic| walk_at "call ref") => `(tactic| (k_here; k_dflt (refine' law_decimal_use ?a1 ?a2 ?k1 ?k2 ?k3 ?k4 ?k5 ?kK ?kl ?ki ?kt ?kd ?ku ?_; (case k1 => k_asm); (case k2 => k_asm); (case k3 => k_asm); (case k4 => k_asm); (case k5 => k_asm); (case kK => first | exact rfl | assumption); (case a1 => first | decide | omega); (case a2 => first | decide | omega); (case kl => k_asm); (case ki => l_ints); (case kt => l_fit); (case kd => ktr_room); (case ku => ktr_units)); intro r9 u9 sc9 tu9 ts9 h9 tk9 hP9 F9 N9 l9; (obtain ⟨hPa9, hPb9, hPc9⟩ := hP9); (try k_lt l9); (try dsimp only); (try k_fold)))
local macro_rules | `(tactic| walk_at "call ref") => `(tactic| (k_here; k_dflt (refine' GivesPair.use (decimal_gives _ _ _ _ _ _ _ _ _ ?a1 ?a2 ?a3) ?k1 ?k2 ?k3 ?k4 ?k5 ?kK ?kd ?ku ?_; (case k1 => k_asm); (case k2 => k_asm); (case k3 => k_asm); (case k4 => k_asm); (case k5 => k_asm); (case kK => first | exact rfl | assumption); (case a1 => with_reducible assumption); (case a2 => with_reducible assumption); (case a3 => with_reducible assumption); (case kd => ktr_room); (case ku => ktr_units)); intro r9 u9 sc9 tu9 ts9 h9 tk9 hP9 F9 N9 l9; (obtain ⟨hPa9, hPb9, hPc9⟩ := hP9); (try k_lt l9); (try dsimp only); (try k_fold)))
local macro_rules | `(tactic| walk_at "call ref") => `(tactic| (k_here; k_dflt (refine' Gives.use (whole_of_gives _ _ _ _ _ _ _ _ _ _ ?a1 ?a2 ?a3 ?a4) ?k1 ?k2 ?k3 ?k4 ?k5 ?kK ?kd ?ku ?_; (case k1 => k_asm); (case k2 => k_asm); (case k3 => k_asm); (case k4 => k_asm); (case k5 => k_asm); (case kK => first | exact rfl | assumption); (case a1 => k_mem); (case a2 => with_reducible assumption); (case a3 => with_reducible assumption); (case a4 => with_reducible assumption); (case kd => ktr_room); (case ku => ktr_units)); intro t9 h9 tk9 F9 N9; (try dsimp only); (try k_fold)))
local macro_rules | `(tactic| walk_at "call ref") => `(tactic| (k_here; k_dflt (refine' Gives.use (is_whole_gives _ _ _ _ _ _ _ _ _ _ ?a1) ?k1 ?k2 ?k3 ?k4 ?k5 ?kK ?kd ?ku ?_; (case k1 => k_asm); (case k2 => k_asm); (case k3 => k_asm); (case k4 => k_asm); (case k5 => k_asm); (case kK => first | exact rfl | assumption); (case a1 => k_mem); (case kd => ktr_room); (case ku => ktr_units)); intro t9 h9 tk9 F9 N9; (try dsimp only); (try k_fold)))
local macro_rules | `(tactic| walk_at "call ref") => `(tactic| (k_here; k_dflt (refine' Gives.use (law_cut_gives _ _ _ _ _ _ _ _ _ ?a1 ?a2) ?k1 ?k2 ?k3 ?k4 ?k5 ?kK ?kd ?ku ?_; (case k1 => k_asm); (case k2 => k_asm); (case k3 => k_asm); (case k4 => k_asm); (case k5 => k_asm); (case kK => first | exact rfl | assumption); (case a1 => assumption); (case a2 => assumption); (case kd => ktr_room); (case ku => ktr_units)); intro t9 h9 tk9 F9 N9; (try dsimp only); (try k_fold)))
local macro_rules | `(tactic| walk_at "call ref") => `(tactic| (k_here; k_dflt (refine' Gives.use (law_right_gives _ _ _ _ _ _ _ _ _ _ _ _ ?a1 ?a2 ?a3 ?a4 ?a5 ?a6) ?k1 ?k2 ?k3 ?k4 ?k5 ?kK ?kd ?ku ?_; (case k1 => k_asm); (case k2 => k_asm); (case k3 => k_asm); (case k4 => k_asm); (case k5 => k_asm); (case kK => first | exact rfl | assumption); (case a1 => k_mem); (case a2 => with_reducible assumption); (case a3 => with_reducible assumption); (case a4 => with_reducible assumption); (case a5 => first | with_reducible exact at_lo _ | decide); (case a6 => first | with_reducible exact at_hi _ | decide); (case kd => ktr_room); (case ku => ktr_units)); intro t9 h9 tk9 F9 N9; (try dsimp only); (try k_fold)))
local macro_rules | `(tactic| walk_at "call ref") => `(tactic| (k_here; k_dflt (refine' Gives.drop (law_table_gives _ _ _ _) ?k1 ?k2 ?k3 ?k5 ?kK ?kd ?ku ?_; (case k1 => k_asm); (case k2 => k_asm); (case k3 => k_asm); (case k5 => k_asm); (case kK => first | exact rfl | assumption); (case kd => ktr_room); (case ku => ktr_units)); intro t9 h9 tk9 F9 N9; (try dsimp only); (try k_fold)))
local macro_rules | `(tactic| walk_at "eval Call") => `(tactic| (k_here; k_dflt (refine Call_ ?_)))
local macro_rules | `(tactic| walk_at "CompSrc") => `(tactic| (k_here; k_dflt (refine LCg.CompSrc.range (by rfl) (by k_asm) (by k_asm) (by assumption) (by first | decide | rfl) (by first | rfl | decide) (by first | size_fits | exact Nat.le_of_ble_eq_true rfl) ?_; intro g'; lcg_lit)))
theorem PySem.Challenge.cw_pc0119_01_holds : PySem.Challenge.rw_pc0119_01.Holds := by
  refine Mine.hd ?_
  w_top off
  k_go0
  (all_goals try k_fold)
  k_steps
