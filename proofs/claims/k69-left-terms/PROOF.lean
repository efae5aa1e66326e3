import PyProof.Rows.All
import Wide.All
import OpenK.AllK
import Wide.FinOn
import HandS.Base
import HandS.Call
import HandS.List
import HandS.Comp
import HandS.Words
import HandS.AnyAll
import KE.KDictIter
import HandS.IterVal
import HandS.ForMost
import HandS.IsInst
import HandS.Wide
import PyProof.Rows.RuleB_pow
import HandS.Style
import HandS.EndTab
import PySem.Challenge.RW_squaretimes_k69_whole_left_terms_and_odd
set_option Elab.async false
set_option linter.all false
set_option maxRecDepth 100000
set_option maxHeartbeats 4000000
/-! Mathematics for the law k69: Pascal's triangle modulo 2, two other ways to tell an odd binomial, filters over ranges. -/
namespace K69

/-- Pascal's triangle modulo 2 -/
def odd : Nat → Nat → Bool
  | _, 0 => true
  | 0, _ + 1 => false
  | n + 1, k + 1 => odd n k != odd n (k + 1)

theorem odd_zero (n : Nat) : odd n 0 = true := by cases n <;> rfl
theorem odd_step (n k : Nat) : odd (n + 1) (k + 1) = (odd n k != odd n (k + 1)) := rfl
theorem odd_gt : ∀ (n k : Nat), n < k → odd n k = false
  | 0, k + 1, _ => rfl
  | n + 1, k + 1, h => by rw [odd_step, odd_gt n k (by omega), odd_gt n (k + 1) (by omega)]; rfl
theorem odd_self : ∀ n : Nat, odd n n = true
  | 0 => rfl
  | n + 1 => by rw [odd_step, odd_self n, odd_gt n (n + 1) (by omega)]; rfl

theorem odd_halves (n : Nat) : ∀ k : Nat, odd (2 * n) (2 * k) = odd n k ∧ odd (2 * n) (2 * k + 1) = false ∧ odd (2 * n + 1) (2 * k) = odd n k ∧ odd (2 * n + 1) (2 * k + 1) = odd n k := by
  induction n with
  | zero =>
    intro k
    cases k with
    | zero => exact ⟨rfl, rfl, rfl, rfl⟩
    | succ k =>
      have a : ∀ j : Nat, odd 0 (j + 1) = false := fun _ => rfl
      have b : ∀ j : Nat, odd 1 (j + 2) = false := fun j => by rw [show j + 2 = (j + 1) + 1 from rfl, show (1 : Nat) = 0 + 1 from rfl, odd_step, a j, a (j + 1)]; rfl
      refine ⟨?_, ?_, ?_, ?_⟩
      · rw [show 2 * (k + 1) = (2 * k + 1) + 1 by omega, show 2 * 0 = 0 from rfl, a, a]
      · rw [show 2 * 0 = 0 from rfl, a]
      · rw [show 2 * (k + 1) = 2 * k + 2 by omega, show 2 * 0 + 1 = 1 from rfl, b, a]
      · rw [show 2 * (k + 1) + 1 = (2 * k + 1) + 2 by omega, show 2 * 0 + 1 = 1 from rfl, b, a]
  | succ n ih =>
    -- the row 2n + 2 from the row 2n + 1
    have e1 : ∀ k, odd (2 * (n + 1)) (2 * k) = odd (n + 1) k := fun k => by
      cases k with
      | zero => rw [show 2 * 0 = 0 from rfl, odd_zero, odd_zero]
      | succ k =>
        rw [show 2 * (n + 1) = (2 * n + 1) + 1 by omega, show 2 * (k + 1) = (2 * k + 1) + 1 by omega, odd_step, show 2 * k + 1 + 1 = 2 * (k + 1) by omega, (ih k).2.2.2, (ih (k + 1)).2.2.1, odd_step]
    have e2 : ∀ k, odd (2 * (n + 1)) (2 * k + 1) = false := fun k => by
      rw [show 2 * (n + 1) = (2 * n + 1) + 1 by omega, odd_step, (ih k).2.2.1, (ih k).2.2.2]
      cases odd n k <;> rfl
    intro k
    refine ⟨e1 k, e2 k, ?_, ?_⟩
    · cases k with
      | zero => rw [show 2 * 0 = 0 from rfl, odd_zero, odd_zero]
      | succ k =>
        rw [show 2 * (k + 1) = (2 * k + 1) + 1 by omega, odd_step, e2 k, show 2 * k + 1 + 1 = 2 * (k + 1) by omega, e1 (k + 1)]
        cases odd (n + 1) (k + 1) <;> rfl
    · rw [odd_step, e1 k, e2 k]
      cases odd (n + 1) k <;> rfl

/-- binary digits from below, as the law reads them -/
def digits : Nat → Nat → Bool
  | n, k =>
    if h : k = 0 then true
    else if k % 2 = 1 ∧ n % 2 = 0 then false
    else digits (n / 2) (k / 2)
  termination_by _ k => k
  decreasing_by omega
theorem digits_eq (n k : Nat) : digits n k = if k = 0 then true else if k % 2 = 1 ∧ n % 2 = 0 then false else digits (n / 2) (k / 2) := by
  rw [digits]
  split <;> rfl
theorem odd_rec (n k : Nat) : odd n k = if k % 2 = 1 ∧ n % 2 = 0 then false else odd (n / 2) (k / 2) := by
  have h := odd_halves (n / 2) (k / 2)
  by_cases hk : k % 2 = 1
  · by_cases hn : n % 2 = 0
    · rw [if_pos ⟨hk, hn⟩]
      have e := h.2.1
      rw [show 2 * (n / 2) = n by omega, show 2 * (k / 2) + 1 = k by omega] at e
      exact e
    · rw [if_neg (fun z => hn z.2)]
      have e := h.2.2.2
      rw [show 2 * (n / 2) + 1 = n by omega, show 2 * (k / 2) + 1 = k by omega] at e
      exact e
  · rw [if_neg (fun z => hk z.1)]
    by_cases hn : n % 2 = 0
    · have e := h.1
      rw [show 2 * (n / 2) = n by omega, show 2 * (k / 2) = k by omega] at e
      exact e
    · have e := h.2.2.1
      rw [show 2 * (n / 2) + 1 = n by omega, show 2 * (k / 2) = k by omega] at e
      exact e
theorem digits_odd : ∀ (k n : Nat), digits n k = odd n k := by
  intro k
  induction k using Nat.strongRecOn with
  | ind k ih =>
    intro n
    rw [digits_eq]
    by_cases h0 : k = 0
    · rw [if_pos h0, h0, odd_zero]
    · rw [if_neg h0, odd_rec n k, ih (k / 2) (by omega) (n / 2)]

/-- no carry -/
theorem and_odd : ∀ (k m : Nat), (k &&& m = 0) ↔ odd (k + m) k = true := by
  intro k
  induction k using Nat.strongRecOn with
  | ind k ih =>
    intro m
    by_cases h0 : k = 0
    · subst h0
      rw [odd_zero, Nat.zero_and]
      exact ⟨fun _ => rfl, fun _ => rfl⟩
    · have hh := ih (k / 2) (by omega) (m / 2)
      have e2 : (k &&& m) / 2 = (k / 2) &&& (m / 2) := by
        have := Nat.and_div_two_pow (a := k) (b := m) (n := 1)
        simpa using this
      have em : (k &&& m) % 2 = (k % 2) &&& (m % 2) := by
        have := Nat.and_mod_two_pow (a := k) (b := m) (n := 1)
        simpa using this
      have key : (k &&& m = 0) ↔ ((k % 2) &&& (m % 2) = 0 ∧ (k / 2) &&& (m / 2) = 0) := by
        rw [← e2, ← em]
        omega
      rw [key, hh, odd_rec (k + m) k]
      by_cases hk : k % 2 = 1
      · by_cases hm : m % 2 = 1
        · rw [hk, hm, if_pos ⟨rfl, by omega⟩]
          exact ⟨fun z => absurd z.1 (by decide), fun z => nomatch z⟩
        · have hm0 : m % 2 = 0 := by omega
          rw [hk, hm0, if_neg (fun z => by omega), show (k + m) / 2 = k / 2 + m / 2 by omega]
          exact ⟨fun z => z.2, fun z => ⟨by decide, z⟩⟩
      · have hk0 : k % 2 = 0 := by omega
        rw [hk0, if_neg (fun z => by omega), show (k + m) / 2 = k / 2 + m / 2 by omega]
        exact ⟨fun z => z.2, fun z => ⟨Nat.zero_and _, z⟩⟩

/-! ### rows -/
/-- the row n, modulo 2 -/
def bit (b : Bool) : Int := if b then 1 else 0
def row (n : Nat) : List Int := (List.range (n + 1)).map fun i => bit (odd n i)
theorem row_length (n : Nat) : (row n).length = n + 1 := by simp [row]
theorem row_get {n i : Nat} (h : i < n + 1) : (row n)[i]? = some (bit (odd n i)) := by simp [row, h]
theorem row_zero : row 0 = [1] := rfl
/-- the middle of the next row -/
def mids (xs : List Int) : List Int := List.zipWith (fun a b => (a + b) % 2) xs (xs.drop 1)
theorem bit_xor (a b : Bool) : (bit a + bit b) % 2 = bit (a != b) := by cases a <;> cases b <;> decide
theorem mids_length (n : Nat) : (mids (row n)).length = n := by simp [mids, row]
theorem mids_get {n i : Nat} (h : i < n) : (mids (row n))[i]? = some (bit (odd (n + 1) (i + 1))) := by
  unfold mids
  rw [List.getElem?_zipWith, row_get (by omega), List.getElem?_drop, Nat.add_comm 1 i, row_get (by omega)]
  show some ((bit (odd n i) + bit (odd n (i + 1))) % 2) = _
  rw [bit_xor, odd_step]
theorem row_succ (n : Nat) : row (n + 1) = [1] ++ mids (row n) ++ [1] := by
  refine List.ext_getElem? fun i => ?_
  by_cases h : i < n + 2
  · rw [row_get h]
    cases i with
    | zero => simp [odd_zero, bit]
    | succ i =>
      by_cases h2 : i < n
      · rw [List.getElem?_append_left (by simp [mids_length]; omega), List.getElem?_append_right (by simp)]
        simp [mids_get h2]
      · have e : i = n := by omega
        subst e
        rw [List.getElem?_append_right (by simp [mids_length])]
        simp [mids_length, odd_self, bit]
  · rw [List.getElem?_eq_none (by rw [row_length]; omega), List.getElem?_eq_none (by simp [mids_length]; omega)]

/-! ### whole numbers, ranges -/
/-- whether the number of ways to choose k of n things is odd -/
def oddI (n k : Int) : Bool := decide (0 ≤ k) && decide (k ≤ n) && odd n.toNat k.toNat
theorem oddI_iff {n k : Int} : oddI n k = true ↔ 0 ≤ k ∧ k ≤ n ∧ odd n.toNat k.toNat = true := by
  unfold oddI
  simp only [Bool.and_eq_true, decide_eq_true_eq, and_assoc]
theorem oddI_neg {n k : Int} (h : k < 0 ∨ n < k) : oddI n k = false := by
  rw [Bool.eq_false_iff]
  intro z
  have := oddI_iff.mp z
  omega
theorem oddI_of {n k : Int} (h0 : 0 ≤ k) (h1 : k ≤ n) : oddI n k = odd n.toNat k.toNat := by
  unfold oddI
  rw [decide_eq_true h0, decide_eq_true h1]; rfl

def rng (lo hi : Int) : List Int := (List.range (hi - lo).toNat).map fun (i : Nat) => lo + i
theorem rng_length (lo hi : Int) : (rng lo hi).length = (hi - lo).toNat := by simp [rng]
theorem rng_get {lo hi : Int} {i : Nat} (h : i < (hi - lo).toNat) : (rng lo hi)[i]? = some (lo + i) := by simp [rng, h]
theorem mem_rng {lo hi x : Int} : x ∈ rng lo hi ↔ lo ≤ x ∧ x < hi := by
  unfold rng
  rw [List.mem_map]
  constructor
  · rintro ⟨i, hi, rfl⟩
    have := List.mem_range.mp hi
    omega
  · rintro ⟨h1, h2⟩
    exact ⟨(x - lo).toNat, List.mem_range.mpr (by omega), by omega⟩
theorem rng_nil {lo hi : Int} (h : hi ≤ lo) : rng lo hi = [] := by
  unfold rng
  rw [show (hi - lo).toNat = 0 by omega]; rfl
theorem rng_append {lo mid hi : Int} (h1 : lo ≤ mid) (h2 : mid ≤ hi) : rng lo hi = rng lo mid ++ rng mid hi := by
  refine List.ext_getElem? fun i => ?_
  by_cases h : i < (hi - lo).toNat
  · rw [rng_get h]
    by_cases h3 : i < (mid - lo).toNat
    · rw [List.getElem?_append_left (by rw [rng_length]; exact h3), rng_get h3]
    · rw [List.getElem?_append_right (by rw [rng_length]; omega), rng_length, rng_get (by omega)]
      congr 1
      omega
  · rw [List.getElem?_eq_none (by rw [rng_length]; omega), List.getElem?_eq_none (by rw [List.length_append, rng_length, rng_length]; omega)]
theorem rng_snoc {lo : Int} {i : Nat} {hi : Int} (h : i < (hi - lo).toNat) : (rng lo hi).take (i + 1) = (rng lo hi).take i ++ [lo + i] := by
  rw [List.take_add_one, rng_get h]; rfl
theorem filter_none {p : Int → Bool} {l : List Int} (h : ∀ x ∈ l, p x = false) : l.filter p = [] := by
  rw [List.filter_eq_nil_iff]
  intro x hx
  rw [h x hx]; decide

/-! ### what the defs give -/
def least (r s n : Int) : Option Int := (rng (max 0 (n - r + 1)) (min s (n + 1))).find? (oddI n)
def odds (r s n : Int) : List Int := (rng (max 0 (n - r + 1)) s).filter (oddI n)
def lefts (r s n : Int) : List Int := (rng (max 0 (n - s + 1)) (min r (n + 1))).filter (oddI n)

theorem mem_odds {r s n v : Int} : v ∈ odds r s n ↔ n - r < v ∧ v < s ∧ oddI n v = true := by
  unfold odds
  rw [List.mem_filter, mem_rng]
  constructor
  · rintro ⟨⟨h1, h2⟩, h3⟩
    exact ⟨by omega, h2, h3⟩
  · rintro ⟨h1, h2, h3⟩
    have := oddI_iff.mp h3
    exact ⟨⟨by omega, h2⟩, h3⟩
theorem least_none {r s n : Int} : least r s n = none ↔ odds r s n = [] := by
  unfold least
  rw [List.find?_eq_none, List.eq_nil_iff_forall_not_mem]
  constructor
  · intro h x hx
    have h2 := mem_odds.mp hx
    have h3 := oddI_iff.mp h2.2.2
    exact h x (mem_rng.mpr (by omega)) h2.2.2
  · intro h x hx hp
    have h2 := mem_rng.mp hx
    exact h x (mem_odds.mpr ⟨by omega, by omega, hp⟩)
theorem least_some {r s n k : Int} (h : least r s n = some k) : k ∈ odds r s n := by
  unfold least at h
  have h1 := List.find?_some h
  have h2 := mem_rng.mp (List.mem_of_find?_eq_some h)
  exact mem_odds.mpr ⟨by omega, by omega, h1⟩
/-- what n lets, n + 1 lets -/
theorem least_mono {r s n : Int} (hr : 1 ≤ r) (hs : 1 ≤ s) (hn : 1 ≤ n) (h : least r s n = none) : least r s (n + 1) = none := by
  rw [least_none, List.eq_nil_iff_forall_not_mem] at h ⊢
  intro x hx
  obtain ⟨h1, h2, h3⟩ := mem_odds.mp hx
  obtain ⟨h4, h5, h6⟩ := oddI_iff.mp h3
  by_cases h0 : x = 0
  · refine h 0 (mem_odds.mpr ⟨by omega, by omega, oddI_iff.mpr ⟨by omega, by omega, odd_zero _⟩⟩)
  · have e1 : (n + 1).toNat = n.toNat + 1 := by omega
    have e2 : x.toNat = (x - 1).toNat + 1 := by omega
    rw [e1, e2, odd_step] at h6
    have a1 : odd n.toNat (x - 1).toNat = false := by
      rw [Bool.eq_false_iff]
      intro z
      exact h (x - 1) (mem_odds.mpr ⟨by omega, by omega, oddI_iff.mpr ⟨by omega, by omega, z⟩⟩)
    have a2 : odd n.toNat ((x - 1).toNat + 1) = false := by
      by_cases h7 : x ≤ n
      · rw [Bool.eq_false_iff]
        intro z
        rw [← e2] at z
        exact h x (mem_odds.mpr ⟨by omega, by omega, oddI_iff.mpr ⟨by omega, h7, z⟩⟩)
      · exact odd_gt _ _ (by omega)
    rw [a1, a2] at h6
    exact absurd h6 (by decide)
/-- the left terms by the row -/
theorem lefts_row {r s n : Int} : (rng 0 (min r (n + 1))).filter (fun i => oddI n i && decide (n - i < s)) = lefts r s n := by
  unfold lefts
  by_cases h : max 0 (n - s + 1) ≤ min r (n + 1)
  · rw [rng_append (lo := 0) (mid := max 0 (n - s + 1)) (by omega) h, List.filter_append, filter_none, List.nil_append]
    · refine List.filter_congr fun x hx => ?_
      have := mem_rng.mp hx
      rw [decide_eq_true (show n - x < s by omega), Bool.and_true]
    · intro x hx
      have := mem_rng.mp hx
      rw [decide_eq_false (show ¬ n - x < s by omega), Bool.and_false]
  · rw [rng_nil (lo := max 0 (n - s + 1)) (by omega), filter_none]
    · rfl
    · intro x hx
      have := mem_rng.mp hx
      rw [decide_eq_false (show ¬ n - x < s by omega), Bool.and_false]
theorem lefts_odds {r s n : Int} (hn : 1 ≤ n) : lefts r s n = odds s r n := by
  unfold lefts odds
  by_cases h : r ≤ n + 1
  · rw [show min r (n + 1) = r by omega]
  · have e : min r (n + 1) = n + 1 := by omega
    rw [e]
    by_cases h2 : max 0 (n - s + 1) ≤ n + 1
    · rw [rng_append (lo := max 0 (n - s + 1)) (mid := n + 1) (hi := r) h2 (by omega), List.filter_append, filter_none (l := rng (n + 1) r), List.append_nil]
      intro x hx
      have := mem_rng.mp hx
      exact oddI_neg (by omega)
    · rw [rng_nil (lo := max 0 (n - s + 1)) (hi := n + 1) (by omega), filter_none (l := rng (max 0 (n - s + 1)) r)]
      · rfl
      · intro x hx
        have := mem_rng.mp hx
        exact oddI_neg (by omega)
end K69
/-! is_odd called in a generator's frame: what it gives, all that stood is kept. -/
namespace K69
open PySem PySem.Spec PyProof.Rows L2
def topS (i : Nat) : Stmt := PySem.Challenge.pw_squaretimes_k69_whole_left_terms_and_odd.main.body.getD i (.Pass ⟨0, 0, 0, 0⟩)
abbrev sOdd : Stmt := topS 12
/-- what is_odd says -/
def pyOdd (n k : Int) : Bool := if 0 ≤ k then (if k ≤ n then Builtin.bitAnd k (n - k) == 0 else false) else false
theorem keeps_toks {s s' : Shared} {t : Nat} (h : Keeps s s') : Keeps s { s' with toks := t } := by
  obtain ⟨h', k, rfl, e⟩ := h
  exact ⟨h', t, rfl, e⟩
theorem sOdd_nc : ∀ x ∈ (defScope sOdd).names, x.2 ≠ NameKind.cell := by decide +kernel
theorem sOdd_n : (defScope sOdd).names.lookup ("n" : Str) = some NameKind.local := by decide +kernel
theorem sOdd_k : (defScope sOdd).names.lookup ("k" : Str) = some NameKind.local := by decide +kernel
theorem n_ne_k : (("n" : Str) == ("k" : Str)) = false := by decide +kernel
theorem nk_n {v u : Value} : ([(("n" : Str), v), (("k" : Str), u)] : List (Str × Value)).reverse.lookup ("n" : Str) = some v := by
  show List.lookup ("n" : Str) [(("k" : Str), u), (("n" : Str), v)] = some v
  rw [List.lookup_cons, n_ne_k, List.lookup_cons, beq_self_eq_true]
section
variable {K : PySem.W.Frag} {P : Program} {w : World} {A : Around} {E : Value → Shared → Prop} {s : Shared} {f : Addr} {oc : Value} {od an : Option Addr} {osl : Array (Option Value)} {kV doc pm cdv ct : Value} {n k : Int} {t u : Tok}
theorem odd_call (lk : K.lookup f = some ⟨oc, od, .func (PySem.W.fnOf "is_odd" "is_odd" (defArgs sOdd) (defBody sOdd) (defScope sOdd) .none kV doc pm an cdv ct), osl⟩)
    (hcd : PySem.W.codeIn K cdv "is_odd" = true) (KX : K.In s.heap) (lim : s.heap.NoLimit) (hd : A.depth < recursionLimit) :
    wpAny (model P w) A (call (.ref f) [.int n t, .int k u]) (fun y s' => y = .bool (pyOdd n k) ∧ Keeps s s') E s := by
  refine wpAny_call (codeAny_call_function hd (KX _ _ lk) rfl rfl rfl rfl (PySem.W.codeRec_of KX hcd) ?_)
  refine wpAny_of_eq (a := [(("n" : Str), Value.int n t), (("k" : Str), Value.int k u)]) rfl ?_
  refine wpAny_newFunctionEnv sOdd_nc (fun x hx => ?_) (fun h1 hn hs => ?_) rfl
  · rcases List.mem_cons.mp hx with rfl | hx
    · exact sOdd_n
    · rcases List.mem_cons.mp hx with rfl | hx
      · exact sOdd_k
      · cases hx
  have kp : ∀ b o, s.heap.get? b = some o → h1.get? b = some o := fun b o e => hs.extBut b o (Nat.ne_of_lt (Heap.lt_size e)) (Heap.get?_push_of_some _ e)
  refine ⟨lim.keeps kp, codeAny_func ?_⟩
  have k0 : ∀ tk, Keeps s { s with heap := h1, toks := tk } := fun tk => ⟨h1, tk, rfl, kp⟩
  refine wpAny_execs_cons (wpAny_Return_some (BoolOp_and ?_))
  refine Compare_chain (wpAny_Constant_int ?_) (by with_unfolding_all rfl)
  refine chain_link (wpAny_Name (wpAny_loadName_local rfl sOdd_k hn rfl ?_) (by decide))
  refine le_int (wpAny_truthy_bool ?_)
  by_cases h0 : 0 ≤ k
  · rw [decide_eq_true h0]
    refine ite_tt (chain_last (wpAny_Name (wpAny_loadName_local rfl sOdd_n hn nk_n ?_) (by decide)))
    refine le_int (wpAny_truthy_bool ?_)
    by_cases h1 : k ≤ n
    · rw [decide_eq_true h1]
      refine ite_tt (BoolOp_one (wpAny_Compare1 (wpAny_BinOp (wpAny_Name (wpAny_loadName_local rfl sOdd_k hn rfl ?_) (by decide)))))
      refine wpAny_BinOp (wpAny_Name (wpAny_loadName_local rfl sOdd_n hn nk_n (wpAny_Name (wpAny_loadName_local rfl sOdd_k hn rfl ?_) (by decide))) (by decide))
      refine PyProof.Rows.sub_int (PyProof.Rows.and_int (wpAny_Constant_int (PyProof.Rows.eq_int ?_)))
      refine ⟨?_, k0 _⟩
      unfold pyOdd
      rw [if_pos h0, if_pos h1]
    · rw [decide_eq_false h1]
      refine ite_ff ⟨?_, k0 _⟩
      unfold pyOdd
      rw [if_pos h0, if_neg h1]
  · rw [decide_eq_false h0]
    refine ite_ff ?_
    refine wpAny_truthy_bool (ite_ff ⟨?_, k0 _⟩)
    unfold pyOdd
    rw [if_neg h0]
end
end K69
/-! next((x for x in range(a, b) if test), None): own rules. -/
namespace K69
open PySem PySem.Spec PyProof.Rows L2
/-- next(g, None) over a generator that is ready -/
theorem next_none {prog : Program} {w : World} {A : Around} {E : Value → Shared → Prop} {s : Shared} {g : Addr} {fp wr : List Addr} {G : Array GenState → Array GenState → Prop} {n : Nat} {F : Nat → Value → Prop} {St : Nat → Shared → Prop} {Q : Value → Shared → Prop}
    (W : WalksS prog w A.in1 g fp wr G n F St) (hst : St 0 s) (hT : s.TypeIs (.ref g) "generator")
    (h1 : ∀ v s', 0 < n → F 0 v → Moved wr G s s' → Q v s') (h0 : ∀ s', n = 0 → Moved wr G s s' → Q .none s') :
    wpAny (model prog w) A (call (.builtin "next") [.ref g, .none]) Q E s := by
  refine Calls.call_function_entry (by decide +kernel) (by decide +kernel) PySem.W.kdk_entry_next (PySem.W.kdk_args_next2 _ _) ?_
  unfold Builtin.«next»
  refine wpAny_bind (m := someArgs "next" 1 2 _) (wpAny_of_eq (a := [Value.ref g, Value.none]) (by first | rfl | kernel_rfl!) ?_)
  dsimp only
  refine wpAny_bind (wpAny_specialOf (name := Str.ofString "__next__") hT slot_gen_next.lookup ?_)
  refine wpAny_ite_split (fun hab => absurd hab (by decide)) (fun _ => ?_)
  by_cases hn : 0 < n
  · refine wpAny_bind (W.item 0 s _ _ hn hst fun v s' hv _ hm => ?_)
    exact wpAny_pure ⟨_, rfl, h1 v s' hn hv hm⟩
  · have e : n = 0 := by omega
    subst e
    refine wpAny_bind (W.done s _ _ hst fun s' hm => ?_)
    exact wpAny_pure ⟨_, rfl, h0 s' rfl hm⟩
/-- what holds where the test runs: the frame, the base, one captured int -/
structure TestAt (X : Cx) (scope : Scope) (x y : Str) (n : Int) (cenv : Env) (A' : Around) (s : Shared) (i : Int) : Prop where
  mod : Mod X.K X.mg X.base
  scope : cenv.scope = scope
  globals : cenv.globals = mainGlobals
  hd : A'.handled = none
  dp : A'.depth ≤ X.A.depth + 1
  ns : ∃ m t, s.heap.Ns cenv.locals m ∧ m x = some (.int i t)
  base : ∀ b o, X.base.get? b = some o → s.heap.get? b = some o
  cell : ∃ c t, cenv.cells.lookup y = some c ∧ s.heap.IsCell c (some (.int n t))
/-- the test, for the captured int n: pb of the item -/
def TestR (X : Cx) (scope : Scope) (x y : Str) (n : Int) (cond : Expr) (pb : Int → Bool) : Prop :=
  ∀ (cenv : Env) (A' : Around) (E' : Value → Shared → Prop) (s : Shared) (i : Int), TestAt X scope x y n cenv A' s i →
    wpAny (model X.prog X.w) A' (isTrue cond cenv (eval cond cenv)) (fun ok s3 => ok = pb i ∧ Keeps s s3) E' s
/-- the generator over the range, ready -/
def ReadyR (X : Cx) (pins : List (Addr × Obj)) (σ : L2.St) (H1 : Hp) (P : Addr) (lo hi : Int) (pb : Int → Bool) (g : Addr) (s5 : Shared) : Prop :=
  ∃ (fp wr : List Addr) (G : Array GenState → Array GenState → Prop) (St : Nat → Shared → Prop),
    WalksS X.prog X.w X.A.in1 g fp wr G (passing (fun i => pb (lo + (i : Nat))) (hi - lo).toNat 0).length (fun j y => ∃ i, (passing (fun i => pb (lo + (i : Nat))) (hi - lo).toNat 0)[j]? = some i ∧ ∃ t, y = .int (lo + (i : Nat)) t) St ∧ St 0 s5 ∧
    s5.TypeIs (.ref g) "generator" ∧ ∀ s', Moved wr G s5 s' → ∃ H2, GxR.Tabbed P H1 H2 ∧ Inv X pins σ H2 s'
theorem ne_up {a n m : Nat} (ha : a < n) (e : m = n + 1) : m ≠ a := by omega
theorem lt_up {a n m : Nat} (ha : a < n) (e : n + 2 ≤ m) : a < m := by omega
theorem lt_up1 {n m k : Nat} (e : n + 2 ≤ m) (z : k = n + 1) : k < m := by omega
theorem irr {a b : Nat} (h : a < b) (z : a = b) : False := by omega
/-- two ends of a range, small -/
def Ends2 (lo hi : Int) : Prop := -(2 ^ 62) ≤ lo ∧ lo < 2 ^ 62 ∧ -(2 ^ 62) ≤ hi ∧ hi < 2 ^ 62
section
variable {X : Cx} {pins : List (Addr × Obj)} {σ : L2.St} {H : Hp} {s : Shared}
theorem gen_rng {c P : Addr} {a b cond : Expr} {x y : Str} {px pe gpos p pos : Pos} {scope : Scope} {pb : Int → Bool} {ta : TA} {k j : Nat} {n : Int} {Q' : Value → Shared → Prop} {R : Int → Int → Hp → Prop}
    (hr : Room k X.A) (TB : GxR.TabB X.base X.mg c P) (hcode : X.env.code = .ref c) (S : GxR.GenS X.env scope x) (hy : X.N[j]? = some y) (hyv : X.env.scope.names.lookup y = some .cell) (hyf : (y, NameKind.free) ∈ scope.names) (hyo : σ[j]? = some (some (.int n)))
    (hxd : (x == ("__debug__" : Str)) = false)
    (hg : Gl X "range") (hm : X.mg "range" = none) (ha : PA X [a, b] ta) (hs1 : starEach [a, b] X.env = [(false, eval a X.env), (false, eval b X.env)]) (hs2 : starEach [b] X.env = [(false, eval b X.env)])
    (ht : TestR X scope x y n cond pb)
    (hs : ∀ v, genFold (.Call (.Name "range" p) [a, b] [] pos) X.env v = pure v) (I : Inv X pins σ H s) (h : ta σ H fun vs H1 => ∃ lo hi, vs = [.int lo, .int hi] ∧ Ends2 lo hi ∧ GxR.TabG H1 P ∧ R lo hi H1)
    (hQ : ∀ lo hi H1 g s5, R lo hi H1 → ReadyR X pins σ H1 P lo hi pb g s5 → Q' (.ref g) s5) :
    wpAny (model X.prog X.w) X.A (eval (.GeneratorExp (.Name x pe) [⟨.Name x px, .Call (.Name "range" p) [a, b] [] pos, [cond], 0⟩] scope gpos) X.env) Q' X.xe s := by
  refine wpAny_GeneratorExp_walksQD hr.hd S.co (closure_ok S.free) S.cell S.dot S.loc S.kind (by have := hr.dp; omega) ?_ hs
  refine Call_ (ld_blt I hg hm boot_range (PyProof.Rows.callWith_type1 (thn (ha.run pos pins s σ H _ I h) fun us s1 ⟨vs, H1, I1, r1, q1⟩ => ?_) (by rw [hs1, hs2]) (by rw [hs2] <;> rfl)))
  obtain ⟨lo, hi, e, ⟨b1, b2, b3, b4⟩, ⟨ps, hP, htr⟩, q1⟩ := q1
  subst e
  obtain ⟨u1, u2, rfl, ⟨t, rfl⟩, ⟨t', rfl⟩⟩ := vals2 r1
  refine call_range_2 ?_
  refine wpAny_pyIter_range (IsRange.new ..) (small_one b1 b2 b3 b4) ?_
  generalize hro : ({ cls := .type "range", data := .fields #[.int lo t, .int hi t', .int 1 s1.toks] } : Obj) = ro
  generalize hio : ({ cls := .type "range_iterator", data := .fields #[rawInt lo, rawInt (Builtin.Range.rangeSize lo hi 1), rawInt 1] } : Obj) = io
  have keep2 : ∀ b o, s1.heap.get? b = some o → ((s1.heap.push ro).push io).get? b = some o := fun b o e => Heap.get?_push_of_some _ (Heap.get?_push_of_some _ e)
  have lim2 : ((s1.heap.push ro).push io).NoLimit := I1.nolimit.keeps keep2
  have hPs : s1.heap.get? P = some { cls := .none, data := .fields ps } := I1.hok P _ hP
  have hPlt : P < s1.heap.objs.size := Heap.lt_size hPs
  have hP2 := keep2 _ _ hPs
  have cd : PySem.W.CodeHd ((s1.heap.push ro).push io) c P := TB.code.keeps fun b u e => keep2 _ _ (I1.bk b u e)
  have szr : (s1.heap.push ro).objs.size = s1.heap.objs.size + 1 := Heap.size_push ..
  have sz2 : ((s1.heap.push ro).push io).objs.size = s1.heap.objs.size + 2 := by rw [Heap.size_push, szr]
  have hit : IsRangeIter ((s1.heap.push ro).push io) (s1.heap.push ro).objs.size (lo + ((0 : Nat) : Int) * 1) ((((hi - lo).toNat : Nat) : Int) - ((0 : Nat) : Int)) 1 := by
    have e1 : lo + ((0 : Nat) : Int) * 1 = lo := by simp
    have e2 : (((hi - lo).toNat : Nat) : Int) - ((0 : Nat) : Int) = Builtin.Range.rangeSize lo hi 1 := by rw [rangeSize_one]; split <;> omega
    rw [e1, e2, ← hio]
    exact Heap.get?_push_size _ rfl
  -- the captured int's cell
  obtain ⟨m1, hns1, hlook⟩ := id I1.loc
  obtain ⟨un, ⟨tn, rfl⟩, hl⟩ := hlook j y (.int n) hy hyo (.inr (.inl hyv))
  obtain ⟨cc, hcc, hcell⟩ : ∃ cc, X.env.cells.lookup y = some cc ∧ s1.heap.IsCell cc (some (.int n tn)) := by
    rcases hl with ⟨k1, _⟩ | ⟨_, cc, h1, h2⟩
    · have k2 : X.env.scope.names.lookup y = some .local := k1
      rw [hyv] at k2
      cases k2
    · exact ⟨cc, h1, h2⟩
  have hclo : (cloFrom X.env.cells scope.names []).lookup y = some cc := by
    obtain ⟨c1, h1⟩ := mem_lookup (cloFrom_has (cells := X.env.cells) (acc := []) hyf)
    rcases cloFrom_mem (PySem.mem_of_lookup h1) with hm | ⟨_, h2⟩
    · cases hm
    · rw [h1]
      have h2 : c1 = (X.env.cells.lookup y).getD 0 := h2
      rw [h2, hcc]
      rfl
  have hb2 : ∀ b o, X.base.get? b = some o → b ≠ P := fun b o e z => by
    have q := (I1.bs b o e).2
    rw [z, hP] at q
    cases q
  have cont : ∀ (code : Value) (h3 : Heap) (tk : Nat) (ps' : Array Value), Heap.ExtBut P ((s1.heap.push ro).push io) h3 → ((s1.heap.push ro).push io).objs.size ≤ h3.objs.size → h3.get? P = some { cls := .none, data := .fields ps' } → (∃ more, ps' = ps ++ more) → TriplesOk ps'.toList →
      wpAny (model X.prog X.w) X.A (builtinsFor X.env.globals X.env.builtins) (fun bi s4 =>
        ∃ Ia fp wr n0 Pf St0 pz F, Value.ref (s1.heap.push ro).objs.size = .ref Ia ∧ (∀ A' : Around, A'.handled = none → Walks X.prog X.w A' Ia fp wr n0 Pf St0) ∧ St0 0 s4.heap ∧ (∀ b ∈ fp, b < s4.heap.objs.size) ∧ s4.heap.NoLimit ∧ cStatics ∉ wr ∧
          (∀ href : Heap, (∀ b o, s4.heap.get? b = some o → href.get? b = some o) →
            QuietGenD X.prog X.w (genEnv scope (cloFrom X.env.cells scope.names []) s4.heap.objs.size code bi X.env) x [cond] (.Name x pe) (List.range s4.heap.objs.size) wr Pf pz F href (X.A.depth + 1) (X.A.units + 8)) ∧
          (∀ a h5 tk gs, gs.bare = true → s4.heap.objs.size < a → h5.objs.size = a + 1 → (∀ b o, s4.heap.get? b = some o → h5.get? b = some o) →
            WalksS X.prog X.w X.A.in4 a (a :: s4.heap.objs.size :: List.range s4.heap.objs.size) (s4.heap.objs.size :: wr) (GenOnlyQ s4.gens.size) (passing pz n0 0).length
              (fun j y => ∃ i, (passing pz n0 0)[j]? = some i ∧ F i y) (GenAt X.prog X.w X.A.in4 a s4.gens.size s4.heap.objs.size (List.range s4.heap.objs.size) wr pz n0 F) →
            GenAt X.prog X.w X.A.in4 a s4.gens.size s4.heap.objs.size (List.range s4.heap.objs.size) wr pz n0 F 0 { s4 with gens := s4.gens.push gs, toks := tk, heap := h5 } →
            Q' (.ref a) { s4 with gens := s4.gens.push gs, toks := tk, heap := h5 })) X.xe { s1 with heap := h3, toks := tk } := by
    intro code h3 tk ps' hx hsz hP3 hmore ht3
    obtain ⟨bm, ob, e1, e2, e3, e4, e5, e6, e7, e8⟩ := TB.bm
    have hcP : cStatics ≠ P := fun e => by
      obtain ⟨_, hns, _⟩ := I1.nolimit
      obtain ⟨o', es, ep, ho, hd, _⟩ := hns
      rw [e, hPs] at ho
      cases ho
      cases hd
    have hcl : cStatics < s1.heap.objs.size := let ⟨_, hns, _⟩ := I1.nolimit; hns.lt
    have keep3 : ∀ b u, b ≠ P → s1.heap.get? b = some u → h3.get? b = some u := fun b u hb e => hx b u hb (keep2 _ _ e)
    have hsz3 : s1.heap.objs.size + 2 ≤ h3.objs.size := by rw [← sz2]; exact hsz
    have itP : (s1.heap.push ro).objs.size ≠ P := ne_up hPlt szr
    refine wpAny_builtinsFor (m := X.mg) (by rw [I1.ok.glob]; exact (I1.mod.glob.keeps fun b u e => keep2 _ _ (I1.bk b u e)).extBut hx TB.gP) e1 e2 (keep3 _ _ e4 (I1.bk _ _ e5)) e6 e7 e8 ?_
    refine ⟨(s1.heap.push ro).objs.size, [(s1.heap.push ro).objs.size], [(s1.heap.push ro).objs.size], (hi - lo).toNat, _, _, (fun i => pb (lo + (i : Nat))), (fun i y => ∃ t, y = .int (lo + (i : Nat)) t), rfl,
      (fun A' hA => Walks.range hA _ lo 1 _), hx _ _ itP hit, ?_, lim2.extBut hx hcP, ?_, ?_, ?_⟩
    · intro b hb
      rcases List.mem_cons.mp hb with z | z
      · rw [z]
        exact lt_up1 hsz3 szr
      · cases z
    · intro z
      rcases List.mem_cons.mp z with z | z
      · exact ne_up hcl szr z.symm
      · cases z
    · intro href hhref
      have inB : ∀ (s2 : Shared), (∀ b ∈ List.range h3.objs.size, b ∉ [(s1.heap.push ro).objs.size] → ∀ o, href.get? b = some o → s2.heap.get? b = some o) → ∀ b o, b ≠ P → s1.heap.get? b = some o → s2.heap.get? b = some o := fun s2 hk b o hb e => by
        have hlt := Heap.lt_size e
        refine hk b (List.mem_range.mpr (lt_up hlt hsz3)) (fun z => ?_) o (hhref b o (keep3 b o hb e))
        rcases List.mem_cons.mp z with z | z
        · exact ne_up hlt szr z.symm
        · cases z
      refine ⟨fun A' E' i v s2 m2 hA hD hU hPv hn hmx hk => ?_, fun A' E' i v s2 m2 hA hD hU hPv hp hn hmx hk => ?_⟩
      · obtain ⟨tv, ev⟩ := hPv
        rw [Int.mul_one] at ev
        refine wpAny_tests_one (ht _ A' E' s2 (lo + (i : Nat)) ⟨I1.mod, rfl, I1.ok.glob, hA, hD, ⟨m2, tv, hn, by rw [hmx, ev]⟩, fun b o e => inB s2 hk b o (hb2 b o e) (I1.bk b o e), ⟨cc, tn, hclo, ?_⟩⟩)
        obtain ⟨oc, ho, hd⟩ := hcell
        refine ⟨oc, inB s2 hk cc oc (fun z => ?_) ho, hd⟩
        rw [z, hPs] at ho
        cases ho
        cases hd
      · obtain ⟨tv, ev⟩ := hPv
        rw [Int.mul_one] at ev
        exact wpAny_Name (wpAny_loadName_local S.kind S.loc hn hmx ⟨⟨tv, ev⟩, GxR.keeps_refl _⟩) hxd
    · intro g h5 tk5 gs hgb hag hsz5 hk5 W5 hgat
      refine hQ lo hi H1 g _ q1 ⟨_, _, _, _, W5.in4_1, hgat, hgat.1.typeIs, fun s' hmv => ?_⟩
      obtain ⟨more, em⟩ := hmore
      have nwr : ∀ b u, s1.heap.get? b = some u → b ∉ h3.objs.size :: [(s1.heap.push ro).objs.size] := fun b u e hb => by
        have hlt := Heap.lt_size e
        rcases List.mem_cons.mp hb with z | z
        · exact irr (lt_up hlt hsz3) z
        · rcases List.mem_cons.mp z with z | z
          · exact ne_up hlt szr z.symm
          · cases z
      have J := GxR.inv_tab (more := more) (h' := s'.heap) (g' := s'.gens) (d' := s'.drawn) (t' := s'.toks) I1 hP (fun b u hb e => hmv.heap b u (nwr b u e) (hk5 b u (keep3 b u hb e)))
        (by rw [← em]; exact hmv.heap P _ (nwr P _ hPs) (hk5 P _ hP3)) (AllBare.movedS (I1.bare.push hgb) hmv)
      rw [GxR.sh_eta s1 s' hmv.os] at J
      exact ⟨upd H1 P (.tbl (ps ++ more)), ⟨⟨ps ++ more, upd_same, by rw [← em]; exact ht3⟩, fun b hb => upd_ne hb⟩, J⟩
  refine ⟨lim2, ?_⟩
  cases hf : codeAmong gpos ps.toList with
  | none =>
    refine wpAny_genexprCodeX hcode (cd.code hP2 htr) (cd.tab hP2) hf fun c' h' tk hx hge hlt hco' _ htab' _ => ?_
    obtain ⟨o1, vs, f1, tf, fl, tg, inF, tx, tt, op, _, _, _, _, _, _, _, _, _, htr', _⟩ := hco'
    exact cont _ h' tk _ hx (Nat.le_trans hge (Nat.le_of_lt hlt)) htab'.2 ⟨_, rfl⟩ htr'
  | some cv =>
    refine wpAny_genexprCode_hit hcode (cd.code hP2 htr) hf ?_
    exact cont cv ((s1.heap.push ro).push io) (s1.toks + 1) ps (Heap.ExtBut.refl _ _) (Nat.le_refl _) hP2 ⟨#[], by simp⟩ htr
end
end K69
namespace K69
open PySem PySem.Spec PyProof.Rows L2
/-- None or an int -/
def optV : Option Int → V
  | none => .non
  | some k => .int k
theorem pass_find (lo hi : Int) (pb : Int → Bool) : (rng lo hi).find? pb = ((passing (fun i => pb (lo + (i : Nat))) (hi - lo).toNat 0)[0]?).map fun (i : Nat) => lo + (i : Int) := by
  unfold rng passing
  rw [List.find?_map, List.drop_zero, ← List.head?_eq_getElem?, List.head?_filter]
  rfl
/-- next((x for x in range(a, b) if test), None) -/
def tNextR (P : Addr) (j : Nat) (pb : Int → Int → Bool) (ta : TA) : TE := fun σ H Q => ∃ n, σ[j]? = some (some (.int n)) ∧ ta σ H fun vs H1 => ∃ lo hi, vs = [.int lo, .int hi] ∧ Ends2 lo hi ∧ GxR.TabG H1 P ∧
  ∀ H2, GxR.Tabbed P H1 H2 → Q (optV ((rng lo hi).find? (pb n))) H2
section
variable {X : Cx}
theorem pe_nextR {c P : Addr} {a b cond : Expr} {x y : Str} {px pe gpos p pos pn npos cpos : Pos} {jc : Nat} {scope : Scope} {pb : Int → Int → Bool} {ta : TA} {k j : Nat}
    (hr : Room k X.A) (TB : GxR.TabB X.base X.mg c P) (hcode : X.env.code = .ref c) (S : GxR.GenS X.env scope x) (hy : X.N[j]? = some y) (hyv : X.env.scope.names.lookup y = some .cell) (hyf : (y, NameKind.free) ∈ scope.names)
    (hgn : Gl X "next") (hmn : X.mg "next" = none) (hg : Gl X "range") (hm : X.mg "range" = none) (ha : PA X [a, b] ta)
    (ht : ∀ n, TestR X scope x y n cond (pb n))
    (hs : ∀ v, genFold (.Call (.Name "range" p) [a, b] [] pos) X.env v = pure v := by intro _; rfl)
    (hs1 : starEach [a, b] X.env = [(false, eval a X.env), (false, eval b X.env)] := by rfl) (hs2 : starEach [b] X.env = [(false, eval b X.env)] := by rfl) (hxd : (x == ("__debug__" : Str)) = false := by decide)
    (he : starEach [.GeneratorExp (.Name x pe) [⟨.Name x px, .Call (.Name "range" p) [a, b] [] pos, [cond], 0⟩] scope gpos, .Constant .none jc cpos] X.env
      = (false, eval (.GeneratorExp (.Name x pe) [⟨.Name x px, .Call (.Name "range" p) [a, b] [] pos, [cond], 0⟩] scope gpos) X.env) :: starEach [.Constant .none jc cpos] X.env := by rfl)
    (he2 : starEach [.Constant .none jc cpos] X.env = (false, eval (.Constant .none jc cpos) X.env) :: starEach [] X.env := by rfl) :
    PE X (.Call (.Name "next" pn) [.GeneratorExp (.Name x pe) [⟨.Name x px, .Call (.Name "range" p) [a, b] [] pos, [cond], 0⟩] scope gpos, .Constant .none jc cpos] [] npos) (tNextR P j pb ta) := by
  refine ⟨fun pins s σ H Q I h => ?_⟩
  obtain ⟨n, hn, h⟩ := h
  refine wpAny_Call_Name_kw (ld_blt (u := .builtin "next") I hgn hmn (by decide +kernel) ?_)
  refine PyProof.Rows.callWith_builtin1 ?_ he (by rw [he2]; rfl)
  rw [he, he2]
  show wpAny _ _ (spliced ((false, eval (.GeneratorExp (.Name x pe) [⟨.Name x px, .Call (.Name "range" p) [a, b] [] pos, [cond], 0⟩] scope gpos) X.env) :: backTo npos ((false, eval (.Constant .none jc cpos) X.env) :: starEach [] X.env))) _ _ s
  refine Calls.spliced_cons (gen_rng (R := fun lo hi H1 => ∀ H2, GxR.Tabbed P H1 H2 → Q (optV ((rng lo hi).find? (pb n))) H2) hr TB hcode S hy hyv hyf hn hxd hg hm ha hs1 hs2 (ht n) hs I h fun lo hi H1 g s5 hR hG => ?_)
  obtain ⟨fp, wr, G, St, W, hst, hT, hI⟩ := hG
  show wpAny _ _ (spliced ((false, eval (.Constant .none jc cpos) X.env) :: backTo npos (starEach [] X.env))) _ _ s5
  refine Calls.spliced_cons (Constant_none (Calls.spliced_nil ?_))
  have key := pass_find lo hi (pb n)
  refine next_none W hst hT (fun v s' hlt hv hmv => ?_) (fun s' hz hmv => ?_)
  · obtain ⟨H2, hTb, J⟩ := hI s' hmv
    obtain ⟨i, hi0, t, ev⟩ := hv
    rw [hi0] at key
    refine ⟨.int (lo + (i : Nat)), H2, J, ⟨t, ev⟩, ?_⟩
    have q := hR H2 hTb
    rw [key] at q
    exact q
  · obtain ⟨H2, hTb, J⟩ := hI s' hmv
    rw [List.getElem?_eq_none (by omega)] at key
    refine ⟨.non, H2, J, rfl, ?_⟩
    have q := hR H2 hTb
    rw [key] at q
    exact q
end
end K69
/-! The package's small defs: is_whole, is_integer, require_within, require_sizes, require_three, is_odd. -/
namespace K69
open PySem PySem.Spec PyProof.Rows L2
/-! ### the text -/
abbrev sWhole : Stmt := topS 4
abbrev sInteger : Stmt := topS 5
abbrev sWithin : Stmt := topS 9
abbrev sSizes : Stmt := topS 10
abbrev sThree : Stmt := topS 11
theorem scWhole : FnScope ["value"] ["value"] (defScope sWhole) := ⟨rfl, rfl, rfl, by decide +kernel, rfl, by decide +kernel, by decide +kernel⟩
theorem scInteger : FnScope ["value"] ["value"] (defScope sInteger) := ⟨rfl, rfl, rfl, by decide +kernel, rfl, by decide +kernel, by decide +kernel⟩
theorem scWithin : FnScope ["value", "most"] ["value", "most"] (defScope sWithin) := ⟨rfl, rfl, rfl, by decide +kernel, rfl, by decide +kernel, by decide +kernel⟩
theorem scSizes : FnScope ["r", "s"] ["r", "s"] (defScope sSizes) := ⟨rfl, rfl, rfl, by decide +kernel, rfl, by decide +kernel, by decide +kernel⟩
theorem scThree : FnScope ["r", "s", "n"] ["r", "s", "n"] (defScope sThree) := ⟨rfl, rfl, rfl, by decide +kernel, rfl, by decide +kernel, by decide +kernel⟩
theorem scOdd : FnScope ["n", "k"] ["n", "k"] (defScope sOdd) := ⟨rfl, rfl, rfl, by decide +kernel, rfl, by decide +kernel, by decide +kernel⟩
/-! ### small words -/
theorem blT {p : Prop} [Decidable p] (h : p) : V.bl (decide p) = .bl true := congrArg V.bl (decide_eq_true h)
theorem blF {p : Prop} [Decidable p] (h : ¬ p) : V.bl (decide p) = .bl false := congrArg V.bl (decide_eq_false h)
theorem qT {p : Prop} [Decidable p] {Q : VK} {H : Hp} (h : p) (q : Q (.bl true) H) : Q (.bl (decide p)) H := by rw [decide_eq_true h]; exact q
theorem qF {p : Prop} [Decidable p] {Q : VK} {H : Hp} (h : ¬ p) (q : Q (.bl false) H) : Q (.bl (decide p)) H := by rw [decide_eq_false h]; exact q
theorem qB {b c : Bool} {Q : VK} {H : Hp} (e : b = c) (q : Q (.bl c) H) : Q (.bl b) H := by rw [e]; exact q
theorem qV {a b : V} {Q : VK} {H : Hp} (e : a = b) (q : Q b H) : Q a H := by rw [e]; exact q
/-! ### the module's names -/
structure Txt (mg : Str → Option Value) : Prop where
  isinstance : mg "isinstance" = none
  int : mg "int" = none
  bool : mg "bool" = none
  next : mg "next" = none
  range : mg "range" = none
  max : mg "max" = none
  min : mg "min" = none
  len : mg "len" = none
  abs : mg "abs" = none
  tuple : mg "tuple" = none
  list : mg "list" = none
  zip : mg "zip" = none
  beyond : ∃ t, mg "BEYOND" = some (.int 1000000000000000000000000000000000000000000000000000000000000 t)
  size : ∃ t, mg "MAX_SIZE" = some (.int 1000 t)
  number : ∃ t, mg "MAX_NUMBER" = some (.int 2000 t)
abbrev big : Int := 1000000000000000000000000000000000000000000000000000000000000
theorem big_gt : (2000 : Int) < big := by decide
theorem boot_isinstance : bootBuiltins "isinstance" = some (.builtin "isinstance") := by decide +kernel
theorem boot_tint : bootBuiltins "int" = some (.type "int") := by decide +kernel
theorem boot_tbool : bootBuiltins "bool" = some (.type "bool") := by decide +kernel
section
variable {P : Program} {w : World} {K : PySem.W.Frag} {mg : Str → Option Value} {base : Heap}
/-! ### promises -/
def spWhole : Sp := fun vs H Q _ => ∃ n : Int, vs = [.int n] ∧ Q (.bl true) H
def spInteger : Sp := fun vs H Q _ => ∃ n : Int, vs = [.int n] ∧ -big < n ∧ n < big ∧ Q (.bl true) H
def spWithin : Sp := fun vs H Q _ => ∃ n m : Int, vs = [.int n, .int m] ∧ 1 ≤ n ∧ n ≤ m ∧ m ≤ 2000 ∧ Q .non H
def spSizes : Sp := fun vs H Q _ => ∃ r s : Int, vs = [.int r, .int s] ∧ 1 ≤ r ∧ r ≤ 1000 ∧ 1 ≤ s ∧ s ≤ 1000 ∧ Q .non H
def spThree : Sp := fun vs H Q _ => ∃ r s n : Int, vs = [.int r, .int s, .int n] ∧ 1 ≤ r ∧ r ≤ 1000 ∧ 1 ≤ s ∧ s ≤ 1000 ∧ 1 ≤ n ∧ n ≤ 2000 ∧ Q .non H
def spOdd : Sp := fun vs H Q _ => ∃ n k : Int, vs = [.int n, .int k] ∧ Q (.bl (pyOdd n k)) H
theorem ok_whole {f : Addr} {fd : FuncData} {k : Nat} (F : Fun K "is_whole" "is_whole" sWhole f fd) (T : Txt mg) : FnOk P w K mg base CX0 (k + 1) f fd ["value"] spWhole := by
  refine F.ok scWhole (fun vs H Q E h => ?_) (fun cdv A outer s H vs Q E hr h => ?_)
  · obtain ⟨n, rfl, _⟩ := h
    rfl
  · obtain ⟨n, rfl, q⟩ := h
    refine ⟨_, pss_one (ps_ret (pe_and (pe_callB call_isi (by rfl) T.isinstance boot_isinstance (pa_cons (pv 0) (pa_cons (pe_bltn (v := .ty "int") (by rfl) T.int boot_tint rfl) pa_nil)))
      (pe_one (pe_not (pe_callB call_isi (by rfl) T.isinstance boot_isinstance (pa_cons (pv 0) (pa_cons (pe_bltn (v := .ty "bool") (by rfl) T.bool boot_tbool rfl) pa_nil))))))), ?_⟩
    refine ⟨_, rfl, _, _, _, _, true, rfl, .ty "int", .base (.int n), kit_ty (by decide +kernel), true, rfl, ?_⟩
    exact iteT ⟨_, rfl, _, _, _, _, false, rfl, .ty "bool", .base (.int n), kit_ty (by decide +kernel), false, rfl, q⟩
theorem ok_integer {f fW : Addr} {fd fdW : FuncData} {k : Nat} (F : Fun K "is_integer" "is_integer" sInteger f fd) (T : Txt mg) (FW : Fun K "is_whole" "is_whole" sWhole fW fdW) (bW : Binds K fdW ["value"] []) (gW : mg "is_whole" = some (.ref fW)) :
    FnOk P w K mg base CX0 (k + 2) f fd ["value"] spInteger := by
  have GW : FnOk P w K mg base CX0 (k + 1) fW fdW ["value"] spWhole := ok_whole FW T
  obtain ⟨tb, hb⟩ := T.beyond
  refine F.ok scInteger (fun vs H Q E h => ?_) (fun cdv A outer s H vs Q E hr h => ?_)
  · obtain ⟨n, rfl, _⟩ := h
    rfl
  · obtain ⟨n, rfl, h1, h2, q⟩ := h
    refine ⟨_, pss_one (ps_ret (pe_and (pe_call GW hr (by rfl) gW FW.kp bW .nil pass0 (pa_cons (pv 0) pa_nil))
      (pe_one (pe_chain op_lt op_lt (pe_un un_neg (pe_glob (v := .int big) (by rfl) hb ⟨tb, rfl⟩)) (pv 0) (pe_glob (v := .int big) (by rfl) hb ⟨tb, rfl⟩))))), ?_⟩
    refine ⟨_, rfl, n, rfl, true, rfl, iteT ?_⟩
    refine ⟨_, rfl, _, rfl, _, _, rfl, rfl, true, ?_, iteT ⟨_, _, rfl, rfl, ?_⟩⟩
    · exact blT h1
    · exact qT (Q := Q) h2 q
theorem ok_within {f fI : Addr} {fd fdI : FuncData} {k : Nat} (F : Fun K "require_within" "require_within" sWithin f fd) (GI : FnOk P w K mg base CX0 (k + 2) fI fdI ["value"] spInteger) (kI : PySem.W.keepIn K (.ref fI) = true) (bI : Binds K fdI ["value"] []) (gI : mg "is_integer" = some (.ref fI)) :
    FnOk P w K mg base CX0 (k + 3) f fd ["value", "most"] spWithin := by
  refine F.ok scWithin (fun vs H Q E h => ?_) (fun cdv A outer s H vs Q E hr h => ?_)
  · obtain ⟨n, m, rfl, _⟩ := h
    rfl
  · obtain ⟨n, m, rfl, h1, h2, h3, q⟩ := h
    refine ⟨_, pss_one (ps_if (PW.pt (pw_or (pt_not (pt_val (pe_call GI hr (by rfl) gI kI bI .nil pass0 (pa_cons (pv 0) pa_nil)))) (pw_or1 (pt_not (pt_chain op_le op_le pe_int (pv 0) (pv 1))))))
      (pss_one ps_never) pss_nil), ?_⟩
    have z := big_gt
    refine ⟨_, rfl, n, rfl, (by omega), (by omega), true, rfl, iteF ?_⟩
    refine ⟨_, rfl, _, _, rfl, rfl, true, blT h1, iteT ⟨_, rfl, _, _, rfl, rfl, true, blT h2, iteF q⟩⟩
theorem ok_sizes {f fW : Addr} {fd fdW : FuncData} {k : Nat} (F : Fun K "require_sizes" "require_sizes" sSizes f fd) (T : Txt mg) (GW : FnOk P w K mg base CX0 (k + 3) fW fdW ["value", "most"] spWithin) (kW : PySem.W.keepIn K (.ref fW) = true) (bW : Binds K fdW ["value", "most"] []) (gW : mg "require_within" = some (.ref fW)) :
    FnOk P w K mg base CX0 (k + 4) f fd ["r", "s"] spSizes := by
  obtain ⟨ts, hs⟩ := T.size
  refine F.ok scSizes (fun vs H Q E h => ?_) (fun cdv A outer s H vs Q E hr h => ?_)
  · obtain ⟨r, z, rfl, _⟩ := h
    rfl
  · obtain ⟨r, z, rfl, h1, h2, h3, h4, q⟩ := h
    refine ⟨_, pss_cons (ps_expr (pe_call GW hr (by rfl) gW kW bW .nil pass0 (pa_cons (pv 0) (pa_cons (pe_glob (v := .int 1000) (by rfl) hs ⟨ts, rfl⟩) pa_nil))))
      (pss_one (ps_expr (pe_call GW hr (by rfl) gW kW bW .nil pass0 (pa_cons (pv 1) (pa_cons (pe_glob (v := .int 1000) (by rfl) hs ⟨ts, rfl⟩) pa_nil))))), ?_⟩
    exact ⟨_, rfl, r, 1000, rfl, h1, h2, by omega, _, rfl, z, 1000, rfl, h3, h4, by omega, q⟩
theorem ok_three {f fS fW : Addr} {fd fdS fdW : FuncData} {k : Nat} (F : Fun K "require_three" "require_three" sThree f fd) (T : Txt mg) (GS : FnOk P w K mg base CX0 (k + 4) fS fdS ["r", "s"] spSizes) (kS : PySem.W.keepIn K (.ref fS) = true) (bS : Binds K fdS ["r", "s"] []) (gS : mg "require_sizes" = some (.ref fS))
    (GW : FnOk P w K mg base CX0 (k + 3) fW fdW ["value", "most"] spWithin) (kW : PySem.W.keepIn K (.ref fW) = true) (bW : Binds K fdW ["value", "most"] []) (gW : mg "require_within" = some (.ref fW)) :
    FnOk P w K mg base CX0 (k + 5) f fd ["r", "s", "n"] spThree := by
  obtain ⟨ts, hs⟩ := T.number
  refine F.ok scThree (fun vs H Q E h => ?_) (fun cdv A outer s H vs Q E hr h => ?_)
  · obtain ⟨r, z, n, rfl, _⟩ := h
    rfl
  · obtain ⟨r, z, n, rfl, h1, h2, h3, h4, h5, h6, q⟩ := h
    have hr3 : Room (k + 3) _ := hr.mono (by omega)
    refine ⟨_, pss_cons (ps_expr (pe_call GS hr (by rfl) gS kS bS .nil pass0 (pa_cons (pv 0) (pa_cons (pv 1) pa_nil))))
      (pss_one (ps_expr (pe_call GW hr3 (by rfl) gW kW bW .nil pass0 (pa_cons (pv 2) (pa_cons (pe_glob (v := .int 2000) (by rfl) hs ⟨ts, rfl⟩) pa_nil))))), ?_⟩
    exact ⟨_, rfl, _, rfl, r, z, rfl, h1, h2, h3, h4, _, rfl, n, 2000, rfl, h5, h6, by omega, q⟩
/-- is_odd, for the defs that call it -/
theorem ok_odd {f : Addr} {fd : FuncData} {k : Nat} (F : Fun K "is_odd" "is_odd" sOdd f fd) : FnOk P w K mg base CX0 (k + 1) f fd ["n", "k"] spOdd := by
  refine F.ok scOdd (fun vs H Q E h => ?_) (fun cdv A outer s H vs Q E hr h => ?_)
  · obtain ⟨n, m, rfl, _⟩ := h
    rfl
  · obtain ⟨n, m, rfl, q⟩ := h
    refine ⟨_, pss_one (ps_ret (pe_and (pe_chain op_le op_le pe_int (pv 1) (pv 0)) (pe_one (pe_cmpR op_eq (pe_op op_and (pv 1) (pe_op op_sub (pv 0) (pv 1))) pe_int (nomark _))))), ?_⟩
    unfold pyOdd at q
    refine ⟨_, rfl, _, _, rfl, rfl, _, rfl, ?_⟩
    refine ite2 (fun h0 => ⟨_, rfl, _, _, rfl, rfl, _, rfl, ?_⟩) (fun h0 => ⟨false, rfl, iteF ?_⟩)
    · have h0 := of_decide_eq_true h0
      rw [if_pos h0] at q
      refine ite2 (fun h1 => ⟨_, rfl, _, rfl, _, rfl, _, _, rfl, rfl, _, _, rfl, rfl, rfl, ?_⟩) (fun h1 => ?_)
      · have h1 := of_decide_eq_true h1
        rw [if_pos h1] at q
        exact qB dec_int q
      · rw [if_neg (fun z => h1 (decide_eq_true z))] at q
        exact q
    · rw [if_neg (fun z => h0 (decide_eq_true z))] at q
      exact q
end
end K69
/-! odd_index, is_let, odd_binomial, is_odd_binomial. -/
namespace K69
open PySem PySem.Spec PyProof.Rows L2
abbrev sIndex : Stmt := topS 13
abbrev sLet : Stmt := topS 14
abbrev sBinom : Stmt := topS 15
abbrev sIsBinom : Stmt := topS 16
theorem scIndex : FnScope ["r", "s", "n"] ["r", "s", "n"] (defScope sIndex) := ⟨rfl, rfl, rfl, by decide +kernel, rfl, by decide +kernel, by decide +kernel⟩
theorem scLet : FnScope ["r", "s", "n"] ["r", "s", "n"] (defScope sLet) := ⟨rfl, rfl, rfl, by decide +kernel, rfl, by decide +kernel, by decide +kernel⟩
theorem scBinom : FnScope ["r", "s", "n"] ["r", "s", "n"] (defScope sBinom) := ⟨rfl, rfl, rfl, by decide +kernel, rfl, by decide +kernel, by decide +kernel⟩
theorem scIsBinom : FnScope ["r", "s", "n", "value"] ["r", "s", "n", "value"] (defScope sIsBinom) := ⟨rfl, rfl, rfl, by decide +kernel, rfl, by decide +kernel, by decide +kernel⟩
theorem pyOdd_eq (n k : Int) : pyOdd n k = oddI n k := by
  unfold pyOdd
  by_cases h0 : 0 ≤ k
  · by_cases h1 : k ≤ n
    · rw [if_pos h0, if_pos h1, oddI_of h0 h1]
      have e : Builtin.bitAnd k (n - k) = ((k.toNat &&& (n - k).toNat : Nat) : Int) := by
        unfold Builtin.bitAnd
        rw [decide_eq_true h0, decide_eq_true (show 0 ≤ n - k by omega)]
      rw [e]
      have a := and_odd k.toNat (n - k).toNat
      rw [show k.toNat + (n - k).toNat = n.toNat by omega] at a
      rw [Bool.eq_iff_iff, beq_iff_eq]
      constructor
      · intro z
        exact a.mp (by omega)
      · intro z
        have := a.mpr z
        omega
    · rw [if_pos h0, if_neg h1, oddI_neg (by omega)]
  · rw [if_neg h0, oddI_neg (by omega)]
/-! ### the generator's scope -/
def genScope (st : Stmt) : Scope := match defBody st with
  | [.Return (some (.Call _ [.GeneratorExp _ _ sc _, _] _ _)) _] => sc
  | _ => { kind := .function, names := [], isGenerator := false, isCoroutine := false }
def genCond (st : Stmt) : Expr := match defBody st with
  | [.Return (some (.Call _ [.GeneratorExp _ [⟨_, _, [c], _⟩] _ _, _] _ _)) _] => c
  | _ => .Constant .none 0 ⟨0, 0, 0, 0⟩
theorem gs_kind : (genScope sIndex).kind = .function := rfl
theorem gs_odd : (genScope sIndex).names.lookup ("is_odd" : Str) = some NameKind.globalImplicit := by decide +kernel
theorem gs_n : (genScope sIndex).names.lookup ("n" : Str) = some NameKind.free := by decide +kernel
theorem si_n : (defScope sIndex).names.lookup ("n" : Str) = some NameKind.cell := by decide +kernel
theorem gs_k : (genScope sIndex).names.lookup ("k" : Str) = some NameKind.local := by decide +kernel
section
variable {P : Program} {w : World} {K : PySem.W.Frag} {mg : Str → Option Value} {base : Heap}
theorem test_odd {X : Cx} {k : Nat} {fO : Addr} {fdO : FuncData} {n : Int} (hr : Room k X.A) (FO : Fun X.K "is_odd" "is_odd" sOdd fO fdO) (gO : X.mg "is_odd" = some (.ref fO)) : TestR X (genScope sIndex) "k" "n" n (genCond sIndex) (oddI n) := by
  intro cenv A' E' s i T
  obtain ⟨oc, od, kV, doc, pm, an, cdv, ct, osl, rfl, lk, hcd⟩ := FO.ex
  obtain ⟨m, t, hns, hm⟩ := T.ns
  obtain ⟨cc, tn, hcc, hcell⟩ := T.cell
  have KX : X.K.In s.heap := T.mod.kin.keeps T.base
  have lim : s.heap.NoLimit := T.mod.nolimit.keeps T.base
  have hk : cenv.scope.kind = .function := by rw [T.scope]; exact gs_kind
  refine isTrue_plain ?_ rfl
  refine wpAny_Call_Name_kw (Calls.Name_function_global hk (show cenv.scope.names.lookup _ = _ by rw [T.scope]; exact gs_odd) (Calls.loadGlobal_global (by rw [T.globals]; exact T.mod.glob.keeps T.base) gO ?_) (by decide))
  refine PySem.W.callWith_K (h₀ := X.base) T.mod.kin FO.kp ?_ rfl rfl
  refine Calls.spliced_cons (wpAny_Name (wpAny_loadName_free hk (show cenv.scope.names.lookup _ = _ by rw [T.scope]; exact gs_n) hcc hcell ?_ (by decide)) (by decide))
  refine Calls.spliced_cons (wpAny_Name (wpAny_loadName_local hk (show cenv.scope.names.lookup _ = _ by rw [T.scope]; exact gs_k) hns hm ?_) (by decide))
  refine Calls.spliced_nil ⟨KX, ?_⟩
  refine wpAny_mono (odd_call lk hcd KX lim (by have a := T.dp; have b := hr.dp; omega)) (fun y s3 r => ?_) fun _ _ z => z
  obtain ⟨rfl, kp⟩ := r
  exact wpAny_truthy_bool ⟨pyOdd_eq n i, kp⟩
/-- sizes and a number within their bounds -/
structure Dims (r s n : Int) : Prop where
  r1 : 1 ≤ r
  r2 : r ≤ 1000
  s1 : 1 ≤ s
  s2 : s ≤ 1000
  n1 : 1 ≤ n
  n2 : n ≤ 2000
def spIndex (PT : Addr) : Sp := fun vs H Q _ => ∃ r s n : Int, vs = [.int r, .int s, .int n] ∧ Dims r s n ∧ GxR.TabG H PT ∧ ∀ H', GxR.Tabbed PT H H' → Q (optV (least r s n)) H'
theorem max_if {i j : Int} : (if j > i then j else i) = max i j := by omega
theorem min_if {i j : Int} : (if j < i then j else i) = min i j := by omega
theorem gs_free {n : Nat} : ∀ y ∈ (genScope sIndex).names, y.2 = .free → ∃ c, (cellsFrom n (defScope sIndex).names []).lookup y.1 = some c := by
  have h : ∀ y ∈ (genScope sIndex).names, y.2 = .free → y.1 = ("n" : Str) := by decide +kernel
  intro y hy e
  rw [h y hy e]
  exact cell_has (by decide +kernel)
theorem ok_index {f c PT fO : Addr} {fdO : FuncData} {oc : Value} {od an : Option Addr} {osl : Array (Option Value)} {kV doc pm ct : Value} {k : Nat}
    (lk : K.lookup f = some ⟨oc, od, .func (PySem.W.fnOf "odd_index" "odd_index" (defArgs sIndex) (defBody sIndex) (defScope sIndex) .none kV doc pm an (.ref c) ct), osl⟩)
    (hcd : PySem.W.codeIn K (.ref c) "odd_index" = true) (T : Txt mg) (TB : GxR.TabB base mg c PT) (FO : Fun K "is_odd" "is_odd" sOdd fO fdO) (gO : mg "is_odd" = some (.ref fO)) :
    FnOk P w K mg base CX0 (k + 2) f (PySem.W.fnOf "odd_index" "odd_index" (defArgs sIndex) (defBody sIndex) (defScope sIndex) .none kV doc pm an (.ref c) ct) ["r", "s", "n"] (spIndex PT) := by
  refine fn_of lk hcd scIndex (fun vs H Q E h => ?_) fun A outer s H vs Q E hr h => ?_
  · obtain ⟨r, z, n, rfl, _⟩ := h
    rfl
  · obtain ⟨r, z, n, rfl, D, hT, q⟩ := h
    refine ⟨_, pss_one (ps_ret (pe_nextR (j := 2) (pb := oddI) hr TB rfl ⟨rfl, rfl, by decide +kernel, by decide +kernel, by decide +kernel, gs_free⟩ rfl si_n (by decide +kernel) (by rfl) T.next (by rfl) T.range
      (pa_cons (pe_callB (call_max2 rfl) (by rfl) T.max (by decide +kernel) (pa_cons pe_int (pa_cons (pe_op op_add (pe_op op_sub (pv 2) (pv 0)) pe_int) pa_nil)))
        (pa_cons (pe_callB (call_min2 rfl) (by rfl) T.min (by decide +kernel) (pa_cons (pv 1) (pa_cons (pe_op op_add (pv 2) pe_int) pa_nil))) pa_nil))
      (fun n => test_odd hr FO gO))), ?_⟩
    obtain ⟨d1, d2, d3, d4, d5, d6⟩ := D
    refine ⟨n, rfl, _, rfl, _, rfl, _, _, rfl, rfl, _, _, rfl, rfl, _, _, rfl, _, rfl, _, rfl, _, _, rfl, rfl, _, _, rfl, _, _, rfl, ?_, hT, fun H2 hTb => ?_⟩
    · rw [max_if, min_if]
      exact ⟨by omega, by omega, by omega, by omega⟩
    · rw [max_if, min_if]
      exact q H2 hTb
def spLet (PT : Addr) : Sp := fun vs H Q _ => ∃ r s n : Int, vs = [.int r, .int s, .int n] ∧ Dims r s n ∧ GxR.TabG H PT ∧ ∀ H', GxR.Tabbed PT H H' → Q (.bl (least r s n).isNone) H'
theorem optV_non {o : Option Int} : decide (optV o = .non) = o.isNone := by
  cases o with
  | none => exact decide_eq_true rfl
  | some k => exact decide_eq_false (fun z => by cases z)
theorem ok_let {f fT fX : Addr} {fd fdT fdX : FuncData} {k : Nat} {PT : Addr} (F : Fun K "is_let" "is_let" sLet f fd) (GT : FnOk P w K mg base CX0 (k + 5) fT fdT ["r", "s", "n"] spThree) (kT : PySem.W.keepIn K (.ref fT) = true) (bT : Binds K fdT ["r", "s", "n"] []) (gT : mg "require_three" = some (.ref fT))
    (GX : FnOk P w K mg base CX0 (k + 2) fX fdX ["r", "s", "n"] (spIndex PT)) (kX : PySem.W.keepIn K (.ref fX) = true) (bX : Binds K fdX ["r", "s", "n"] []) (gX : mg "odd_index" = some (.ref fX)) :
    FnOk P w K mg base CX0 (k + 6) f fd ["r", "s", "n"] (spLet PT) := by
  refine F.ok scLet (fun vs H Q E h => ?_) (fun cdv A outer s H vs Q E hr h => ?_)
  · obtain ⟨r, z, n, rfl, _⟩ := h
    rfl
  · obtain ⟨r, z, n, rfl, D, hT, q⟩ := h
    have hr2 : Room (k + 2) _ := hr.mono (by omega)
    refine ⟨_, pss_cons (ps_expr (pe_call GT hr (by rfl) gT kT bT .nil pass0 (pa_cons (pv 0) (pa_cons (pv 1) (pa_cons (pv 2) pa_nil)))))
      (pss_one (ps_ret (pe_cmp (pc_isN (pe_call GX hr2 (by rfl) gX kX bX .nil pass0 (pa_cons (pv 0) (pa_cons (pv 1) (pa_cons (pv 2) pa_nil)))))))), ?_⟩
    refine ⟨_, rfl, _, rfl, _, rfl, r, z, n, rfl, D.r1, D.r2, D.s1, D.s2, D.n1, D.n2, ?_⟩
    refine ⟨_, rfl, _, rfl, _, rfl, r, z, n, rfl, D, hT, fun H2 hTb => ?_⟩
    exact qB optV_non (q H2 hTb)
theorem ok_binom {f fT fX : Addr} {fd fdT fdX : FuncData} {k : Nat} {PT : Addr} (F : Fun K "odd_binomial" "odd_binomial" sBinom f fd) (GT : FnOk P w K mg base CX0 (k + 5) fT fdT ["r", "s", "n"] spThree) (kT : PySem.W.keepIn K (.ref fT) = true) (bT : Binds K fdT ["r", "s", "n"] []) (gT : mg "require_three" = some (.ref fT))
    (GX : FnOk P w K mg base CX0 (k + 2) fX fdX ["r", "s", "n"] (spIndex PT)) (kX : PySem.W.keepIn K (.ref fX) = true) (bX : Binds K fdX ["r", "s", "n"] []) (gX : mg "odd_index" = some (.ref fX)) :
    FnOk P w K mg base CX0 (k + 6) f fd ["r", "s", "n"] (spIndex PT) := by
  refine F.ok scBinom (fun vs H Q E h => ?_) (fun cdv A outer s H vs Q E hr h => ?_)
  · obtain ⟨r, z, n, rfl, _⟩ := h
    rfl
  · obtain ⟨r, z, n, rfl, D, hT, q⟩ := h
    have hr2 : Room (k + 2) _ := hr.mono (by omega)
    refine ⟨_, pss_cons (ps_expr (pe_call GT hr (by rfl) gT kT bT .nil pass0 (pa_cons (pv 0) (pa_cons (pv 1) (pa_cons (pv 2) pa_nil)))))
      (pss_one (ps_ret (pe_call GX hr2 (by rfl) gX kX bX .nil pass0 (pa_cons (pv 0) (pa_cons (pv 1) (pa_cons (pv 2) pa_nil)))))), ?_⟩
    refine ⟨_, rfl, _, rfl, _, rfl, r, z, n, rfl, D.r1, D.r2, D.s1, D.s2, D.n1, D.n2, ?_⟩
    exact ⟨_, rfl, _, rfl, _, rfl, r, z, n, rfl, D, hT, q⟩
/-- a value that is judged here -/
inductive Judged (H : Hp) : V → Prop where
  | non : Judged H .non
  | bl (b : Bool) : Judged H (.bl b)
  | int (i : Int) : Judged H (.int i)
  | str (x : Str) : Judged H (.str x)
  | tup {a : Addr} {xs : List V} (h : H a = some (.tup xs)) : Judged H (.ref a)
/-- what is_odd_binomial says of it -/
def judge (r s n : Int) : V → Bool
  | .int k => decide (n - r < k) && (decide (k < s) && oddI n k)
  | _ => false
def spIsBinom : Sp := fun vs H Q _ => ∃ (r s n : Int) (v : V), vs = [.int r, .int s, .int n, v] ∧ Dims r s n ∧ Judged H v ∧ Q (.bl (judge r s n v)) H
theorem ok_isbinom {f fT fO : Addr} {fd fdT fdO : FuncData} {k : Nat} (F : Fun K "is_odd_binomial" "is_odd_binomial" sIsBinom f fd) (T : Txt mg) (GT : FnOk P w K mg base CX0 (k + 5) fT fdT ["r", "s", "n"] spThree) (kT : PySem.W.keepIn K (.ref fT) = true) (bT : Binds K fdT ["r", "s", "n"] []) (gT : mg "require_three" = some (.ref fT))
    (GO : FnOk P w K mg base CX0 (k + 1) fO fdO ["n", "k"] spOdd) (kO : PySem.W.keepIn K (.ref fO) = true) (bO : Binds K fdO ["n", "k"] []) (gO : mg "is_odd" = some (.ref fO)) :
    FnOk P w K mg base CX0 (k + 6) f fd ["r", "s", "n", "value"] spIsBinom := by
  refine F.ok scIsBinom (fun vs H Q E h => ?_) (fun cdv A outer s H vs Q E hr h => ?_)
  · obtain ⟨r, z, n, v, rfl, _⟩ := h
    rfl
  · obtain ⟨r, z, n, v, rfl, D, J, q⟩ := h
    have hr1 : Room (k + 1) _ := hr.mono (by omega)
    refine ⟨_, pss_cons (ps_expr (pe_call GT hr (by rfl) gT kT bT .nil pass0 (pa_cons (pv 0) (pa_cons (pv 1) (pa_cons (pv 2) pa_nil)))))
      (pss_cons (ps_if (PW.pt (pw_or (pt_not (pt_val (pe_callB call_isi (by rfl) T.isinstance boot_isinstance (pa_cons (pv 3) (pa_cons (pe_bltn (v := .ty "int") (by rfl) T.int boot_tint rfl) pa_nil)))))
          (pw_or1 (pt_val (pe_callB call_isi (by rfl) T.isinstance boot_isinstance (pa_cons (pv 3) (pa_cons (pe_bltn (v := .ty "bool") (by rfl) T.bool boot_tbool rfl) pa_nil)))))))
        (pss_one (ps_ret pe_bl)) pss_nil)
      (pss_one (ps_ret (pe_and (pe_chain op_lt op_lt (pe_op op_sub (pv 2) (pv 0)) (pv 3) (pv 1)) (pe_one (pe_call GO hr1 (by rfl) gO kO bO .nil pass0 (pa_cons (pv 2) (pa_cons (pv 3) pa_nil)))))))), ?_⟩
    refine ⟨_, rfl, _, rfl, _, rfl, r, z, n, rfl, D.r1, D.r2, D.s1, D.s2, D.n1, D.n2, ?_⟩
    cases J with
    | non => exact ⟨_, rfl, _, _, _, _, false, rfl, .ty "int", .base .non, kit_ty (by decide +kernel), false, rfl, iteT q⟩
    | bl b => exact ⟨_, rfl, _, _, _, _, true, rfl, .ty "int", .base (.bl b), kit_ty (by decide +kernel), true, rfl, iteF ⟨_, rfl, _, _, _, _, true, rfl, .ty "bool", .base (.bl b), kit_ty (by decide +kernel), true, rfl, q⟩⟩
    | str x => exact ⟨_, rfl, _, _, _, _, false, rfl, .ty "int", .base (.str x), kit_ty (by decide +kernel), false, rfl, iteT q⟩
    | tup h => exact ⟨_, rfl, _, _, _, _, false, rfl, .ty "int", .base (.tup h), kit_ty (by decide +kernel), false, rfl, iteT q⟩
    | int i =>
      refine ⟨_, rfl, _, _, _, _, true, rfl, .ty "int", .base (.int i), kit_ty (by decide +kernel), true, rfl, iteF ⟨_, rfl, _, _, _, _, false, rfl, .ty "bool", .base (.int i), kit_ty (by decide +kernel), false, rfl, ?_⟩⟩
      have q : Q (.bl (decide (n - r < i) && (decide (i < z) && oddI n i))) H := q
      refine ⟨_, rfl, _, rfl, _, _, rfl, rfl, _, rfl, _, _, rfl, rfl, _, rfl, ?_⟩
      refine ite2 (fun h1 => ⟨_, rfl, _, _, rfl, rfl, _, rfl, ite2 (fun h2 => ⟨_, rfl, _, rfl, n, i, rfl, ?_⟩) (fun h2 => ?_)⟩) (fun h1 => ⟨false, rfl, iteF ?_⟩)
      · rw [h1, h2, Bool.true_and, Bool.true_and] at q
        exact qB (pyOdd_eq n i) q
      · rw [h1, Bool.eq_false_iff.mpr h2, Bool.true_and, Bool.false_and] at q
        exact q
      · rw [Bool.eq_false_iff.mpr h1, Bool.false_and] at q
        exact q
end
end K69
/-! The law's digits, its odd binomials; left_terms. -/
namespace K69
open PySem PySem.Spec PyProof.Rows L2
abbrev sLeft : Stmt := topS 17
abbrev sLIsOdd : Stmt := topS 22
abbrev sLOdds : Stmt := topS 23
theorem scLeft : FnScope ["r", "s", "n", "i"] ["r", "s", "n"] (defScope sLeft) := ⟨rfl, rfl, rfl, by decide +kernel, rfl, by decide +kernel, by decide +kernel⟩
theorem scLIsOdd : FnScope ["_law_n", "_law_k"] ["_law_n", "_law_k"] (defScope sLIsOdd) := ⟨rfl, rfl, rfl, by decide +kernel, rfl, by decide +kernel, by decide +kernel⟩
theorem scLOdds : FnScope ["_law_r", "_law_s", "_law_n", "_law_k"] ["_law_r", "_law_s", "_law_n"] (defScope sLOdds) := ⟨rfl, rfl, rfl, by decide +kernel, rfl, by decide +kernel, by decide +kernel⟩
def spLIsOdd : Sp := fun vs H Q _ => ∃ n k : Int, vs = [.int n, .int k] ∧ 0 ≤ n ∧ Q (.bl (oddI n k)) H
/-- the rest of the digits -/
def restK : L2.St → Nat
  | [_, some (.int k)] => k.toNat
  | _ => 0
theorem oddI_digits {n k : Int} (h0 : 0 ≤ k) (h1 : k ≤ n) : digits n.toNat k.toNat = oddI n k := by
  rw [oddI_of h0 h1, digits_odd]
theorem digits_half {n k : Int} (hn : 0 ≤ n) (hk : 0 < k) (h : ¬ (k % 2 = 1 ∧ n % 2 = 0)) : digits (n / 2).toNat (k / 2).toNat = digits n.toNat k.toNat := by
  rw [digits_eq n.toNat k.toNat, if_neg (show ¬ k.toNat = 0 by omega), if_neg (show ¬ (k.toNat % 2 = 1 ∧ n.toNat % 2 = 0) by omega), show (n / 2).toNat = n.toNat / 2 by omega, show (k / 2).toNat = k.toNat / 2 by omega]
theorem digits_bad {n k : Int} (hn : 0 ≤ n) (hk : 0 < k) (h1 : k % 2 = 1) (h2 : n % 2 = 0) : digits n.toNat k.toNat = false := by
  rw [digits_eq n.toNat k.toNat, if_neg (show ¬ k.toNat = 0 by omega), if_pos (show k.toNat % 2 = 1 ∧ n.toNat % 2 = 0 by omega)]
theorem digits_zero {n k : Int} (hk : k = 0) : digits n.toNat k.toNat = true := by
  subst hk
  rw [digits_eq]
  rfl
section
variable {P : Program} {w : World} {K : PySem.W.Frag} {mg : Str → Option Value} {base : Heap}
theorem ok_lisodd {f : Addr} {fd : FuncData} {k : Nat} (F : Fun K "_law_is_odd" "_law_is_odd" sLIsOdd f fd) : FnOk P w K mg base CX0 (k + 1) f fd ["_law_n", "_law_k"] spLIsOdd := by
  refine F.ok scLIsOdd (fun vs H Q E h => ?_) (fun cdv A outer s H vs Q E hr h => ?_)
  · obtain ⟨n, z, rfl, _⟩ := h
    rfl
  · obtain ⟨n, z, rfl, hn, q⟩ := h
    refine ⟨_, pss_cons (ps_if (PW.pt (pw_or (pt_cmpR op_lt (pv 1) pe_int (nomark _)) (pw_or1 (pt_cmpR op_gt (pv 1) (pv 0) (nomark _))))) (pss_one (ps_ret pe_bl)) pss_nil)
      (pss_cons (ps_while PassesOwn.never (pt_cmpR op_gt (pv 1) pe_int (nomark _))
        (pss_cons (ps_if (PW.pt (pw_and (pt_cmpR op_eq (pe_op op_mod (pv 1) pe_int) pe_int (nomark _)) (pw_and1 (pt_cmpR op_eq (pe_op op_mod (pv 0) pe_int) pe_int (nomark _))))) (pss_one (ps_ret pe_bl)) pss_nil)
          (pss_one (ps_par (i := 0) (j := 1) rfl scLIsOdd.nd rfl rfl (by decide) rfl rfl (pa_cons (pe_op op_fdiv (pv 0) pe_int) (pa_cons (pe_op op_fdiv (pv 1) pe_int) pa_nil)) (by rfl)))))
      (pss_one (ps_ret pe_bl))), ?_⟩
    refine ⟨_, rfl, _, _, rfl, rfl, _, rfl, ite2 (fun h1 => iteT (qB (oddI_neg (.inl (of_decide_eq_true h1))).symm q)) (fun h1 => ⟨_, rfl, _, rfl, _, _, rfl, rfl, _, rfl, ite2 (fun h2 => qB (oddI_neg (.inr (of_decide_eq_true h2))).symm q) (fun h2 => ?_)⟩)⟩
    have g1 : 0 ≤ z := Int.not_lt.mp fun y => h1 (decide_eq_true y)
    have g2 : z ≤ n := Int.not_lt.mp fun y => h2 (decide_eq_true y)
    refine while_by (fun σ' H' => H' = H ∧ ∃ n' k' : Int, σ' = [some (.int n'), some (.int k')] ∧ 0 ≤ n' ∧ 0 ≤ k' ∧ digits n'.toNat k'.toNat = oddI n z) (fun σ' _ => restK σ') ⟨rfl, n, z, rfl, hn, g1, oddI_digits g1 g2⟩ ?_ ?_
    · rintro σ' H' ⟨rfl, n', k', rfl, hn', hk', hd⟩
      refine ⟨_, rfl, _, _, rfl, rfl, _, rfl, ite2 (fun h3 => ?_) (fun h3 => ?_)⟩
      · have h3 := of_decide_eq_true h3
        have turn : ¬ (k' % 2 = 1 ∧ n' % 2 = 0) → ((H' = H' ∧ ∃ a b : Int, [some (V.int (n' / 2)), some (V.int (k' / 2))] = [some (V.int a), some (V.int b)] ∧ 0 ≤ a ∧ 0 ≤ b ∧ digits a.toNat b.toNat = oddI n z) ∧ restK [some (V.int (n' / 2)), some (V.int (k' / 2))] < restK [some (V.int n'), some (V.int k')]) := fun hb =>
          ⟨⟨rfl, _, _, rfl, by omega, by omega, (digits_half hn' h3 hb).trans hd⟩, by show (k' / 2).toNat < k'.toNat; omega⟩
        refine ⟨_, rfl, _, _, rfl, rfl, (by show (0 : Int) < 2; decide), rfl, _, rfl, ?_⟩
        refine ite2 (fun h4 => ⟨_, rfl, _, _, rfl, rfl, (by show (0 : Int) < 2; decide), rfl, _, rfl, ite2 (fun h5 => ?_) (fun h5 => ?_)⟩) (fun h4 => iteF ?_)
        · have h4 : k' % 2 = 1 := V.int.inj (of_decide_eq_true h4)
          have h5 : n' % 2 = 0 := V.int.inj (of_decide_eq_true h5)
          exact qB (hd.symm.trans (digits_bad hn' h3 h4 h5)).symm q
        · refine ⟨_, rfl, _, _, rfl, rfl, ⟨by decide, by decide⟩, _, rfl, _, _, rfl, rfl, ⟨by decide, by decide⟩, _, _, rfl, turn fun y => h5 (decide_eq_true (congrArg V.int y.2))⟩
        · refine ⟨_, rfl, _, _, rfl, rfl, ⟨by decide, by decide⟩, _, rfl, _, _, rfl, rfl, ⟨by decide, by decide⟩, _, _, rfl, turn fun y => h4 (decide_eq_true (congrArg V.int y.1))⟩
      · have h3 : k' = 0 := by
          have := Int.not_lt.mp fun y => h3 (decide_eq_true y)
          omega
        exact qB (hd.symm.trans (digits_zero h3)).symm q
    · rintro σ' H' R R' hR ⟨v, e, i, j, e1, e2, b, e3, r⟩
      exact ⟨v, e, i, j, e1, e2, b, e3, hR _ _ r⟩
/-! ### heaps -/
theorem same_upd {H : Hp} {p : Addr} {o : HO} (h : H p = none) : Same H (upd H p o) := fun b x e => by
  rw [upd_ne (ne_of_none e h)]
  exact e
/-- a list that was made behind H grows -/
theorem same_grow {H H1 : Hp} {D : Addr} {o : HO} (s : Same H H1) (h : H D = none) : Same H (upd H1 D o) := fun b x e => by
  rw [upd_ne (ne_of_none e h)]
  exact s b x e
theorem filter_snoc {p : Int → Bool} {l : List Int} {i : Nat} {x : Int} (h : l[i]? = some x) : (l.take (i + 1)).filter p = (l.take i).filter p ++ (if p x then [x] else []) := by
  rw [List.take_add_one, h, List.filter_append]
  cases e : p x
  · simp [List.filter, e]
  · simp [List.filter, e]
theorem filter_yes {p : Int → Bool} {l : List Int} {i : Nat} {x : Int} (h : l[i]? = some x) (hp : p x = true) : (l.take (i + 1)).filter p = (l.take i).filter p ++ [x] := by
  rw [filter_snoc h, hp]; rfl
theorem filter_no {p : Int → Bool} {l : List Int} {i : Nat} {x : Int} (h : l[i]? = some x) (hp : p x = false) : (l.take (i + 1)).filter p = (l.take i).filter p := by
  rw [filter_snoc h, hp]; simp
theorem filter_len {p : Int → Bool} {l : List Int} (i : Nat) : ((l.take i).filter p).length ≤ i := by
  have := List.length_filter_le p (l.take i)
  have := List.length_take_le i l
  omega
theorem small_of {n : Nat} (h : n ≤ 100000) : n < sizeLine := Nat.lt_of_le_of_lt h (by decide)
def spLOdds : Sp := fun vs H Q _ => ∃ r s n : Int, vs = [.int r, .int s, .int n] ∧ Dims r s n ∧ ∀ H' p, Same H H' → H p = none → H' p = some (.lst ((odds r s n).map V.int)) → Q (.ref p) H'
theorem ok_lodds {f fO : Addr} {fd fdO : FuncData} {k : Nat} (F : Fun K "_law_odds" "_law_odds" sLOdds f fd) (T : Txt mg) (GO : FnOk P w K mg base CX0 (k + 1) fO fdO ["_law_n", "_law_k"] spLIsOdd) (kO : PySem.W.keepIn K (.ref fO) = true) (bO : Binds K fdO ["_law_n", "_law_k"] []) (gO : mg "_law_is_odd" = some (.ref fO)) :
    FnOk P w K mg base CX0 (k + 2) f fd ["_law_r", "_law_s", "_law_n"] spLOdds := by
  refine F.ok scLOdds (fun vs H Q E h => ?_) (fun cdv A outer s H vs Q E hr h => ?_)
  · obtain ⟨r, z, n, rfl, _⟩ := h
    rfl
  · obtain ⟨r, z, n, rfl, D, q⟩ := h
    obtain ⟨d1, d2, d3, d4, d5, d6⟩ := D
    refine ⟨_, pss_one (ps_ret (pe_lc (own := [("_law_k", 3)]) (g := gName 3) rfl scLOdds.nd
      (pi_range2 (by rfl) T.range (pa_cons (pe_callB (call_max2 rfl) (by rfl) T.max (by decide +kernel) (pa_cons pe_int (pa_cons (pe_op op_add (pe_op op_sub (pv 2) (pv 0)) pe_int) pa_nil))) (pa_cons (pv 1) pa_nil)))
      (blkOk_by (N := ["_law_r", "_law_s", "_law_n", "_law_k"]) (sc := defScope sLOdds) (by decide +kernel)) (fun _ _ _ _ _ => pg_name (i := 3) scLOdds.nd rfl (Or.inl rfl))
      (fun _ _ _ _ _ => pts_one (pt_val (pe_call GO hr (by rfl) gO kO bO .nil pass0 (pa_cons (pv 2) (pa_cons (pv 3) pa_nil))))) (fun _ _ _ _ _ => pv 3))), ?_⟩
    refine ⟨_, rfl, _, rfl, _, _, rfl, rfl, _, _, rfl, rfl, _, _, rfl, _, rfl, _, _, rfl, ?_, fun L nL => ?_⟩
    · rw [max_if]
      exact ⟨by omega, by omega, by omega, by omega⟩
    · rw [max_if]
      refine lc_range (lo := max 0 (n - r + 1)) (n := (z - max 0 (n - r + 1)).toNat) (fun i H' => Same H H' ∧ H' L = some (.lst ((((rng (max 0 (n - r + 1)) z).take i).filter (oddI n)).map V.int))) ⟨same_upd nL, upd_same⟩ ?_ ?_
      · rintro i H' hi ⟨sm, eL⟩
        have g : (rng (max 0 (n - r + 1)) z)[i]? = some (max 0 (n - r + 1) + i) := rng_get hi
        refine ⟨rfl, _, rfl, _, rfl, n, _, rfl, by omega, _, rfl, ?_⟩
        refine ite2 (fun h1 => ⟨_, rfl, _, eL, ?_, same_grow sm nL, ?_⟩) (fun h1 => ⟨sm, ?_⟩)
        · rw [List.length_map]
          have := filter_len (p := oddI n) (l := rng (max 0 (n - r + 1)) z) i
          exact small_of (by omega)
        · rw [upd_same, filter_yes g h1, List.map_append]
          rfl
        · rw [eL, filter_no g (Bool.eq_false_iff.mpr h1)]
      · rintro H' ⟨sm, eL⟩
        refine q H' L sm nL ?_
        rw [eL, List.take_of_length_le (by rw [rng_length]; exact Nat.le_refl _)]
        rfl
/-! ### left_terms -/
/-- new pairs (i, n - i) -/
inductive Prs (H : Hp) (n : Int) : List V → List Int → Prop
  | nil : Prs H n [] []
  | cons {a : Addr} {i : Int} {vs : List V} {ks : List Int} (h : H a = some (.tup [.int i, .int (n - i)])) (t : Prs H n vs ks) : Prs H n (.ref a :: vs) (i :: ks)
theorem Prs.mono {H H' : Hp} {n : Int} (k : ∀ b xs, H b = some (.tup xs) → H' b = some (.tup xs)) : ∀ {vs : List V} {ks : List Int}, Prs H n vs ks → Prs H' n vs ks
  | _, _, .nil => .nil
  | _, _, .cons h t => .cons (k _ _ h) (Prs.mono k t)
theorem Prs.snoc {H : Hp} {n i : Int} {a : Addr} (h : H a = some (.tup [.int i, .int (n - i)])) : ∀ {vs : List V} {ks : List Int}, Prs H n vs ks → Prs H n (vs ++ [.ref a]) (ks ++ [i])
  | _, _, .nil => .cons h .nil
  | _, _, .cons h' t => .cons h' (Prs.snoc h t)
theorem Prs.length {H : Hp} {n : Int} : ∀ {vs : List V} {ks : List Int}, Prs H n vs ks → vs.length = ks.length
  | _, _, .nil => rfl
  | _, _, .cons _ t => by rw [List.length_cons, List.length_cons, Prs.length t]
def pairD (n i : Int) : PyData := .tuple [.int i, .int (n - i)]
theorem Prs.dp {H : Hp} {n : Int} : ∀ {vs : List V} {ks : List Int}, Prs H n vs ks → DpAll K H vs (ks.map (pairD n))
  | _, _, .nil => .nil
  | _, _, .cons h t => .cons (.tup (.inl (.inl h)) (.cons (.int _) (.cons (.int _) .nil))) (Prs.dp t)
theorem Prs.same {H H' : Hp} {n : Int} {vs : List V} {ks : List Int} (s : Same H H') (h : Prs H n vs ks) : Prs H' n vs ks := h.mono fun b _ e => s b _ e
/-- a list at L is written -/
theorem Prs.list {H : Hp} {n : Int} {vs : List V} {ks : List Int} {L : Addr} {xs : List V} {o : HO} (e : H L = some (.lst xs)) (h : Prs H n vs ks) : Prs (upd H L o) n vs ks := h.mono fun b ys q => by
  rw [upd_ne (ne_of q e fun z => by cases z)]
  exact q
def spLeft : Sp := fun vs H Q _ => ∃ r s n : Int, vs = [.int r, .int s, .int n] ∧ Dims r s n ∧ ∀ H' p us, Same H H' → H p = none → H' p = some (.tup us) → Prs H' n us (lefts r s n) → Q (.ref p) H'
theorem ok_left {f fT fO : Addr} {fd fdT fdO : FuncData} {k : Nat} (F : Fun K "left_terms" "left_terms" sLeft f fd) (T : Txt mg) (GT : FnOk P w K mg base CX0 (k + 5) fT fdT ["r", "s", "n"] spThree) (kT : PySem.W.keepIn K (.ref fT) = true) (bT : Binds K fdT ["r", "s", "n"] []) (gT : mg "require_three" = some (.ref fT))
    (GO : FnOk P w K mg base CX0 (k + 1) fO fdO ["n", "k"] spOdd) (kO : PySem.W.keepIn K (.ref fO) = true) (bO : Binds K fdO ["n", "k"] []) (gO : mg "is_odd" = some (.ref fO)) :
    FnOk P w K mg base CX0 (k + 6) f fd ["r", "s", "n"] spLeft := by
  refine F.ok scLeft (fun vs H Q E h => ?_) (fun cdv A outer s H vs Q E hr h => ?_)
  · obtain ⟨r, z, n, rfl, _⟩ := h
    rfl
  · obtain ⟨r, z, n, rfl, D, q⟩ := h
    obtain ⟨d1, d2, d3, d4, d5, d6⟩ := D
    have hr1 : Room (k + 1) (A.deeper (envOfC "left_terms" (defScope sLeft) s.heap.objs.size f cdv)) := hr.mono (by omega)
    refine ⟨_, pss_cons (ps_expr (pe_call GT hr (by rfl) gT kT bT .nil pass0 (pa_cons (pv 0) (pa_cons (pv 1) (pa_cons (pv 2) pa_nil)))))
      (pss_one (ps_ret (pe_callTy call_tuple_of (by rfl) T.tuple (by decide +kernel) (pa_cons (pe_lc (own := [("i", 3)]) (g := gName 3) rfl scLeft.nd
        (pi_range2 (by rfl) T.range (pa_cons (pe_callB (call_max2 rfl) (by rfl) T.max (by decide +kernel) (pa_cons pe_int (pa_cons (pe_op op_add (pe_op op_sub (pv 2) (pv 1)) pe_int) pa_nil)))
          (pa_cons (pe_callB (call_min2 rfl) (by rfl) T.min (by decide +kernel) (pa_cons (pv 0) (pa_cons (pe_op op_add (pv 2) pe_int) pa_nil))) pa_nil)))
        (blkOk_by (N := ["r", "s", "n", "i"]) (sc := defScope sLeft) (by decide +kernel)) (fun _ _ _ _ _ => pg_name (i := 3) scLeft.nd rfl (Or.inl rfl))
        (fun _ _ _ _ _ => pts_one (pt_val (pe_call GO hr1 (by rfl) gO kO bO .nil pass0 (pa_cons (pv 2) (pa_cons (pv 3) pa_nil)))))
        (fun _ _ _ _ _ => pe_tup (pa_cons (pv 3) (pa_cons (pe_op op_sub (pv 2) (pv 3)) pa_nil)))) pa_nil)))), ?_⟩
    refine ⟨_, rfl, _, rfl, _, rfl, r, z, n, rfl, d1, d2, d3, d4, d5, d6, ?_⟩
    refine ⟨_, rfl, _, rfl, _, _, rfl, rfl, _, _, rfl, rfl, _, _, rfl, _, rfl, _, rfl, _, _, rfl, rfl, _, _, rfl, _, _, rfl, ?_, fun L nL => ?_⟩
    · rw [max_if, min_if]
      exact ⟨by omega, by omega, by omega, by omega⟩
    · rw [max_if, min_if]
      have e0 : ∀ H' us, Same H H' → H' L = some (.lst us) → ∀ p, H' p = none → ∀ b xs, H' b = some (.tup xs) → (upd H' p (.tup us)) b = some (.tup xs) := fun H' us sm eL p hp b xs e => same_upd hp b _ e
      refine lc_range (lo := max 0 (n - z + 1)) (n := (min r (n + 1) - max 0 (n - z + 1)).toNat) (fun i H' => Same H H' ∧ ∃ us, H' L = some (.lst us) ∧ Prs H' n us (((rng (max 0 (n - z + 1)) (min r (n + 1))).take i).filter (oddI n))) ⟨same_upd nL, [], upd_same, .nil⟩ ?_ ?_
      · rintro i H' hi ⟨sm, us, eL, pr⟩
        have g : (rng (max 0 (n - z + 1)) (min r (n + 1)))[i]? = some (max 0 (n - z + 1) + i) := rng_get hi
        have hlen := filter_len (p := oddI n) (l := rng (max 0 (n - z + 1)) (min r (n + 1))) i
        refine ⟨rfl, _, rfl, _, rfl, n, _, rfl, _, rfl, ?_⟩
        rw [pyOdd_eq]
        refine ite2 (fun h1 => ?_) (fun h1 => ⟨sm, us, eL, ?_⟩)
        · refine ⟨_, rfl, _, rfl, _, rfl, _, _, rfl, rfl, (by show 2 ≤ sizeLine; decide), fun p np => ?_⟩
          have npL : L ≠ p := ne_of_none eL np
          refine ⟨us, by rw [upd_ne npL]; exact eL, small_of (by rw [pr.length]; omega), same_grow (sm.trans (same_upd np)) nL, _, upd_same, ?_⟩
          rw [filter_yes g h1]
          exact ((pr.same (same_upd np)).snoc upd_same).list (by rw [upd_ne npL]; exact eL)
        · rw [filter_no g (Bool.eq_false_iff.mpr h1)]
          exact pr
      · rintro H' ⟨sm, us, eL, pr⟩
        rw [List.take_of_length_le (by rw [rng_length]; exact Nat.le_refl _)] at pr
        refine ⟨L, us, rfl, .inl ⟨.of eL, fun p np => ?_⟩⟩
        exact q _ p us (sm.trans (same_upd np)) (sm.free np) upd_same (pr.same (same_upd np))
end
end K69
/-! The law's row of binomials modulo 2. -/
namespace K69
open PySem PySem.Spec PyProof.Rows L2
abbrev sLRow : Stmt := topS 24
theorem scLRow : FnScope ["_law_n", "_law_found", "_law_turn", "_law_one", "_law_other"] ["_law_n"] (defScope sLRow) := ⟨rfl, rfl, rfl, by decide +kernel, rfl, by decide +kernel, by decide +kernel⟩
/-- a comprehension over zip of two lists that stand still -/
theorem lc_zip {K : PySem.W.Frag} {a b : Addr} {xs ys : List V} {g : TG} {tt : TT} {te : TE} {vs : List Nat} {σ : L2.St} {H1 : Hp} {D : Addr} {Qd : Hp → Prop} (Pv : Nat → Hp → Prop) (h0 : Pv 0 (upd H1 D (.lst [])))
    (hl : ∀ i H, Pv i H → SqL K H a xs ∧ SqL K H b ys)
    (hs : ∀ i x y T H, xs[i]? = some x → ys[i]? = some y → Pv i H → H T = none → g (.ref T) (wipe σ vs) (upd H T (.tup [x, y])) fun σ2 H2 => wipe σ2 vs = wipe σ vs ∧ tt σ2 H2 fun c H3 =>
      if c = true then te σ2 H3 fun z H4 => ∃ acc, H4 D = some (.lst acc) ∧ acc.length < sizeLine ∧ Pv (i + 1) (upd H4 D (.lst (acc ++ [z]))) else Pv (i + 1) H3)
    (hd : ∀ H, Pv (min xs.length ys.length) H → Qd H) :
    ∃ W : Nat → Nat → Hp → Prop, (∃ m, W 0 m (upd H1 D (.lst []))) ∧ ∀ i m H, W i m H →
      ((Itz K a b).stop i H ∧ Qd H) ∨ ((Itz K a b).go i H ∧ ∃ Nx : Hp → Prop, (∀ H', Nx H' → ∃ m', m' < m ∧ W (i + 1) m' H') ∧ ∀ x H', (Itz K a b).yld i H x H' → g x (wipe σ vs) H' fun σ2 H2 => wipe σ2 vs = wipe σ vs ∧ tt σ2 H2 fun c H3 =>
        if c = true then te σ2 H3 fun z H4 => ∃ acc, H4 D = some (.lst acc) ∧ acc.length < sizeLine ∧ Nx (upd H4 D (.lst (acc ++ [z]))) else Nx H3) := by
  refine ⟨fun i m H => m = min xs.length ys.length - i ∧ i ≤ min xs.length ys.length ∧ Pv i H, ⟨min xs.length ys.length, by simp, Nat.zero_le _, h0⟩, ?_⟩
  rintro i m H ⟨rfl, hi, p⟩
  obtain ⟨q1, q2⟩ := hl i H p
  by_cases hlt : i < min xs.length ys.length
  · have a1 : i < xs.length := by omega
    have a2 : i < ys.length := by omega
    refine .inr ⟨⟨xs, ys, xs[i], ys[i], q1, q2, List.getElem?_eq_getElem a1, List.getElem?_eq_getElem a2⟩, Pv (i + 1), fun H' p' => ⟨min xs.length ys.length - (i + 1), by omega, rfl, by omega, p'⟩, fun x H' y => ?_⟩
    obtain ⟨T, x1, x2, rfl, nT, rfl, f1, f2⟩ := y
    exact hs i x1 x2 T H (f1 xs q1) (f2 ys q2) p nT
  · have e : i = min xs.length ys.length := by omega
    refine .inl ⟨⟨xs, ys, q1, q2, by omega⟩, hd H ?_⟩
    rw [← e]
    exact p
theorem cut1 (xs : List V) : cutV xs (some 1) none = xs.drop 1 := by
  unfold cutV
  rw [show HT.sIx xs.length 0 (some 1) = min 1 xs.length from HT.sIx_nat xs.length 0 1, HT.sIx_none]
  cases xs with
  | nil => rfl
  | cons x r =>
    have e : min 1 (x :: r).length = 1 := by
      rw [List.length_cons]
      omega
    rw [e]
    show (List.take ((x :: r).length - 1) r) = r
    rw [List.length_cons, Nat.add_sub_cancel]
    exact List.take_length
theorem mids_at {xs : List Int} {i : Nat} {x y : Int} (h1 : xs[i]? = some x) (h2 : (xs.drop 1)[i]? = some y) : (mids xs)[i]? = some ((x + y) % 2) := by
  unfold mids
  rw [List.getElem?_zipWith, h1, h2]
theorem mids_take {xs : List Int} {i : Nat} {x y : Int} (h1 : xs[i]? = some x) (h2 : (xs.drop 1)[i]? = some y) : (mids xs).take (i + 1) = (mids xs).take i ++ [(x + y) % 2] := by
  rw [List.take_add_one, mids_at h1 h2]
  rfl
theorem map_at {l : List Int} {i : Nat} {x : V} (h : (l.map V.int)[i]? = some x) : ∃ z, l[i]? = some z ∧ x = .int z := by
  rw [List.getElem?_map] at h
  cases e : l[i]? with
  | none =>
    rw [e] at h
    cases h
  | some z =>
    rw [e] at h
    exact ⟨z, rfl, (Option.some.inj h).symm⟩
def spLRow : Sp := fun vs H Q _ => ∃ n : Int, vs = [.int n] ∧ 0 ≤ n ∧ n ≤ 2000 ∧ ∀ H' p, Same H H' → H p = none → H' p = some (.lst ((row n.toNat).map V.int)) → Q (.ref p) H'
section
variable {P : Program} {w : World} {K : PySem.W.Frag} {mg : Str → Option Value} {base : Heap}
theorem ok_lrow {f : Addr} {fd : FuncData} {k : Nat} (F : Fun K "_law_row" "_law_row" sLRow f fd) (T : Txt mg) : FnOk P w K mg base CX0 (k + 1) f fd ["_law_n"] spLRow := by
  refine F.ok scLRow (fun vs H Q E h => ?_) (fun cdv A outer s H vs Q E hr h => ?_)
  · obtain ⟨n, rfl, _⟩ := h
    rfl
  · obtain ⟨n, rfl, h0, h1, q⟩ := h
    refine ⟨_, pss_cons (ps_set (i := 1) scLRow.nd rfl (.inl rfl) (pe_lst (pa_cons pe_int pa_nil)))
      (pss_cons (ps_for PassesOwn.never rfl (pi_range1 (by rfl) T.range (pa_cons (pv 0) pa_nil)) (pg_name (i := 2) scLRow.nd rfl (.inl rfl))
        (pss_one (ps_set (i := 1) scLRow.nd rfl (.inl rfl) (pe_op op_cat (pe_op op_cat (pe_lst (pa_cons pe_int pa_nil))
          (pe_lc (own := [("_law_one", 3), ("_law_other", 4)]) (g := gTup K 2 (gCons (gName 3) (gCons (gName 4) gNil))) (tt := tYes) rfl scLRow.nd
            (pi_zip (by rfl) T.zip (pa_cons (pv 1) (pa_cons (pe_slice sl_list (pv 1) (po_some pe_int) po_none) pa_nil)))
            (blkOk_by (N := ["_law_n", "_law_found", "_law_turn", "_law_one", "_law_other"]) (sc := defScope sLRow) (by decide +kernel))
            (fun _ _ _ _ _ => pg_tup rfl (pgs_cons (pg_name (i := 3) scLRow.nd rfl (.inl rfl)) (pgs_cons (pg_name (i := 4) scLRow.nd rfl (.inl rfl)) pgs_nil)))
            (fun _ _ _ _ _ => pts_nil)
            (fun _ _ _ _ _ => pe_op op_mod (pe_callTy call_int1 (by rfl) T.int boot_tint (pa_cons (pe_op op_add (pv 3) (pv 4)) pa_nil)) pe_int)))
          (pe_lst (pa_cons pe_int pa_nil))))))
      (pss_one (ps_ret (pv 1)))), ?_⟩
    refine ⟨by decide, fun o no => ?_⟩
    refine ⟨_, rfl, n, rfl, by omega, by omega, for_range (lo := 0) (n := n.toNat) (fun i σ' H' => ∃ p y2 y3 y4, σ' = [some (.int n), some (.ref p), y2, y3, y4] ∧ Same H H' ∧ H p = none ∧ H' p = some (.lst ((row i).map V.int)))
      ⟨o, none, none, none, rfl, same_upd no, no, upd_same⟩ ?_ ?_⟩
    · rintro i σ' H' hi ⟨p, y2, y3, y4, rfl, sm, np, ep⟩
      refine ⟨by decide, fun q1 n1 => ?_⟩
      have sa : Same H' (upd H' q1 (.lst [.int 1])) := same_upd n1
      generalize hHa : upd H' q1 (.lst [.int 1]) = Ha at sa
      have ea : Ha q1 = some (.lst [.int 1]) := by rw [← hHa]; exact upd_same
      refine ⟨_, rfl, _, rfl, 1, rfl, p, (row i).map V.int, rfl, .of (sa _ _ ep), fun c nc => ?_⟩
      rw [cut1, ← List.map_drop]
      have sb : Same Ha (upd Ha c (.lst (((row i).drop 1).map V.int))) := same_upd nc
      generalize hHb : upd Ha c (.lst (((row i).drop 1).map V.int)) = Hb at sb
      have ec : Hb c = some (.lst (((row i).drop 1).map V.int)) := by rw [← hHb]; exact upd_same
      have epb : Hb p = some (.lst ((row i).map V.int)) := sb _ _ (sa _ _ ep)
      have eqb : Hb q1 = some (.lst [.int 1]) := sb _ _ ea
      refine ⟨p, c, _, _, rfl, .of epb, .of ec, fun D nD => ?_⟩
      refine lc_zip (xs := (row i).map V.int) (ys := ((row i).drop 1).map V.int) (fun j H3 => Same Hb H3 ∧ H3 D = some (.lst (((mids (row i)).take j).map V.int))) ⟨same_upd nD, upd_same⟩ (fun j H3 h3 => ⟨.of (h3.1 _ _ epb), .of (h3.1 _ _ ec)⟩) ?_ ?_
      · rintro j x y L H3 g1 g2 ⟨s3, e3⟩ nL
        obtain ⟨x, k1, rfl⟩ := map_at g1
        obtain ⟨y, k2, rfl⟩ := map_at g2
        have s4 : Same H3 (upd H3 L (.tup [.int x, .int y])) := same_upd nL
        refine ⟨L, [.int x, .int y], rfl, .inl (.inl upd_same), rfl, .int x, [.int y], rfl, .int y, [], rfl, rfl, rfl, ?_⟩
        refine ⟨_, rfl, _, rfl, _, _, rfl, rfl, .inl ⟨_, rfl, _, _, rfl, rfl, (by show (0 : Int) < 2; decide), _, s4 _ _ e3, ?_, same_grow (s3.trans s4) nD, ?_⟩⟩
        · rw [List.length_map, List.length_take]
          have a1 := mids_length i
          exact small_of (by omega)
        · rw [upd_same, mids_take k1 k2, List.map_append]
          rfl
      · rintro H3 ⟨s3, e3⟩
        have el : (mids (row i)).take (min ((row i).map V.int).length (((row i).drop 1).map V.int).length) = mids (row i) := List.take_of_length_le (by
          rw [mids_length, List.length_map, List.length_map, List.length_drop, row_length]
          omega)
        rw [el] at e3
        refine ⟨q1, D, [.int 1], (mids (row i)).map V.int, rfl, rfl, s3 _ _ eqb, e3, ?_, fun q2 n2 => ?_⟩
        · rw [List.length_map, mids_length]
          exact Nat.le_of_lt (small_of (by show 1 + i ≤ 100000; omega))
        refine ⟨by decide, fun q3 n3 => ?_⟩
        have s5 : Same H3 (upd H3 q2 (.lst ([V.int 1] ++ (mids (row i)).map V.int))) := same_upd n2
        generalize hHc : upd H3 q2 (.lst ([V.int 1] ++ (mids (row i)).map V.int)) = Hc at s5 n3
        have e5 : Hc q2 = some (.lst ([V.int 1] ++ (mids (row i)).map V.int)) := by rw [← hHc]; exact upd_same
        have s6 : Same Hc (upd Hc q3 (.lst [.int 1])) := same_upd n3
        refine ⟨q2, q3, _, _, rfl, rfl, s6 _ _ e5, upd_same, ?_, fun q4 n4 => ?_⟩
        · rw [List.length_append, List.length_map, mids_length]
          exact Nat.le_of_lt (small_of (by show 1 + i + 1 ≤ 100000; omega))
        have sAll : Same H (upd Hc q3 (.lst [.int 1])) := sm.trans (sa.trans (sb.trans (s3.trans (s5.trans s6))))
        refine ⟨q4, _, _, _, rfl, same_grow sAll (sAll.free n4), sAll.free n4, ?_⟩
        rw [upd_same, row_succ, List.map_append, List.map_append]
        rfl
    · rintro σ' H' ⟨p, y2, y3, y4, rfl, sm, np, ep⟩
      exact ⟨_, rfl, q H' p sm np ep⟩
end
end K69
/-! The law looks at the left terms. -/
namespace K69
open PySem PySem.Spec PyProof.Rows L2
abbrev sLTerms : Stmt := topS 25
theorem scLTerms : FnScope ["_law_r", "_law_s", "_law_n", "_law_row_here", "_law_due", "_law_i"] ["_law_r", "_law_s", "_law_n"] (defScope sLTerms) := ⟨rfl, rfl, rfl, by decide +kernel, rfl, by decide +kernel, by decide +kernel⟩
/-! ### data -/
theorem lay_pair (n i : Int) : (pairD n i).canLay0 = true ∧ (pairD n i).depth ≤ 2 := by
  constructor
  · simp [pairD, PyData.canLay0, PyData.canLayAll0]
  · simp [pairD, PyData.depth, PyData.depthAll]
theorem lay_pairs (n : Int) : ∀ ks : List Int, PyData.canLayAll0 (ks.map (pairD n)) = true ∧ PyData.depthAll (ks.map (pairD n)) ≤ 2
  | [] => by simp [PyData.canLayAll0, PyData.depthAll]
  | k :: ks => by
    have a := lay_pair n k
    have b := lay_pairs n ks
    simp only [List.map_cons, PyData.canLayAll0, PyData.depthAll, a.1, b.1, Bool.and_self, true_and]
    omega
theorem shaped_pairs (n : Int) (ks : List Int) : SeqAt.shaped (.list (ks.map (pairD n))) = true := by
  have a := lay_pairs n ks
  unfold SeqAt.shaped
  have e : (PyData.list (ks.map (pairD n))).depth ≤ 3 := by
    simp only [PyData.depth]
    omega
  simp only [PyData.canLay0, a.1, Bool.true_and, decide_eq_true_eq]
  omega
theorem eqv_pair (n i : Int) : PyData.eqv (pairD n i) (pairD n i) = true := by simp [pairD, PyData.eqv, PyData.eqvAll]
theorem eqv_pairs (n : Int) : ∀ ks : List Int, PyData.eqvAll (ks.map (pairD n)) (ks.map (pairD n)) = true
  | [] => by simp [PyData.eqvAll]
  | k :: ks => by
    simp only [List.map_cons, PyData.eqvAll, eqv_pair, eqv_pairs n ks, Bool.and_self]
theorem bit_one (b : Bool) : decide (V.int (bit b) = V.int 1) = b := by cases b <;> rfl
def spLTerms : Sp := fun vs H Q _ => ∃ r s n : Int, vs = [.int r, .int s, .int n] ∧ Dims r s n ∧ ∀ H', Same H H' → Q (.bl true) H'
section
variable {P : Program} {w : World} {K : PySem.W.Frag} {mg : Str → Option Value} {base : Heap}
theorem ok_lterms {f fR fT : Addr} {fd fdR fdT : FuncData} {k : Nat} (F : Fun K "_law_terms_right" "_law_terms_right" sLTerms f fd) (T : Txt mg) (GR : FnOk P w K mg base CX0 (k + 1) fR fdR ["_law_n"] spLRow) (kR : PySem.W.keepIn K (.ref fR) = true) (bR : Binds K fdR ["_law_n"] []) (gR : mg "_law_row" = some (.ref fR))
    (GT : FnOk P w K mg base CX0 (k + 6) fT fdT ["r", "s", "n"] spLeft) (kT : PySem.W.keepIn K (.ref fT) = true) (bT : Binds K fdT ["r", "s", "n"] []) (gT : mg "left_terms" = some (.ref fT)) :
    FnOk P w K mg base CX0 (k + 7) f fd ["_law_r", "_law_s", "_law_n"] spLTerms := by
  refine F.ok scLTerms (fun vs H Q E h => ?_) (fun cdv A outer s H vs Q E hr h => ?_)
  · obtain ⟨r, z, n, rfl, _⟩ := h
    rfl
  · obtain ⟨r, z, n, rfl, D, q⟩ := h
    have D' := D
    obtain ⟨d1, d2, d3, d4, d5, d6⟩ := D'
    have hr1 : Room (k + 1) (A.deeper (envOfC "_law_terms_right" (defScope sLTerms) s.heap.objs.size f cdv)) := hr.mono (by omega)
    refine ⟨_, pss_cons (ps_set (i := 3) scLTerms.nd rfl (.inr rfl) (pe_call GR hr1 (by rfl) gR kR bR .nil pass0 (pa_cons (pv 2) pa_nil)))
      (pss_cons (ps_setLc (i := 4) (own := [("_law_i", 5)]) (g := gName 5) rfl scLTerms.nd rfl rfl (sw_true rfl rfl rfl (by decide +kernel))
        (pi_range1 (by rfl) T.range (pa_cons (pe_callB (call_min2 rfl) (by rfl) T.min (by decide +kernel) (pa_cons (pv 0) (pa_cons (pe_op op_add (pv 2) pe_int) pa_nil))) pa_nil))
        (blkOk_by (N := ["_law_r", "_law_s", "_law_n", "_law_row_here", "_law_due", "_law_i"]) (sc := defScope sLTerms) (by decide +kernel)) (fun _ _ _ _ _ => pg_name (i := 5) scLTerms.nd rfl (Or.inl rfl))
        (fun _ _ _ _ _ => pts_one (PW.pt (pw_and (pt_cmpR op_eq (pe_ix (r := rIxL K) ix_list (pv 3) (pv 5) (fun _ _ => rfl)) pe_int (nomark _)) (pw_and1 (pt_cmpR op_lt (pe_op op_sub (pv 2) (pv 5)) (pv 1) (nomark _))))))
        (fun _ _ _ _ _ => pe_tup (pa_cons (pv 5) (pa_cons (pe_op op_sub (pv 2) (pv 5)) pa_nil))))
      (pss_one (ps_ret (pe_cmpR (op_eqD hr.units) (pe_callTy call_list_of (by rfl) T.list (by decide +kernel) (pa_cons (pe_call GT hr (by rfl) gT kT bT .nil pass0 (pa_cons (pv 0) (pa_cons (pv 1) (pa_cons (pv 2) pa_nil)))) pa_nil)) (pv 4) (nomark _))))), ?_⟩
    refine ⟨_, rfl, n, rfl, by omega, d6, fun H1 pr s1 npr epr => ?_⟩
    have bnd : min r (n + 1) ≤ 2000 := by omega
    have bn0 : 0 ≤ min r (n + 1) := by omega
    refine ⟨_, rfl, _, rfl, _, _, rfl, rfl, _, _, rfl, _, rfl, (by rw [min_if]; omega), (by rw [min_if]; omega), fun L nL => ?_⟩
    rw [min_if]
    refine lc_range (lo := 0) (n := (min r (n + 1)).toNat) (fun i H' => Same H1 H' ∧ ∃ us, H' L = some (.lst us) ∧ Prs H' n us (((rng 0 (min r (n + 1))).take i).filter (fun x => oddI n x && decide (n - x < z)))) ⟨same_upd nL, [], upd_same, .nil⟩ ?_ ?_
    · rintro i H' hi ⟨sm, us, eL, prs⟩
      have g : (rng 0 (min r (n + 1)))[i]? = some (0 + (i : Int)) := rng_get (by omega)
      have hlen := filter_len (p := fun x => oddI n x && decide (n - x < z)) (l := rng 0 (min r (n + 1))) i
      have er : (row n.toNat)[i]? = some (bit (odd n.toNat i)) := row_get (by omega)
      have eo : oddI n (0 + (i : Int)) = odd n.toNat i := by
        rw [oddI_of (by omega) (by omega), show (0 + (i : Int)).toNat = i by omega]
      refine ⟨rfl, _, rfl, _, rfl, pr, _, _, _, rfl, rfl, .of (sm _ _ epr), at_of (j := i) (by omega) (by rw [List.getElem?_map, er]; rfl), rfl, _, rfl, ?_⟩
      rw [bit_one]
      have fin : (oddI n (0 + (i : Int)) && decide (n - (0 + (i : Int)) < z)) = false → Same H1 H' ∧ ∃ us, H' L = some (.lst us) ∧ Prs H' n us (((rng 0 (min r (n + 1))).take (i + 1)).filter (fun x => oddI n x && decide (n - x < z))) := fun hb => by
        refine ⟨sm, us, eL, ?_⟩
        rw [filter_no g hb]
        exact prs
      refine ite2 (fun h1 => ⟨_, rfl, _, rfl, _, _, rfl, rfl, _, rfl, _, _, rfl, rfl, _, rfl, ite2 (fun h2 => ?_) (fun h2 => fin ?_)⟩) (fun h1 => iteF (fin ?_))
      · refine ⟨_, rfl, _, rfl, _, rfl, _, _, rfl, rfl, (by show 2 ≤ sizeLine; decide), fun p np => ?_⟩
        have npL : L ≠ p := ne_of_none eL np
        refine ⟨us, by rw [upd_ne npL]; exact eL, small_of (by rw [prs.length]; omega), same_grow (sm.trans (same_upd np)) nL, _, upd_same, ?_⟩
        rw [filter_yes g (by rw [eo, h1, Bool.true_and]; exact h2)]
        exact ((prs.same (same_upd np)).snoc upd_same).list (by rw [upd_ne npL]; exact eL)
      · rw [eo, h1, Bool.true_and]
        exact Bool.eq_false_iff.mpr h2
      · rw [eo, Bool.eq_false_iff.mpr h1, Bool.false_and]
    · rintro H' ⟨sm, us, eL, prs⟩
      rw [List.take_of_length_le (by rw [rng_length]; omega), lefts_row] at prs
      refine ⟨_, rfl, _, rfl, _, rfl, r, z, n, rfl, D, fun H2 p us2 s2 np ep prs2 => ?_⟩
      refine ⟨p, us2, rfl, .inr (.of ep), fun l nl => ?_⟩
      have s3 : Same H2 (upd H2 l (.lst us2)) := same_upd nl
      refine ⟨_, rfl, _, _, .lst (.of upd_same) (prs2.same s3).dp, .lst (.of (s3 _ _ (s2 _ _ eL))) ((prs.same s2).same s3).dp, shaped_pairs _ _, shaped_pairs _ _, ?_⟩
      have e : PyData.eqv (.list ((lefts r z n).map (pairD n))) (.list ((lefts r z n).map (pairD n))) = true := by
        rw [PyData.eqv]
        exact eqv_pairs _ _
      rw [e]
      exact q _ (s1.trans (sm.trans (s2.trans s3)))
end
end K69
/-! The law's pot of draws. -/
namespace K69
open PySem PySem.Spec PyProof.Rows L2
abbrev sPot : Stmt := topS 19
abbrev sDip : Stmt := topS 20
abbrev sPick : Stmt := topS 21
theorem scPot : FnScope ["_law_script", "_law_at", "_law_cell", "_law_great", "_law_mixed"] ["_law_script", "_law_at"] (defScope sPot) := ⟨rfl, rfl, rfl, by decide +kernel, rfl, by decide +kernel, by decide +kernel⟩
theorem scDip : FnScope ["_law_pot_here", "_law_total", "_law_found", "_law_one", "_law_two"] ["_law_pot_here", "_law_total"] (defScope sDip) := ⟨rfl, rfl, rfl, by decide +kernel, rfl, by decide +kernel, by decide +kernel⟩
theorem scPick : FnScope ["_law_pot_here", "_law_items"] ["_law_pot_here", "_law_items"] (defScope sPick) := ⟨rfl, rfl, rfl, by decide +kernel, rfl, by decide +kernel, by decide +kernel⟩
/-- ** of a great number -/
def CPowW (i j : Int) : Prop := 0 ≤ j ∧ (Builtin.Int.intBits i : Int) * j ≤ 2 ^ 27
theorem op_powW {X : Cx} : OpR X (binaryOp .Pow) (rI CPowW fun i j => .int (i ^ j.toNat)) := opI fun _ _ _ _ _ _ _ hc q => pow_int hc.1 hc.2 q
def spPot (K : PySem.W.Frag) : Sp := fun vs H Q _ => ∃ (a : Addr) (ns : List Int) (i : Int), vs = [.ref a, .int i] ∧ SqL K H a (ns.map V.int) ∧ ns.length ≤ 63 ∧ 0 ≤ i ∧ i ≤ 3 ∧ ∀ p x y, H p = none → 0 ≤ x → 0 ≤ y → y < 2305843009213693951 → Q (.ref p) (upd H p (.lst [.int x, .int y, .int 0]))
theorem nth_of {l : List Int} {i : Int} (h0 : 0 ≤ i) (h1 : i < (l.length : Int)) : ∃ z, atI (l.map V.int) i = some (.int z) := by
  have hl : i.toNat < l.length := by omega
  exact ⟨l[i.toNat], at_of (j := i.toNat) (by omega) (by rw [List.getElem?_map, List.getElem?_eq_getElem hl]; rfl)⟩
theorem len_map {l : List Int} : ((l.map V.int).length : Int) = (l.length : Int) := by rw [List.length_map]
theorem mod_nn {a b : Int} (h : 0 < b) : 0 ≤ a % b := Int.emod_nonneg _ (by omega)
theorem mod_lt {a b : Int} (h : 0 < b) : a % b < b := Int.emod_lt_of_pos _ h
/-- int(e) -/
abbrev tIntC (t : TE) : TE := tCB (fun xs H Q => (∃ i, xs = [.int i] ∧ Q (.int i) H) ∨ ∃ k, xs = [.bl k] ∧ Q (.int (if k then 1 else 0)) H) (tCons t tNil)
abbrev oMod (a b : TE) : TE := tOp (rI (fun _ j => 0 < j) fun i j => .int (i % j)) a b
abbrev oAdd (a b : TE) : TE := tOp (rI0 fun i j => .int (i + j)) a b
abbrev oSub (a b : TE) : TE := tOp (rI0 fun i j => .int (i - j)) a b
abbrev oMul (a b : TE) : TE := tOp (rI CMul fun i j => .int (i * j)) a b
abbrev oPow (a b : TE) : TE := tOp (rI CPow fun i j => .int (i ^ j.toNat)) a b
/-- the pot's end: the list -/
def tPotList : TS := tRet (tLst (tCons (tCB (fun xs H Q => ∃ i j, xs = [.int i, .int j] ∧ Q (.int (if j > i then j else i)) H) (tCons (tC (.int 0)) (tCons (oAdd (oSub (tVar 3) (oPow (tC (.int 10)) (tC (.int 16)))) (tC (.int 1))) tNil)))
    (tCons (oMod (tIntC (tVar 4)) (tC (.int 2305843009213693951))) (tCons (tC (.int 0)) tNil))))
def tPotMixed : TS := tSeq (tAsg (oAdd (oAdd (oAdd (oMul (oMod (tIntC (tVar 3)) (tC (.int 2305843009213693669))) (tC (.int 90017))) (oMul (tC (.int 8009)) (tVar 1))) (oMul (tC (.int 31)) (tIntC (tOp (rI0 fun i j => .bl (decide (i < j))) (tVar 2) (tC (.int 0)))))) (tC (.int 43))) (gName 4)) tPotList
/-- the pot's end, from its third name on -/
def tPotTail : TS := tSeq (tAsg (oMod (tIntC (tCB (fun xs H Q => ∃ i, xs = [.int i] ∧ Q (.int (if i < 0 then -i else i)) H) (tCons (tVar 2) tNil))) (tOp (rI CPowW fun i j => .int (i ^ j.toNat)) (oPow (tC (.int 10)) (tC (.int 59))) (tC (.int 8)))) (gName 3)) tPotMixed
theorem pot_pow : (0 : Int) < ((10 : Int) ^ (59 : Int).toNat) ^ (8 : Int).toNat := by decide +kernel
theorem pot_bits : CPowW ((10 : Int) ^ (59 : Int).toNat) 8 := ⟨by decide, by decide +kernel⟩
theorem ok_pot_list {a : Addr} {i cell great z : Int} {H : Hp} {D : Ends} (q : ∀ p x y, H p = none → 0 ≤ x → 0 ≤ y → y < 2305843009213693951 → D.rt (.ref p) (upd H p (.lst [.int x, .int y, .int 0]))) :
    tPotList D [some (.ref a), some (.int i), some (.int cell), some (.int great), some (.int z)] H := by
  refine ⟨_, rfl, _, _, rfl, rfl, ⟨by decide, by decide, by decide⟩, _, _, rfl, rfl, _, _, rfl, rfl, _, _, rfl, ?_⟩
  refine ⟨_, rfl, .inl ⟨_, rfl, _, _, rfl, rfl, (by show (0 : Int) < 2305843009213693951; decide), (by show 3 ≤ sizeLine; decide), fun p np => ?_⟩⟩
  refine q p _ _ np ?_ (mod_nn (by decide)) (mod_lt (by decide))
  split <;> omega
theorem ok_pot_mixed {a : Addr} {i cell great : Int} {H : Hp} {D : Ends} (q : ∀ p x y, H p = none → 0 ≤ x → 0 ≤ y → y < 2305843009213693951 → D.rt (.ref p) (upd H p (.lst [.int x, .int y, .int 0]))) :
    tPotMixed D [some (.ref a), some (.int i), some (.int cell), some (.int great), none] H := by
  refine ⟨_, rfl, .inl ⟨_, rfl, _, _, rfl, rfl, (by show (0 : Int) < 2305843009213693669; decide), _, _, rfl, rfl, .inr ⟨by decide, by decide⟩, _, rfl, _, _, rfl, rfl, .inl ⟨by decide, by decide⟩, _, _, rfl, rfl, ?_⟩⟩
  refine ⟨_, rfl, _, _, rfl, rfl, .inr ⟨_, rfl, _, _, rfl, rfl, .inl ⟨by decide, by decide⟩, _, _, rfl, rfl, _, _, rfl, rfl, ?_⟩⟩
  exact ok_pot_list q
theorem ok_pot_tail {a : Addr} {i cell : Int} {H : Hp} {D : Ends} (q : ∀ p x y, H p = none → 0 ≤ x → 0 ≤ y → y < 2305843009213693951 → D.rt (.ref p) (upd H p (.lst [.int x, .int y, .int 0]))) :
    tPotTail D [some (.ref a), some (.int i), some (.int cell), none, none] H := by
  refine ⟨_, rfl, _, rfl, .inl ⟨_, rfl, ?_⟩⟩
  refine ⟨_, _, rfl, rfl, ⟨by decide, by decide, by decide⟩, _, _, rfl, rfl, pot_bits, _, _, rfl, rfl, pot_pow, ?_⟩
  exact ok_pot_mixed q
section
variable {P : Program} {w : World} {K : PySem.W.Frag} {mg : Str → Option Value} {base : Heap}
theorem ok_pot {f : Addr} {fd : FuncData} {k : Nat} (F : Fun K "_law_pot" "_law_pot" sPot f fd) (T : Txt mg) : FnOk P w K mg base CX0 (k + 1) f fd ["_law_script", "_law_at"] (spPot K) := by
  refine F.ok scPot (fun vs H Q E h => ?_) (fun cdv A outer s H vs Q E hr h => ?_)
  · obtain ⟨a, ns, i, rfl, _⟩ := h
    rfl
  · obtain ⟨a, ns, i, rfl, hS, hlen, i0, i3, q⟩ := h
    refine ⟨_, pss_cons (ps_set (i := 2) scPot.nd rfl (.inl rfl) (pe_ifExp (pt_cmpR op_lt (pv 1) (pe_callB call_len_seq (by rfl) T.len PySem.boot_len (pa_cons (pv 0) pa_nil)) (nomark _)) (pe_ix ix_list (pv 0) (pv 1) (fun _ _ => rfl)) (pe_op op_add (pe_op op_mul pe_int (pv 1)) pe_int)))
      (pss_cons (ps_set (i := 3) scPot.nd rfl (.inl rfl) (pe_op op_mod (pe_callTy call_int1 (by rfl) T.int boot_tint (pa_cons (pe_callB call_abs (by rfl) T.abs (by decide +kernel) (pa_cons (pv 2) pa_nil)) pa_nil)) (pe_op op_powW (pe_op op_pow pe_int pe_int) pe_int)))
      (pss_cons (ps_set (i := 4) scPot.nd rfl (.inl rfl) (pe_op op_add (pe_op op_add (pe_op op_add (pe_op op_mul (pe_op op_mod (pe_callTy call_int1 (by rfl) T.int boot_tint (pa_cons (pv 3) pa_nil)) pe_int) pe_int) (pe_op op_mul pe_int (pv 1)))
          (pe_op op_mul pe_int (pe_callTy call_int1 (by rfl) T.int boot_tint (pa_cons (pe_cmpR op_lt (pv 2) pe_int (nomark _)) pa_nil)))) pe_int))
      (pss_one (ps_ret (pe_lst (pa_cons (pe_callB (call_max2 rfl) (by rfl) T.max (by decide +kernel) (pa_cons pe_int (pa_cons (pe_op op_add (pe_op op_sub (pv 3) (pe_op op_pow pe_int pe_int)) pe_int) pa_nil)))
        (pa_cons (pe_op op_mod (pe_callTy call_int1 (by rfl) T.int boot_tint (pa_cons (pv 4) pa_nil)) pe_int) (pa_cons pe_int pa_nil)))))))), ?_⟩
    refine ⟨_, rfl, _, rfl, a, _, rfl, .inl hS, _, _, rfl, rfl, _, rfl, ?_⟩
    refine ite2 (fun hb => ?_) (fun hb => ?_)
    · have hb := of_decide_eq_true hb
      rw [len_map] at hb
      obtain ⟨cell, hc⟩ := nth_of i0 hb
      refine ⟨_, rfl, _, rfl, a, _, i, .int cell, rfl, rfl, hS, hc, ?_⟩
      exact ok_pot_tail q
    · refine ⟨_, rfl, _, _, rfl, rfl, .inl ⟨by decide, by decide⟩, _, _, rfl, rfl, ?_⟩
      exact ok_pot_tail q
end
end K69
/-! Draws out of the pot. -/
namespace K69
open PySem PySem.Spec PyProof.Rows L2
/-- a pot stands at p -/
def PotAt (H : Hp) (p : Addr) (a b c : Int) : Prop := H p = some (.lst [.int a, .int b, .int c]) ∧ 0 ≤ b ∧ b < 2305843009213693951 ∧ 0 ≤ c ∧ c ≤ 1000
def spDip : Sp := fun vs H Q _ => ∃ (p : Addr) (m a b c : Int), vs = [.ref p, .int m] ∧ PotAt H p a b c ∧ 1 ≤ m ∧ m ≤ 4000 ∧ ∀ v a' c', 0 ≤ v → v < m → c ≤ c' → c' ≤ c + 1 → Q (.int v) (upd H p (.lst [.int a', .int b, .int c']))
def spPick : Sp := fun vs H Q _ => ∃ (p l : Addr) (ks : List Int) (a b c : Int), vs = [.ref p, .ref l] ∧ PotAt H p a b c ∧ l ≠ p ∧ H l = some (.lst (ks.map V.int)) ∧ 1 ≤ ks.length ∧ ks.length ≤ 4000 ∧ ∀ v a' c', v ∈ ks → c ≤ c' → c' ≤ c + 1 → Q (.int v) (upd H p (.lst [.int a', .int b, .int c']))
section
variable {P : Program} {w : World} {K : PySem.W.Frag} {mg : Str → Option Value} {base : Heap}
theorem ok_dip {f : Addr} {fd : FuncData} {k : Nat} (F : Fun K "_law_dip" "_law_dip" sDip f fd) (T : Txt mg) : FnOk P w K mg base CX0 (k + 1) f fd ["_law_pot_here", "_law_total"] spDip := by
  refine F.ok scDip (fun vs H Q E h => ?_) (fun cdv A outer s H vs Q E hr h => ?_)
  · obtain ⟨p, m, a, b, c, rfl, _⟩ := h
    rfl
  · obtain ⟨p, m, a, b, c, rfl, ⟨hp, b0, b1, c0, c1⟩, m1, m2, q⟩ := h
    refine ⟨_, pss_cons (ps_if (pt_cmpR op_gt (pe_ix ix_list (pv 0) pe_int (fun _ _ => rfl)) pe_int (nomark _))
        (pss_cons (ps_set (i := 2) scDip.nd rfl (.inl rfl) (pe_op op_mod (pe_callTy call_int1 (by rfl) T.int boot_tint (pa_cons (pe_ix ix_list (pv 0) pe_int (fun _ _ => rfl)) pa_nil)) (pv 1)))
          (pss_cons (ps_asg (pe_op op_fdiv (pe_ix ix_list (pv 0) pe_int (fun _ _ => rfl)) (pv 1)) (pg_sub (pv 0) pe_int set_list)) (pss_one (ps_ret (pv 2))))) pss_nil)
      (pss_cons (ps_asg (pe_op op_add (pe_ix ix_list (pv 0) pe_int (fun _ _ => rfl)) pe_int) (pg_sub (pv 0) pe_int set_list))
      (pss_cons (ps_set (i := 3) scDip.nd rfl (.inl rfl) (pe_op op_mod (pe_callTy call_int1 (by rfl) T.int boot_tint (pa_cons (pe_op op_add (pe_ix ix_list (pv 0) pe_int (fun _ _ => rfl)) (pe_op op_mul pe_int (pe_ix ix_list (pv 0) pe_int (fun _ _ => rfl)))) pa_nil)) pe_int))
      (pss_cons (ps_set (i := 4) scDip.nd rfl (.inl rfl) (pe_op op_add (pe_op op_mul (pe_op op_mod (pe_callTy call_int1 (by rfl) T.int boot_tint (pa_cons (pe_op op_mul (pv 3) (pv 3)) pa_nil)) pe_int) (pv 3)) (pe_op op_mul pe_int (pe_ix ix_list (pv 0) pe_int (fun _ _ => rfl)))))
      (pss_one (ps_ret (pe_op op_mod (pe_callTy call_int1 (by rfl) T.int boot_tint (pa_cons (pe_op op_fdiv (pe_op op_mod (pe_callTy call_int1 (by rfl) T.int boot_tint (pa_cons (pv 4) pa_nil)) pe_int) pe_int) pa_nil)) (pv 1))))))), ?_⟩
    have i0 : atI [V.int a, .int b, .int c] 0 = some (.int a) := atI_nat (j := 0) rfl
    have i2 : atI [V.int a, .int b, .int c] 2 = some (.int c) := atI_nat (j := 2) rfl
    refine ⟨_, rfl, p, _, 0, .int a, rfl, rfl, .of hp, i0, _, _, rfl, rfl, _, rfl, ite2 (fun h1 => ?_) (fun h1 => ?_)⟩
    · -- the digits
      refine ⟨_, rfl, p, _, 0, .int a, rfl, rfl, .of hp, i0, .inl ⟨_, rfl, _, rfl, _, _, rfl, rfl, (by show (0 : Int) < m; omega), ?_⟩⟩
      refine ⟨_, rfl, p, _, 0, .int a, rfl, rfl, .of hp, i0, _, rfl, _, _, rfl, rfl, ⟨by omega, by omega⟩, _, rfl, p, _, 0, 0, rfl, rfl, hp, rfl, _, rfl, ?_⟩
      exact q (a % m) (a / m) c (mod_nn (by omega)) (mod_lt (by omega)) (Int.le_refl _) (by omega)
    · -- the mixer
      refine ⟨_, rfl, p, _, 2, .int c, rfl, rfl, .of hp, i2, _, _, rfl, rfl, _, rfl, p, _, 2, 2, rfl, rfl, hp, rfl, ?_⟩
      have hq : ∀ v, 0 ≤ v → v < m → Q (.int v) (upd H p (.lst [.int a, .int b, .int (c + 1)])) := fun v v0 v1 => q v a (c + 1) v0 v1 (by omega) (by omega)
      have j1 : atI [V.int a, .int b, .int (c + 1)] 1 = some (.int b) := atI_nat (j := 1) rfl
      have j2 : atI [V.int a, .int b, .int (c + 1)] 2 = some (.int (c + 1)) := atI_nat (j := 2) rfl
      have hp2 : (upd H p (.lst [.int a, .int b, .int (c + 1)])) p = some (.lst [.int a, .int b, .int (c + 1)]) := upd_same
      refine ⟨_, rfl, p, _, 1, .int b, rfl, rfl, .of hp2, j1, _, rfl, p, _, 2, .int (c + 1), rfl, rfl, .of hp2, j2, _, _, rfl, rfl, .inl ⟨by decide, by decide⟩, _, _, rfl, rfl, .inl ⟨_, rfl, _, _, rfl, rfl, (by show (0 : Int) < 2305843009213693951; decide), ?_⟩⟩
      have o0 : 0 ≤ (b + 1000171 * (c + 1)) % 2305843009213693951 := mod_nn (by decide)
      have o1 : (b + 1000171 * (c + 1)) % 2305843009213693951 < 2305843009213693951 := mod_lt (by decide)
      refine ⟨_, rfl, _, rfl, _, _, rfl, rfl, .inl ⟨by omega, by omega⟩, .inl ⟨_, rfl, _, _, rfl, rfl, (by show (0 : Int) < 2305843009213693907; decide), _, rfl, _, _, rfl, rfl, .inl ⟨?_, ?_⟩, ?_⟩⟩
      · exact Int.lt_of_lt_of_le (by decide) (mod_nn (by decide))
      · exact Int.lt_trans (mod_lt (by decide)) (by decide)
      refine ⟨_, rfl, p, _, 2, .int (c + 1), rfl, rfl, .of hp2, j2, _, _, rfl, rfl, .inl ⟨by decide, by decide⟩, _, _, rfl, rfl, ?_⟩
      refine ⟨_, rfl, .inl ⟨_, rfl, _, _, rfl, rfl, (by show (0 : Int) < 2305843009213693921; decide), _, _, rfl, rfl, ⟨by decide, by decide⟩, .inl ⟨_, rfl, _, rfl, _, _, rfl, rfl, (by show (0 : Int) < m; omega), ?_⟩⟩⟩
      exact hq _ (mod_nn (by omega)) (mod_lt (by omega))
theorem ok_pick {f fD : Addr} {fd fdD : FuncData} {k : Nat} (F : Fun K "_law_pick" "_law_pick" sPick f fd) (T : Txt mg) (GD : FnOk P w K mg base CX0 (k + 1) fD fdD ["_law_pot_here", "_law_total"] spDip) (kD : PySem.W.keepIn K (.ref fD) = true) (bD : Binds K fdD ["_law_pot_here", "_law_total"] []) (gD : mg "_law_dip" = some (.ref fD)) :
    FnOk P w K mg base CX0 (k + 2) f fd ["_law_pot_here", "_law_items"] spPick := by
  refine F.ok scPick (fun vs H Q E h => ?_) (fun cdv A outer s H vs Q E hr h => ?_)
  · obtain ⟨p, l, ks, a, b, c, rfl, _⟩ := h
    rfl
  · obtain ⟨p, l, ks, a, b, c, rfl, hp, ne, hl, n1, n2, q⟩ := h
    refine ⟨_, pss_one (ps_ret (pe_ix ix_list (pv 1) (pe_call GD hr (by rfl) gD kD bD .nil pass0 (pa_cons (pv 0) (pa_cons (pe_callB call_len_seq (by rfl) T.len PySem.boot_len (pa_cons (pv 1) pa_nil)) pa_nil))) (fun _ _ => rfl))), ?_⟩
    refine ⟨_, rfl, _, rfl, _, rfl, l, _, rfl, .inl (.of hl), p, _, a, b, c, rfl, hp, ?_, ?_, fun v a' c' v0 v1 e1 e2 => ?_⟩
    · rw [len_map]
      omega
    · rw [len_map]
      omega
    · rw [len_map] at v1
      have hv : v.toNat < ks.length := by omega
      refine ⟨l, ks.map V.int, v, .int ks[v.toNat], rfl, rfl, .of (by rw [upd_ne ne]; exact hl), at_of (j := v.toNat) (by omega) (by rw [List.getElem?_map, List.getElem?_eq_getElem hv]; rfl), ?_⟩
      exact q _ a' c' (List.getElem_mem hv) e1 e2
end
end K69
/-! One pair of sizes and one number looked at. -/
namespace K69
open PySem PySem.Spec PyProof.Rows L2
abbrev sOne : Stmt := topS 26
theorem scOne : FnScope ["_law_pot_here", "_law_r", "_law_s", "_law_n", "_law_odds_here", "_law_told", "_law_some", "_law_value", "_law_due"] ["_law_pot_here", "_law_r", "_law_s", "_law_n"] (defScope sOne) := ⟨rfl, rfl, rfl, by decide +kernel, rfl, by decide +kernel, by decide +kernel⟩
/-! ### what stood stands, the table may have grown -/
def Kp (PT : Addr) (H H' : Hp) : Prop := (∀ b o, H b = some o → (∀ ps, o ≠ .tbl ps) → H' b = some o) ∧ GxR.TabG H' PT
theorem tab_same {H H' : Hp} {PT : Addr} (s : Same H H') (t : GxR.TabG H PT) : GxR.TabG H' PT := by
  obtain ⟨ps, a, b⟩ := t
  exact ⟨ps, s _ _ a, b⟩
theorem Kp.of_same {H H' : Hp} {PT : Addr} (s : Same H H') (t : GxR.TabG H PT) : Kp PT H H' := ⟨fun b o e _ => s b o e, tab_same s t⟩
theorem Kp.of_tabbed {H H' : Hp} {PT : Addr} (x : GxR.Tabbed PT H H') (t : GxR.TabG H PT) : Kp PT H H' := by
  obtain ⟨ps, a, _⟩ := t
  refine ⟨fun b o e n => ?_, x.1⟩
  rw [x.2 b fun z => n ps (Option.some.inj (e.symm.trans (by rw [z]; exact a)))]
  exact e
theorem Kp.trans {H H1 H2 : Hp} {PT : Addr} (a : Kp PT H H1) (b : Kp PT H1 H2) : Kp PT H H2 := ⟨fun c o e n => b.1 c o (a.1 c o e n) n, b.2⟩
theorem Kp.lst {H H' : Hp} {PT b : Addr} {xs : List V} (k : Kp PT H H') (e : H b = some (.lst xs)) : H' b = some (.lst xs) := k.1 _ _ e fun ps z => by cases z
theorem Kp.tup {H H' : Hp} {PT b : Addr} {xs : List V} (k : Kp PT H H') (e : H b = some (.tup xs)) : H' b = some (.tup xs) := k.1 _ _ e fun ps z => by cases z
theorem Kp.new {H H1 : Hp} {PT p : Addr} {o : HO} (k : Kp PT H H1) (n : H1 p = none) : Kp PT H (upd H1 p o) := k.trans (.of_same (same_upd n) k.2)
/-! ### data -/
theorem dp_ints {K : PySem.W.Frag} {H : Hp} : ∀ ks : List Int, DpAll K H (ks.map V.int) (ks.map PyData.int)
  | [] => .nil
  | k :: ks => .cons (.int k) (dp_ints ks)
theorem lay_ints : ∀ ks : List Int, PyData.canLayAll0 (ks.map PyData.int) = true ∧ PyData.depthAll (ks.map PyData.int) ≤ 1
  | [] => by simp [PyData.canLayAll0, PyData.depthAll]
  | k :: ks => by
    have b := lay_ints ks
    simp only [List.map_cons, PyData.canLayAll0, PyData.depthAll, PyData.canLay0, PyData.depth, b.1, Bool.and_self, true_and]
    omega
theorem shaped_ints (ks : List Int) : SeqAt.shaped (.list (ks.map PyData.int)) = true := by
  have a := lay_ints ks
  unfold SeqAt.shaped
  have e : (PyData.list (ks.map PyData.int)).depth ≤ 2 := by
    simp only [PyData.depth]
    omega
  simp only [PyData.canLay0, a.1, Bool.true_and, decide_eq_true_eq]
  omega
theorem eqv_nil (ks : List Int) : PyData.eqv (.list (ks.map PyData.int)) (.list []) = ks.isEmpty := by
  cases ks <;> simp [PyData.eqv, PyData.eqvAll]
theorem flat_ints (ks : List Int) : (ks.map V.int).all flatV = true := by
  rw [List.all_map, List.all_eq_true]
  intro x _
  rfl
theorem in_ints (k : Int) : ∀ ks : List Int, inV (.int k) (ks.map V.int) = decide (k ∈ ks)
  | [] => rfl
  | x :: ks => by
    have ih := in_ints k ks
    unfold inV at ih ⊢
    rw [List.map_cons, List.any_cons, ih]
    show ((x == k) || decide (k ∈ ks)) = decide (k ∈ x :: ks)
    rw [Bool.eq_iff_iff]
    simp only [Bool.or_eq_true, beq_iff_eq, decide_eq_true_eq, List.mem_cons]
    constructor
    · rintro (h | h)
      · exact .inl h.symm
      · exact .inr h
    · rintro (h | h)
      · exact .inl h.symm
      · exact .inr h
theorem judge_mem {r s n k : Int} : decide (k ∈ odds r s n) = judge r s n (.int k) := by
  show _ = (decide (n - r < k) && (decide (k < s) && oddI n k))
  rw [Bool.eq_iff_iff]
  simp only [decide_eq_true_eq, Bool.and_eq_true, mem_odds]
theorem empty_none {r s n : Int} : (least r s n).isNone = (odds r s n).isEmpty := by
  have h := @least_none r s n
  rw [Bool.eq_iff_iff, Option.isNone_iff_eq_none, List.isEmpty_iff]
  exact h
def spOne (PT : Addr) : Sp := fun vs H Q _ => ∃ (v0 : V) (r s n : Int), vs = [v0, .int r, .int s, .int n] ∧ Dims r s n ∧ GxR.TabG H PT ∧ ∀ H', Kp PT H H' → Q (.bl true) H'
section
variable {P : Program} {w : World} {K : PySem.W.Frag} {mg : Str → Option Value} {base : Heap}
theorem told_test {r z n : Int} {o : Addr} {H : Hp} {σ : L2.St} {R : Bool → Hp → Prop} (hR : R false H) (eo : H o = some (.lst ((odds r z n).map V.int))) (h5 : σ[5]? = some (some (optV (least r z n)))) (h4 : σ[4]? = some (some (.ref o))) :
    tAnd (tB (tNotN (tVar 5))) (tTest (tOp (rIn K true) (tVar 5) (tVar 4))) σ H R := by
  refine ⟨_, h5, _, rfl, ?_⟩
  cases e : least r z n with
  | none => exact hR
  | some k =>
    refine iteT ⟨_, h5, _, h4, o, _, rfl, .inl (.of eo), ?_, flat_ints _, false, ?_, hR⟩
    · rw [e]
      rfl
    · rw [e]
      have hm : k ∈ odds r z n := least_some e
      show V.bl (!inV (.int k) ((odds r z n).map V.int)) = .bl false
      rw [in_ints, decide_eq_true hm]
      rfl
theorem ok_one {f fO fB fL fI : Addr} {fd fdO fdB fdL fdI : FuncData} {k : Nat} {PT : Addr} (F : Fun K "_law_one_right" "_law_one_right" sOne f fd) (T : Txt mg)
    (GO : FnOk P w K mg base CX0 (k + 2) fO fdO ["_law_r", "_law_s", "_law_n"] spLOdds) (kO : PySem.W.keepIn K (.ref fO) = true) (bO : Binds K fdO ["_law_r", "_law_s", "_law_n"] []) (gO : mg "_law_odds" = some (.ref fO))
    (GB : FnOk P w K mg base CX0 (k + 6) fB fdB ["r", "s", "n"] (spIndex PT)) (kB : PySem.W.keepIn K (.ref fB) = true) (bB : Binds K fdB ["r", "s", "n"] []) (gB : mg "odd_binomial" = some (.ref fB))
    (GL : FnOk P w K mg base CX0 (k + 6) fL fdL ["r", "s", "n"] (spLet PT)) (kL : PySem.W.keepIn K (.ref fL) = true) (bL : Binds K fdL ["r", "s", "n"] []) (gL : mg "is_let" = some (.ref fL))
    (GI : FnOk P w K mg base CX0 (k + 6) fI fdI ["r", "s", "n", "value"] spIsBinom) (kI : PySem.W.keepIn K (.ref fI) = true) (bI : Binds K fdI ["r", "s", "n", "value"] []) (gI : mg "is_odd_binomial" = some (.ref fI)) :
    FnOk P w K mg base CX0 (k + 7) f fd ["_law_pot_here", "_law_r", "_law_s", "_law_n"] (spOne PT) := by
  refine F.ok scOne (fun vs H Q E h => ?_) (fun cdv A outer s H vs Q E hr h => ?_)
  · obtain ⟨v0, r, z, n, rfl, _⟩ := h
    rfl
  · obtain ⟨v0, r, z, n, rfl, D, hT, q⟩ := h
    have hr2 : Room (k + 2) (A.deeper (envOfC "_law_one_right" (defScope sOne) s.heap.objs.size f cdv)) := hr.mono (by omega)
    refine ⟨_, pss_cons (ps_par (i := 4) (j := 5) rfl scOne.nd rfl rfl (by decide) rfl rfl (pa_cons (pe_call GO hr2 (by rfl) gO kO bO .nil pass0 (pa_cons (pv 1) (pa_cons (pv 2) (pa_cons (pv 3) pa_nil))))
        (pa_cons (pe_call GB hr (by rfl) gB kB bB .nil pass0 (pa_cons (pv 1) (pa_cons (pv 2) (pa_cons (pv 3) pa_nil)))) pa_nil)) (by rfl))
      (pss_cons (ps_if (PW.pt (pw_or (pt_cmpR op_ne (pe_call GL hr (by rfl) gL kL bL .nil pass0 (pa_cons (pv 1) (pa_cons (pv 2) (pa_cons (pv 3) pa_nil)))) (pe_cmpR (op_eqD hr.units) (pv 4) (pe_lst pa_nil) (nomark _)) (nomark _))
          (pw_or1 (pt_cmpR op_ne (pe_cmp (pc_isN (pv 5))) (pe_cmpR (op_eqD hr.units) (pv 4) (pe_lst pa_nil) (nomark _)) (nomark _))))) (pss_one (ps_ret pe_bl)) pss_nil)
      (pss_cons (ps_if (PW.pt (pw_and (pt_cmp (pc_notN (pv 5))) (pw_and1 (pt_cmpR op_notIn_seq (pv 5) (pv 4) (by rfl))))) (pss_one (ps_ret pe_bl)) pss_nil)
      (pss_cons (ps_set (i := 6) scOne.nd rfl (.inl rfl) (pe_lst (pa_cons (pv 5) (pa_cons pe_int (pa_cons (pv 3) (pa_cons (pe_op op_sub (pv 2) pe_int) (pa_cons (pv 2) (pa_cons (pe_op op_sub (pv 3) (pv 1))
          (pa_cons (pe_op op_add (pe_op op_sub (pv 3) (pv 1)) pe_int) (pa_cons (pe_un un_neg pe_int) (pa_cons pe_bl (pa_cons pe_non (pa_cons pe_str (pa_cons (pe_tup (pa_cons pe_int pa_nil))
          (pa_cons (pe_op op_mulW (pe_op op_pow pe_int pe_int) (pe_op op_pow pe_int pe_int)) (pa_cons pe_int (pa_cons (pe_op op_fdiv (pv 3) pe_int) (pa_cons (pe_op op_add (pv 3) pe_int) pa_nil))))))))))))))))))
      (pss_cons (ps_for PassesOwn.never rfl (pi_list (pe_op op_cat (pv 6) (pe_slice sl_list (pv 4) po_none (po_some pe_int)))) (pg_name (i := 7) scOne.nd rfl (.inl rfl))
        (pss_cons (ps_set (i := 8) scOne.nd rfl (.inl rfl) (pe_and (pe_callB call_isi (by rfl) T.isinstance boot_isinstance (pa_cons (pv 7) (pa_cons (pe_bltn (v := .ty "int") (by rfl) T.int boot_tint rfl) pa_nil)))
            (pe_and (pe_not (pe_callB call_isi (by rfl) T.isinstance boot_isinstance (pa_cons (pv 7) (pa_cons (pe_bltn (v := .ty "bool") (by rfl) T.bool boot_tbool rfl) pa_nil)))) (pe_one (pe_cmpR op_in_seq (pv 7) (pv 4) (by rfl))))))
          (pss_one (ps_if (pt_cmpR op_ne (pe_call GI hr (by rfl) gI kI bI .nil pass0 (pa_cons (pv 1) (pa_cons (pv 2) (pa_cons (pv 3) (pa_cons (pv 7) pa_nil))))) (pv 8) (nomark _)) (pss_one (ps_ret pe_bl)) pss_nil))))
      (pss_one (ps_ret pe_bl)))))), ?_⟩
    refine ⟨_, rfl, _, rfl, _, rfl, r, z, n, rfl, D, fun H1 o s1 no eo => ?_⟩
    have k1 : Kp PT H H1 := .of_same s1 hT
    refine ⟨_, rfl, _, rfl, _, rfl, r, z, n, rfl, D, k1.2, fun H2 tb2 => ?_⟩
    have k2 : Kp PT H1 H2 := .of_tabbed tb2 k1.2
    have eo2 := k2.lst eo
    refine ⟨_, _, rfl, ?_⟩
    -- the first test
    refine ⟨_, rfl, _, rfl, _, rfl, r, z, n, rfl, D, k2.2, fun H3 tb3 => ?_⟩
    have k3 : Kp PT H2 H3 := .of_tabbed tb3 k2.2
    have eo3 := k3.lst eo2
    refine ⟨_, rfl, Nat.zero_le _, fun q1 n1 => ?_⟩
    have k4 : Kp PT H3 (upd H3 q1 (.lst [])) := k3.2 |> fun t => .of_same (same_upd n1) t
    have e1 : (upd H3 q1 (.lst [])) q1 = some (.lst []) := upd_same
    generalize upd H3 q1 (.lst []) = H4 at k4 e1
    have eo4 := k4.lst eo3
    refine ⟨_, _, .lst (.of eo4) (dp_ints _), .lst (.of e1) .nil, shaped_ints _, shaped_ints [], rfl, _, rfl, iteNS (by rw [eqv_nil, empty_none]) ?_⟩
    refine ⟨_, rfl, _, rfl, Nat.zero_le _, fun q2 n2 => ?_⟩
    have k5 : Kp PT H4 (upd H4 q2 (.lst [])) := .of_same (same_upd n2) k4.2
    have e2 : (upd H4 q2 (.lst [])) q2 = some (.lst []) := upd_same
    generalize upd H4 q2 (.lst []) = H5 at k5 e2
    have eo5 := k5.lst eo4
    refine ⟨_, _, .lst (.of eo5) (dp_ints _), .lst (.of e2) .nil, shaped_ints _, shaped_ints [], rfl, _, rfl, iteNS (by rw [eqv_nil, optV_non, empty_none]) ?_⟩
    -- the second
    refine told_test (r := r) (z := z) (n := n) (o := o) ?_ eo5 rfl rfl
    -- the values
    refine ⟨_, rfl, _, rfl, _, rfl, _, _, rfl, rfl, _, rfl, _, rfl, _, rfl, _, _, rfl, rfl, _, rfl, _, rfl, _, _, rfl, rfl, _, _, rfl, rfl, _, rfl, (by show 1 ≤ sizeLine; decide), fun t nt => ?_⟩
    have k6 : Kp PT H5 (upd H5 t (.tup [.int 1])) := .of_same (same_upd nt) k5.2
    have et : (upd H5 t (.tup [.int 1])) t = some (.tup [.int 1]) := upd_same
    generalize upd H5 t (.tup [.int 1]) = H6 at k6 et
    refine ⟨_, _, rfl, rfl, ⟨by decide, by decide, by decide⟩, _, _, rfl, rfl, ⟨by decide, by decide, by decide⟩, _, _, rfl, rfl, (by show _ < _; decide +kernel), _, rfl, _, _, rfl, rfl, ⟨by decide, by decide⟩, _, rfl, _, _, rfl, rfl, (by show 16 ≤ sizeLine; decide), fun ls nls => ?_⟩
    have hJ : ∀ x ∈ ([optV (least r z n), .int 0, .int n, .int (z - 1), .int z, .int (n - r), .int (n - r + 1), .int (-1), .bl true, .non, .str "1", .ref t, .int (10 ^ (60 : Int).toNat * 10 ^ (10 : Int).toNat), .int 1, .int (n / 2), .int (n + 1)] : List V), Judged H6 x := by
      have j0 : Judged H6 (optV (least r z n)) := by
        cases least r z n with
        | none => exact .non
        | some k => exact .int k
      have tail : ∀ {x : V} {l : List V}, Judged H6 x → (∀ y ∈ l, Judged H6 y) → ∀ y ∈ x :: l, Judged H6 y := fun h1 h2 => List.forall_mem_cons.mpr ⟨h1, h2⟩
      exact tail j0 (tail (.int _) (tail (.int _) (tail (.int _) (tail (.int _) (tail (.int _) (tail (.int _) (tail (.int _) (tail (.bl _) (tail .non (tail (.str _) (tail (.tup et) (tail (.int _) (tail (.int _) (tail (.int _) (tail (.int _) (fun y hy => nomatch hy))))))))))))))))
    have hL : ([optV (least r z n), .int 0, .int n, .int (z - 1), .int z, .int (n - r), .int (n - r + 1), .int (-1), .bl true, .non, .str "1", .ref t, .int (10 ^ (60 : Int).toNat * 10 ^ (10 : Int).toNat), .int 1, .int (n / 2), .int (n + 1)] : List V).length ≤ 16 := Nat.le_refl _
    generalize ([optV (least r z n), .int 0, .int n, .int (z - 1), .int z, .int (n - r), .int (n - r + 1), .int (-1), .bl true, .non, .str "1", .ref t, .int (10 ^ (60 : Int).toNat * 10 ^ (10 : Int).toNat), .int 1, .int (n / 2), .int (n + 1)] : List V) = xs at hJ hL ⊢
    have k7 : Kp PT H6 (upd H6 ls (.lst xs)) := .of_same (same_upd nls) k6.2
    have e7 : (upd H6 ls (.lst xs)) ls = some (.lst xs) := upd_same
    generalize upd H6 ls (.lst xs) = H7 at k7 e7
    have eo7 := k7.lst (k6.lst eo5)
    refine ⟨_, rfl, _, rfl, 3, rfl, o, _, rfl, .of eo7, fun c nc => ?_⟩
    have hcut : ∀ x ∈ cutV ((odds r z n).map V.int) none (some 3), ∃ i, x = V.int i := fun x hx => by
      have h1 := List.mem_of_mem_drop (List.mem_of_mem_take hx)
      obtain ⟨i, _, e⟩ := List.mem_map.mp h1
      exact ⟨i, e.symm⟩
    have hcl : (cutV ((odds r z n).map V.int) none (some 3)).length ≤ 1000 := by
      have a1 : (cutV ((odds r z n).map V.int) none (some 3)).length ≤ ((odds r z n).map V.int).length := by
        unfold cutV
        rw [List.length_take, List.length_drop]
        omega
      have a2 : ((odds r z n).map V.int).length ≤ 1000 := by
        rw [List.length_map]
        unfold odds
        have := List.length_filter_le (oddI n) (rng (max 0 (n - r + 1)) z)
        rw [rng_length] at this
        have := D.s2
        omega
      omega
    have k8 : Kp PT H7 (upd H7 c (.lst (cutV ((odds r z n).map V.int) none (some 3)))) := .of_same (same_upd nc) k7.2
    have ec : (upd H7 c (.lst (cutV ((odds r z n).map V.int) none (some 3)))) c = some (.lst (cutV ((odds r z n).map V.int) none (some 3))) := upd_same
    generalize cutV ((odds r z n).map V.int) none (some 3) = zs at k8 ec hcut hcl ⊢
    generalize upd H7 c (.lst zs) = H8 at k8 ec
    refine ⟨ls, c, xs, zs, rfl, rfl, k8.lst e7, ec, Nat.le_of_lt (small_of (by omega)), fun lf nlf => ?_⟩
    have k9 : Kp PT H8 (upd H8 lf (.lst (xs ++ zs))) := .of_same (same_upd nlf) k8.2
    have e9 : (upd H8 lf (.lst (xs ++ zs))) lf = some (.lst (xs ++ zs)) := upd_same
    generalize upd H8 lf (.lst (xs ++ zs)) = H9 at k9 e9
    have eo9 := k9.lst (k8.lst eo7)
    have hJ9 : ∀ x ∈ xs ++ zs, Judged H9 x := fun x hx => by
      rcases List.mem_append.mp hx with h | h
      · cases hJ x h with
        | non => exact .non
        | bl b => exact .bl b
        | int i => exact .int i
        | str y => exact .str y
        | tup e => exact .tup (k9.tup (k8.tup (k7.tup e)))
      · obtain ⟨i, rfl⟩ := hcut x h
        exact .int i
    refine ⟨lf, rfl, ⟨_, .of e9⟩, for_list (K := K) (a := lf) (xs := xs ++ zs) (fun i σ' H' => H' = H9 ∧ ∃ y7 y8, σ' = [some v0, some (.int r), some (.int z), some (.int n), some (.ref o), some (optV (least r z n)), some (.ref ls), y7, y8]) ⟨rfl, none, none, rfl⟩ (fun i σ' H' _ h => by rw [h.1]; exact .of e9) ?_ ?_⟩
    · rintro i x σ' H' hi ⟨rfl, y7, y8, rfl⟩
      have J := hJ9 x (List.mem_of_getElem? hi)
      cases J with
      | non => exact ⟨_, rfl, _, _, _, _, false, rfl, .ty "int", .base .non, kit_ty (by decide +kernel), false, rfl, iteF ⟨_, rfl, _, rfl, _, rfl, _, rfl, r, z, n, _, rfl, D, .non, _, rfl, rfl, _, rfl, iteNS rfl ⟨rfl, _, _, rfl⟩⟩⟩
      | str y => exact ⟨_, rfl, _, _, _, _, false, rfl, .ty "int", .base (.str y), kit_ty (by decide +kernel), false, rfl, iteF ⟨_, rfl, _, rfl, _, rfl, _, rfl, r, z, n, _, rfl, D, .str y, _, rfl, rfl, _, rfl, iteNS rfl ⟨rfl, _, _, rfl⟩⟩⟩
      | tup e => exact ⟨_, rfl, _, _, _, _, false, rfl, .ty "int", .base (.tup e), kit_ty (by decide +kernel), false, rfl, iteF ⟨_, rfl, _, rfl, _, rfl, _, rfl, r, z, n, _, rfl, D, .tup e, _, rfl, rfl, _, rfl, iteNS rfl ⟨rfl, _, _, rfl⟩⟩⟩
      | bl b => exact ⟨_, rfl, _, _, _, _, true, rfl, .ty "int", .base (.bl b), kit_ty (by decide +kernel), true, rfl, iteT ⟨_, rfl, _, _, _, _, true, rfl, .ty "bool", .base (.bl b), kit_ty (by decide +kernel), true, rfl, false, rfl, iteF ⟨_, rfl, _, rfl, _, rfl, _, rfl, r, z, n, _, rfl, D, .bl b, _, rfl, rfl, _, rfl, iteNS rfl ⟨rfl, _, _, rfl⟩⟩⟩⟩
      | int i =>
        refine ⟨_, rfl, _, _, _, _, true, rfl, .ty "int", .base (.int i), kit_ty (by decide +kernel), true, rfl, iteT ⟨_, rfl, _, _, _, _, false, rfl, .ty "bool", .base (.int i), kit_ty (by decide +kernel), false, rfl, true, rfl, iteT ?_⟩⟩
        refine ⟨_, rfl, _, rfl, o, _, rfl, .inl (.of eo9), rfl, flat_ints _, ?_⟩
        refine ⟨_, rfl, _, rfl, _, rfl, _, rfl, r, z, n, _, rfl, D, .int i, _, rfl, rfl, _, rfl, iteNS ?_ ⟨rfl, _, _, rfl⟩⟩
        show V.bl (judge r z n (.int i)) = V.bl (inV (.int i) ((odds r z n).map V.int))
        rw [in_ints, judge_mem]
    · rintro σ' H' ⟨rfl, y7, y8, rfl⟩
      exact q _ (k1.trans (k2.trans (k3.trans (k4.trans (k5.trans (k6.trans (k7.trans (k8.trans k9))))))))
end
end K69
/-! One pot's questions. -/
namespace K69
open PySem PySem.Spec PyProof.Rows L2
abbrev sRight : Stmt := topS 27
theorem scRight : FnScope ["_law_pot_here", "_law_most", "_law_r", "_law_s", "_law_n", "_law_far"] ["_law_pot_here"] (defScope sRight) := ⟨rfl, rfl, rfl, by decide +kernel, rfl, by decide +kernel, by decide +kernel⟩
/-- as Kp, but for the pot at p -/
def Kb (p PT : Addr) (H H' : Hp) : Prop := (∀ b o, b ≠ p → H b = some o → (∀ ps, o ≠ .tbl ps) → H' b = some o) ∧ GxR.TabG H' PT
theorem Kb.of {p PT : Addr} {H H' : Hp} (k : Kp PT H H') : Kb p PT H H' := ⟨fun b o _ => k.1 b o, k.2⟩
theorem Kb.trans {p PT : Addr} {H H1 H2 : Hp} (a : Kb p PT H H1) (b : Kb p PT H1 H2) : Kb p PT H H2 := ⟨fun c o n e t => b.1 c o n (a.1 c o n e t) t, b.2⟩
theorem Kb.set {p PT : Addr} {H : Hp} {xs ys : List V} (t : GxR.TabG H PT) (e : H p = some (.lst xs)) : Kb p PT H (upd H p (.lst ys)) := by
  obtain ⟨ps, a, b⟩ := t
  refine ⟨fun c o n h _ => by rw [upd_ne n]; exact h, ps, ?_, b⟩
  rw [upd_ne (ne_of a e fun z => by cases z)]
  exact a
theorem PotAt.next {H : Hp} {p : Addr} {a b c a' c' : Int} (h : PotAt H p a b c) (e1 : c ≤ c') (e2 : c' ≤ c + 1) (hc : c ≤ 900) : PotAt (upd H p (.lst [.int a', .int b, .int c'])) p a' b c' := by
  obtain ⟨h1, h2, h3, h4, h5⟩ := h
  exact ⟨upd_same, h2, h3, by omega, by omega⟩
theorem PotAt.kp {PT : Addr} {H H' : Hp} {p : Addr} {a b c : Int} (h : PotAt H p a b c) (k : Kp PT H H') : PotAt H' p a b c := ⟨k.lst h.1, h.2⟩
theorem PotAt.new {H : Hp} {p l : Addr} {o : HO} {a b c : Int} (h : PotAt H p a b c) (n : H l = none) : PotAt (upd H l o) p a b c := ⟨same_upd n _ _ h.1, h.2⟩
def spRight (PT : Addr) : Sp := fun vs H Q _ => ∃ (p : Addr) (a b c : Int), vs = [.ref p] ∧ PotAt H p a b c ∧ c ≤ 10 ∧ GxR.TabG H PT ∧ ∀ H', Kb p PT H H' → Q (.bl true) H'
section
variable {P : Program} {w : World} {K : PySem.W.Frag} {mg : Str → Option Value} {base : Heap}
/-- what n lets, n + 1 lets: the test is false, the table may have grown -/
theorem let_test {PT : Addr} {r z n : Int} {H : Hp} {σ : L2.St} {R : Bool → Hp → Prop} (D : Dims r z n) (D1 : Dims r z (n + 1)) (hT : GxR.TabG H PT) (h2 : σ[2]? = some (some (.int r))) (h3 : σ[3]? = some (some (.int z))) (h4 : σ[4]? = some (some (.int n))) (hR : ∀ H', Kp PT H H' → R false H') :
    tAnd (tB (tCall (spLet PT) [] E0 (tCons (tVar 2) (tCons (tVar 3) (tCons (tVar 4) tNil))))) (tNot (tB (tCall (spLet PT) [] E0 (tCons (tVar 2) (tCons (tVar 3) (tCons (tOp (rI0 fun i j => .int (i + j)) (tVar 4) (tC (.int 1))) tNil)))))) σ H R := by
  refine ⟨_, h2, _, h3, _, h4, r, z, n, rfl, D, hT, fun H7 tb7 => ⟨_, rfl, ?_⟩⟩
  have k7 : Kp PT H H7 := .of_tabbed tb7 hT
  cases e : least r z n with
  | some k => exact hR H7 k7
  | none =>
    refine iteT ⟨_, h2, _, h3, _, h4, _, _, rfl, rfl, r, z, n + 1, rfl, D1, k7.2, fun H8 tb8 => ⟨_, rfl, ?_⟩⟩
    have k8 : Kp PT H7 H8 := .of_tabbed tb8 k7.2
    rw [least_mono D.r1 D.s1 D.n1 e]
    exact hR H8 (k7.trans k8)
theorem ok_right {f fP fD f1 fT fL fE fO : Addr} {fd fdP fdD fd1 fdT fdL fdE fdO : FuncData} {k : Nat} {PT : Addr} (F : Fun K "_law_right" "_law_right" sRight f fd) (T : Txt mg)
    (GP : FnOk P w K mg base CX0 (k + 2) fP fdP ["_law_pot_here", "_law_items"] spPick) (kP : PySem.W.keepIn K (.ref fP) = true) (bP : Binds K fdP ["_law_pot_here", "_law_items"] []) (gP : mg "_law_pick" = some (.ref fP))
    (GD : FnOk P w K mg base CX0 (k + 1) fD fdD ["_law_pot_here", "_law_total"] spDip) (kD : PySem.W.keepIn K (.ref fD) = true) (bD : Binds K fdD ["_law_pot_here", "_law_total"] []) (gD : mg "_law_dip" = some (.ref fD))
    (G1 : FnOk P w K mg base CX0 (k + 7) f1 fd1 ["_law_pot_here", "_law_r", "_law_s", "_law_n"] (spOne PT)) (k1 : PySem.W.keepIn K (.ref f1) = true) (b1 : Binds K fd1 ["_law_pot_here", "_law_r", "_law_s", "_law_n"] []) (g1 : mg "_law_one_right" = some (.ref f1))
    (GT : FnOk P w K mg base CX0 (k + 7) fT fdT ["_law_r", "_law_s", "_law_n"] spLTerms) (kT : PySem.W.keepIn K (.ref fT) = true) (bT : Binds K fdT ["_law_r", "_law_s", "_law_n"] []) (gT : mg "_law_terms_right" = some (.ref fT))
    (GL : FnOk P w K mg base CX0 (k + 6) fL fdL ["r", "s", "n"] (spLet PT)) (kL : PySem.W.keepIn K (.ref fL) = true) (bL : Binds K fdL ["r", "s", "n"] []) (gL : mg "is_let" = some (.ref fL))
    (GE : FnOk P w K mg base CX0 (k + 6) fE fdE ["r", "s", "n"] spLeft) (kE : PySem.W.keepIn K (.ref fE) = true) (bE : Binds K fdE ["r", "s", "n"] []) (gE : mg "left_terms" = some (.ref fE))
    (GO : FnOk P w K mg base CX0 (k + 2) fO fdO ["_law_r", "_law_s", "_law_n"] spLOdds) (kO : PySem.W.keepIn K (.ref fO) = true) (bO : Binds K fdO ["_law_r", "_law_s", "_law_n"] []) (gO : mg "_law_odds" = some (.ref fO)) :
    FnOk P w K mg base CX0 (k + 8) f fd ["_law_pot_here"] (spRight PT) := by
  refine F.ok scRight (fun vs H Q E h => ?_) (fun cdv A outer s H vs Q E hr h => ?_)
  · obtain ⟨p, a, b, c, rfl, _⟩ := h
    rfl
  · obtain ⟨p, a, b, c, rfl, hp, c10, hT, q⟩ := h
    have r2 : Room (k + 2) (A.deeper (envOfC "_law_right" (defScope sRight) s.heap.objs.size f cdv)) := hr.mono (by omega)
    have r1 : Room (k + 1) (A.deeper (envOfC "_law_right" (defScope sRight) s.heap.objs.size f cdv)) := hr.mono (by omega)
    have r6 : Room (k + 6) (A.deeper (envOfC "_law_right" (defScope sRight) s.heap.objs.size f cdv)) := hr.mono (by omega)
    refine ⟨_, pss_cons (ps_set (i := 1) scRight.nd rfl (.inl rfl) (pe_call GP r2 (by rfl) gP kP bP .nil pass0 (pa_cons (pv 0) (pa_cons (pe_lst (pa_cons pe_int (pa_cons pe_int (pa_cons pe_int pa_nil)))) pa_nil))))
      (pss_cons (ps_par3 (i := 2) (j := 3) (l := 4) rfl scRight.nd rfl rfl rfl (by decide) (by decide) (by decide) rfl rfl rfl
        (pa_cons (pe_op op_add pe_int (pe_call GD r1 (by rfl) gD kD bD .nil pass0 (pa_cons (pv 0) (pa_cons (pv 1) pa_nil))))
          (pa_cons (pe_op op_add pe_int (pe_call GD r1 (by rfl) gD kD bD .nil pass0 (pa_cons (pv 0) (pa_cons (pv 1) pa_nil))))
            (pa_cons (pe_op op_add pe_int (pe_call GD r1 (by rfl) gD kD bD .nil pass0 (pa_cons (pv 0) (pa_cons (pe_op op_mul pe_int (pv 1)) pa_nil)))) pa_nil))) (by rfl))
      (pss_cons (ps_if (PW.pt (pw_or (pt_not (pt_val (pe_call G1 hr (by rfl) g1 k1 b1 .nil pass0 (pa_cons (pv 0) (pa_cons (pv 2) (pa_cons (pv 3) (pa_cons (pv 4) pa_nil)))))))
          (pw_or1 (pt_not (pt_val (pe_call GT hr (by rfl) gT kT bT .nil pass0 (pa_cons (pv 2) (pa_cons (pv 3) (pa_cons (pv 4) pa_nil))))))))) (pss_one (ps_ret pe_bl)) pss_nil)
      (pss_cons (ps_if (PW.pt (pw_and (pt_val (pe_call GL r6 (by rfl) gL kL bL .nil pass0 (pa_cons (pv 2) (pa_cons (pv 3) (pa_cons (pv 4) pa_nil)))))
          (pw_and1 (pt_not (pt_val (pe_call GL r6 (by rfl) gL kL bL .nil pass0 (pa_cons (pv 2) (pa_cons (pv 3) (pa_cons (pe_op op_add (pv 4) pe_int) pa_nil))))))))) (pss_one (ps_ret pe_bl)) pss_nil)
      (pss_cons (ps_set (i := 5) scRight.nd rfl (.inl rfl) (pe_lst (pa_cons (pe_op op_add pe_int (pe_call GD r1 (by rfl) gD kD bD .nil pass0 (pa_cons (pv 0) (pa_cons pe_int pa_nil))))
          (pa_cons (pe_op op_add pe_int (pe_call GD r1 (by rfl) gD kD bD .nil pass0 (pa_cons (pv 0) (pa_cons pe_int pa_nil))))
            (pa_cons (pe_op op_add pe_int (pe_call GD r1 (by rfl) gD kD bD .nil pass0 (pa_cons (pv 0) (pa_cons pe_int pa_nil)))) pa_nil)))))
      (pss_one (ps_ret (pe_and (pe_call G1 hr (by rfl) g1 k1 b1 .nil pass0 (pa_cons (pv 0) (pa_cons (pe_ix ix_list (pv 5) pe_int (fun _ _ => rfl)) (pa_cons (pe_ix ix_list (pv 5) pe_int (fun _ _ => rfl)) (pa_cons (pe_ix ix_list (pv 5) pe_int (fun _ _ => rfl)) pa_nil)))))
        (pe_one (pe_cmpR op_eq (pe_callB call_len_seq (by rfl) T.len PySem.boot_len (pa_cons (pe_call GE r6 (by rfl) gE kE bE .nil pass0 (pa_cons (pe_ix ix_list (pv 5) pe_int (fun _ _ => rfl)) (pa_cons (pe_ix ix_list (pv 5) pe_int (fun _ _ => rfl)) (pa_cons (pe_ix ix_list (pv 5) pe_int (fun _ _ => rfl)) pa_nil)))) pa_nil))
          (pe_callB call_len_seq (by rfl) T.len PySem.boot_len (pa_cons (pe_call GO r2 (by rfl) gO kO bO .nil pass0 (pa_cons (pe_ix ix_list (pv 5) pe_int (fun _ _ => rfl)) (pa_cons (pe_ix ix_list (pv 5) pe_int (fun _ _ => rfl)) (pa_cons (pe_ix ix_list (pv 5) pe_int (fun _ _ => rfl)) pa_nil)))) pa_nil)) (nomark _))))))))))
      , ?_⟩
    -- the most
    refine ⟨_, rfl, (by show 3 ≤ sizeLine; decide), fun l nl => ?_⟩
    have w0 : Kb p PT H (upd H l (.lst [.int 6, .int 20, .int 70])) := .of (.of_same (same_upd nl) hT)
    have hp0 : PotAt (upd H l (.lst [.int 6, .int 20, .int 70])) p a b c := hp.new nl
    have lp : l ≠ p := fun z => by
      rw [z, hp.1] at nl
      cases nl
    have el : (upd H l (.lst [.int 6, .int 20, .int 70])) l = some (.lst [.int 6, .int 20, .int 70]) := upd_same
    generalize upd H l (.lst [.int 6, .int 20, .int 70]) = H0 at w0 hp0 el
    refine ⟨p, l, [6, 20, 70], a, b, c, rfl, hp0, lp, el, by decide, by decide, fun m a1 c1 hm x1 x2 => ?_⟩
    have m1 : 6 ≤ m ∧ m ≤ 70 := by
      simp only [List.mem_cons, List.not_mem_nil, or_false] at hm
      omega
    have w1 := w0.trans (Kb.set (ys := [.int a1, .int b, .int c1]) w0.2 hp0.1)
    have hp1 := hp0.next (a' := a1) x1 x2 (by omega)
    generalize upd H0 p (.lst [.int a1, .int b, .int c1]) = H1 at w1 hp1
    -- r, s, n
    refine ⟨_, rfl, _, rfl, p, m, a1, b, c1, rfl, hp1, by omega, by omega, fun v2 a2 c2 y1 y2 x3 x4 => ?_⟩
    have w2 := w1.trans (Kb.set (ys := [.int a2, .int b, .int c2]) w1.2 hp1.1)
    have hp2 := hp1.next (a' := a2) x3 x4 (by omega)
    generalize upd H1 p (.lst [.int a2, .int b, .int c2]) = H2 at w2 hp2
    refine ⟨_, _, rfl, rfl, _, rfl, _, rfl, p, m, a2, b, c2, rfl, hp2, by omega, by omega, fun v3 a3 c3 y3 y4 x5 x6 => ?_⟩
    have w3 := w2.trans (Kb.set (ys := [.int a3, .int b, .int c3]) w2.2 hp2.1)
    have hp3 := hp2.next (a' := a3) x5 x6 (by omega)
    generalize upd H2 p (.lst [.int a3, .int b, .int c3]) = H3 at w3 hp3
    refine ⟨_, _, rfl, rfl, _, rfl, _, rfl, _, _, rfl, rfl, .inl ⟨by decide, by decide⟩, p, 2 * m, a3, b, c3, rfl, hp3, by omega, by omega, fun v4 a4 c4 y5 y6 x7 x8 => ?_⟩
    have w4 := w3.trans (Kb.set (ys := [.int a4, .int b, .int c4]) w3.2 hp3.1)
    have hp4 := hp3.next (a' := a4) x7 x8 (by omega)
    generalize upd H3 p (.lst [.int a4, .int b, .int c4]) = H4 at w4 hp4
    refine ⟨_, _, rfl, rfl, _, _, _, rfl, ?_⟩
    have D : Dims (1 + v2) (1 + v3) (1 + v4) := ⟨by omega, by omega, by omega, by omega, by omega, by omega⟩
    have D1 : Dims (1 + v2) (1 + v3) (1 + v4 + 1) := ⟨by omega, by omega, by omega, by omega, by omega, by omega⟩
    -- the first questions
    refine ⟨_, rfl, _, rfl, _, rfl, _, rfl, _, _, _, _, rfl, D, w4.2, fun H5 k5 => ⟨true, rfl, iteF ?_⟩⟩
    have w5 := w4.trans (.of k5)
    have hp5 := hp4.kp k5
    refine ⟨_, rfl, _, rfl, _, rfl, _, _, _, rfl, D, fun H6 s6 => ⟨true, rfl, iteF ?_⟩⟩
    have k6 : Kp PT H5 H6 := .of_same s6 w5.2
    have w6 := w5.trans (.of k6)
    have hp6 := hp5.kp k6
    -- what n lets, n + 1 lets
    refine let_test D D1 w6.2 rfl rfl rfl fun H7 k7 => ?_
    have w7 := w6.trans (.of k7)
    have hp7 := hp6.kp k7
    -- far
    refine ⟨_, rfl, p, 1000, a4, b, c4, rfl, hp7, by decide, by decide, fun u1 a5 c5 z1 z2 x9 x10 => ?_⟩
    have w8 := w7.trans (Kb.set (ys := [.int a5, .int b, .int c5]) w7.2 hp7.1)
    have hp8 := hp7.next (a' := a5) x9 x10 (by omega)
    generalize upd H7 p (.lst [.int a5, .int b, .int c5]) = H8 at w8 hp8
    refine ⟨_, _, rfl, rfl, _, rfl, p, 1000, a5, b, c5, rfl, hp8, by decide, by decide, fun u2 a6 c6 z3 z4 x11 x12 => ?_⟩
    have w9 := w8.trans (Kb.set (ys := [.int a6, .int b, .int c6]) w8.2 hp8.1)
    have hp9 := hp8.next (a' := a6) x11 x12 (by omega)
    generalize upd H8 p (.lst [.int a6, .int b, .int c6]) = H9 at w9 hp9
    refine ⟨_, _, rfl, rfl, _, rfl, p, 2000, a6, b, c6, rfl, hp9, by decide, by decide, fun u3 a7 c7 z5 z6 x13 x14 => ?_⟩
    have w10 := w9.trans (Kb.set (ys := [.int a7, .int b, .int c7]) w9.2 hp9.1)
    generalize upd H9 p (.lst [.int a7, .int b, .int c7]) = HA at w10
    refine ⟨_, _, rfl, rfl, (by show 3 ≤ sizeLine; decide), fun lf nf => ?_⟩
    have D2 : Dims (1 + u1) (1 + u2) (1 + u3) := ⟨by omega, by omega, by omega, by omega, by omega, by omega⟩
    have D3 : Dims (1 + u2) (1 + u1) (1 + u3) := ⟨by omega, by omega, by omega, by omega, by omega, by omega⟩
    have kB : Kp PT HA (upd HA lf (.lst [.int (1 + u1), .int (1 + u2), .int (1 + u3)])) := .of_same (same_upd nf) w10.2
    have eB : (upd HA lf (.lst [.int (1 + u1), .int (1 + u2), .int (1 + u3)])) lf = some (.lst [.int (1 + u1), .int (1 + u2), .int (1 + u3)]) := upd_same
    generalize upd HA lf (.lst [.int (1 + u1), .int (1 + u2), .int (1 + u3)]) = HB at kB eB
    have i0 : atI [V.int (1 + u1), .int (1 + u2), .int (1 + u3)] 0 = some (.int (1 + u1)) := atI_nat (j := 0) rfl
    have i1 : atI [V.int (1 + u1), .int (1 + u2), .int (1 + u3)] 1 = some (.int (1 + u2)) := atI_nat (j := 1) rfl
    have i2 : atI [V.int (1 + u1), .int (1 + u2), .int (1 + u3)] 2 = some (.int (1 + u3)) := atI_nat (j := 2) rfl
    refine ⟨_, rfl, _, rfl, lf, _, 0, _, rfl, rfl, .of eB, i0, _, rfl, lf, _, 1, _, rfl, rfl, .of eB, i1, _, rfl, lf, _, 2, _, rfl, rfl, .of eB, i2, _, _, _, _, rfl, D2, kB.2, fun HC kC => ⟨true, rfl, iteT ?_⟩⟩
    have eC := kC.lst eB
    refine ⟨_, rfl, lf, _, 0, _, rfl, rfl, .of eC, i0, _, rfl, lf, _, 1, _, rfl, rfl, .of eC, i1, _, rfl, lf, _, 2, _, rfl, rfl, .of eC, i2, _, _, _, rfl, D2, fun HD pt us sD nD eD prs => ?_⟩
    have kD' : Kp PT HC HD := .of_same sD kC.2
    have eD' := kD'.lst eC
    refine ⟨pt, us, rfl, .inr (.of eD), ?_⟩
    refine ⟨_, rfl, lf, _, 1, _, rfl, rfl, .of eD', i1, _, rfl, lf, _, 0, _, rfl, rfl, .of eD', i0, _, rfl, lf, _, 2, _, rfl, rfl, .of eD', i2, _, _, _, rfl, D3, fun HE po sE nE eE => ?_⟩
    have kE' : Kp PT HD HE := .of_same sE kD'.2
    refine ⟨po, _, rfl, .inl (.of eE), rfl, ?_⟩
    have len : us.length = ((odds (1 + u2) (1 + u1) (1 + u3)).map V.int).length := by
      rw [prs.length, lefts_odds D2.n1, List.length_map]
    rw [len, decide_eq_true rfl]
    exact q _ (w10.trans (.of (kB.trans (kC.trans (kD'.trans kE')))))
end
end K69
/-! The law. -/
namespace K69
open PySem PySem.Spec PyProof.Rows L2
abbrev sLaw : Stmt := topS 28
theorem scLaw : FnScope ["_law_script", "_law_spot", "_law_told"] ["_law_script"] (defScope sLaw) := ⟨rfl, rfl, rfl, by decide +kernel, rfl, by decide +kernel, by decide +kernel⟩
theorem Kp.seq {K : PySem.W.Frag} {PT a : Addr} {H H' : Hp} {xs : List V} (k : Kp PT H H') (h : SqL K H a xs) : SqL K H' a xs := by
  rcases h with (h | ⟨o, h⟩) | h
  · exact .inl (.inl (k.lst h))
  · exact .inl (.inr ⟨o, k.1 _ _ h fun ps z => by cases z⟩)
  · exact .inr h
/-- a pot was made behind H, and changed -/
theorem Kp.pot {PT p : Addr} {H H1 H2 : Hp} {o : HO} (k : Kp PT H H1) (n : H1 p = none) (b : Kb p PT (upd H1 p o) H2) : Kp PT H H2 := by
  refine ⟨fun c u e t => ?_, b.2⟩
  have e1 := k.1 c u e t
  have ne : c ≠ p := ne_of_none e1 n
  exact b.1 c u ne (by rw [upd_ne ne]; exact e1) t
theorem f_356 : least 3 5 6 = some 4 := by decide +kernel
theorem f_357 : least 3 5 7 = none := by decide +kernel
theorem j_356 : judge 3 5 6 (.int 5) = false := by decide +kernel
theorem l_356 : lefts 3 5 6 = [2] := by decide +kernel
theorem l_221 : lefts 2 2 1 = [0, 1] := by decide +kernel
theorem d_356 : Dims 3 5 6 := ⟨by decide, by decide, by decide, by decide, by decide, by decide⟩
theorem d_357 : Dims 3 5 7 := ⟨by decide, by decide, by decide, by decide, by decide, by decide⟩
theorem d_221 : Dims 2 2 1 := ⟨by decide, by decide, by decide, by decide, by decide, by decide⟩
def spLaw (K : PySem.W.Frag) (PT : Addr) : Sp := fun vs H Q _ => ∃ (a : Addr) (ns : List Int), vs = [.ref a] ∧ SqL K H a (ns.map V.int) ∧ ns.length ≤ 63 ∧ GxR.TabG H PT ∧ ∀ H', Q (.bl true) H'
section
variable {P : Program} {w : World} {K : PySem.W.Frag} {mg : Str → Option Value} {base : Heap}
theorem ok_law {f fR fP fL fB fI fE : Addr} {fd fdR fdP fdL fdB fdI fdE : FuncData} {k : Nat} {PT : Addr} (F : Fun K "law" "law" sLaw f fd) (T : Txt mg)
    (GR : FnOk P w K mg base CX0 (k + 8) fR fdR ["_law_pot_here"] (spRight PT)) (kR : PySem.W.keepIn K (.ref fR) = true) (bR : Binds K fdR ["_law_pot_here"] []) (gR : mg "_law_right" = some (.ref fR))
    (GP : FnOk P w K mg base CX0 (k + 1) fP fdP ["_law_script", "_law_at"] (spPot K)) (kP : PySem.W.keepIn K (.ref fP) = true) (bP : Binds K fdP ["_law_script", "_law_at"] []) (gP : mg "_law_pot" = some (.ref fP))
    (GL : FnOk P w K mg base CX0 (k + 6) fL fdL ["r", "s", "n"] (spLet PT)) (kL : PySem.W.keepIn K (.ref fL) = true) (bL : Binds K fdL ["r", "s", "n"] []) (gL : mg "is_let" = some (.ref fL))
    (GB : FnOk P w K mg base CX0 (k + 6) fB fdB ["r", "s", "n"] (spIndex PT)) (kB : PySem.W.keepIn K (.ref fB) = true) (bB : Binds K fdB ["r", "s", "n"] []) (gB : mg "odd_binomial" = some (.ref fB))
    (GI : FnOk P w K mg base CX0 (k + 6) fI fdI ["r", "s", "n", "value"] spIsBinom) (kI : PySem.W.keepIn K (.ref fI) = true) (bI : Binds K fdI ["r", "s", "n", "value"] []) (gI : mg "is_odd_binomial" = some (.ref fI))
    (GE : FnOk P w K mg base CX0 (k + 6) fE fdE ["r", "s", "n"] spLeft) (kE : PySem.W.keepIn K (.ref fE) = true) (bE : Binds K fdE ["r", "s", "n"] []) (gE : mg "left_terms" = some (.ref fE)) :
    FnOk P w K mg base CX0 (k + 9) f fd ["_law_script"] (spLaw K PT) := by
  refine F.ok scLaw (fun vs H Q E h => ?_) (fun cdv A outer s H vs Q E hr h => ?_)
  · obtain ⟨a, ns, rfl, _⟩ := h
    rfl
  · obtain ⟨a, ns, rfl, hS, hlen, hT, q⟩ := h
    have r1 : Room (k + 1) (A.deeper (envOfC "law" (defScope sLaw) s.heap.objs.size f cdv)) := hr.mono (by omega)
    have r6 : Room (k + 6) (A.deeper (envOfC "law" (defScope sLaw) s.heap.objs.size f cdv)) := hr.mono (by omega)
    refine ⟨_, pss_cons (ps_for PassesOwn.never rfl (pi_range1 (by rfl) T.range (pa_cons (pe_callB (call_max2 rfl) (by rfl) T.max (by decide +kernel) (pa_cons pe_int (pa_cons (pe_callB (call_min2 rfl) (by rfl) T.min (by decide +kernel)
          (pa_cons pe_int (pa_cons (pe_callB call_len_seq (by rfl) T.len PySem.boot_len (pa_cons (pv 0) pa_nil)) pa_nil))) pa_nil))) pa_nil)) (pg_name (i := 1) scLaw.nd rfl (.inl rfl))
        (pss_one (ps_if (pt_not (pt_val (pe_call GR hr (by rfl) gR kR bR .nil pass0 (pa_cons (pe_call GP r1 (by rfl) gP kP bP .nil pass0 (pa_cons (pv 0) (pa_cons (pv 1) pa_nil))) pa_nil)))) (pss_one (ps_ret pe_bl)) pss_nil)))
      (pss_cons (ps_set (i := 2) scLaw.nd rfl (.inl rfl) (pe_lst (pa_cons (pe_call GL r6 (by rfl) gL kL bL .nil pass0 (pa_cons pe_int (pa_cons pe_int (pa_cons pe_int pa_nil))))
        (pa_cons (pe_call GL r6 (by rfl) gL kL bL .nil pass0 (pa_cons pe_int (pa_cons pe_int (pa_cons pe_int pa_nil))))
        (pa_cons (pe_call GB r6 (by rfl) gB kB bB .nil pass0 (pa_cons pe_int (pa_cons pe_int (pa_cons pe_int pa_nil))))
        (pa_cons (pe_call GI r6 (by rfl) gI kI bI .nil pass0 (pa_cons pe_int (pa_cons pe_int (pa_cons pe_int (pa_cons pe_int pa_nil)))))
        (pa_cons (pe_call GE r6 (by rfl) gE kE bE .nil pass0 (pa_cons pe_int (pa_cons pe_int (pa_cons pe_int pa_nil)))) pa_nil)))))))
      (pss_one (ps_ret (pe_and (pe_cmpR (op_eqD hr.units) (pv 2) (pe_lst (pa_cons pe_bl (pa_cons pe_bl (pa_cons pe_int (pa_cons pe_bl (pa_cons (pe_tup (pa_cons (pe_tup (pa_cons pe_int (pa_cons pe_int pa_nil))) pa_nil)) pa_nil)))))) (nomark _))
        (pe_one (pe_cmpR (op_eqD hr.units) (pe_call GE r6 (by rfl) gE kE bE .nil pass0 (pa_cons pe_int (pa_cons pe_int (pa_cons pe_int pa_nil))))
          (pe_tup (pa_cons (pe_tup (pa_cons pe_int (pa_cons pe_int pa_nil))) (pa_cons (pe_tup (pa_cons pe_int (pa_cons pe_int pa_nil))) pa_nil))) (nomark _))))))), ?_⟩
    refine ⟨_, rfl, a, _, rfl, .inl hS, _, _, rfl, _, _, rfl, _, rfl, ?_, ?_, for_range (lo := 0) (fun i σ' H' => Kp PT H H' ∧ ∃ y1, σ' = [some (.ref a), y1, none]) ⟨.of_same (Same.refl H) hT, none, rfl⟩ ?_ ?_⟩
    · rw [max_if, min_if]
      omega
    · rw [max_if, min_if]
      omega
    · rintro i σ' H' hi ⟨kp, y1, rfl⟩
      have hi4 : (i : Int) ≤ 3 := by
        rw [max_if, min_if] at hi
        omega
      refine ⟨_, rfl, _, rfl, a, ns, _, rfl, kp.seq hS, hlen, by omega, by omega, fun p x y np x0 y0 y1 => ?_⟩
      refine ⟨p, x, y, 0, rfl, ⟨upd_same, y0, y1, by decide, by decide⟩, by decide, tab_same (same_upd np) kp.2, fun H2 kb => ⟨true, rfl, iteF ⟨kp.pot np kb, _, rfl⟩⟩⟩
    · rintro σ' H' ⟨kp, y1, rfl⟩
      -- the five examples
      refine ⟨3, 5, 6, rfl, d_356, kp.2, fun H1 tb1 => ?_⟩
      rw [f_356]
      have k1 : Kp PT H' H1 := .of_tabbed tb1 kp.2
      refine ⟨3, 5, 7, rfl, d_357, k1.2, fun H2 tb2 => ?_⟩
      rw [f_357]
      have k2 : Kp PT H1 H2 := .of_tabbed tb2 k1.2
      refine ⟨3, 5, 6, rfl, d_356, k2.2, fun H3 tb3 => ?_⟩
      rw [f_356]
      have k3 : Kp PT H2 H3 := .of_tabbed tb3 k2.2
      refine ⟨3, 5, 6, .int 5, rfl, d_356, .int 5, ?_⟩
      rw [j_356]
      refine ⟨3, 5, 6, rfl, d_356, fun H4 p4 us s4 n4 e4 prs4 => ?_⟩
      rw [l_356] at prs4
      refine ⟨(by show 5 ≤ sizeLine; decide), fun L nL => ?_⟩
      have s5 : Same H4 (upd H4 L (.lst [.bl false, .bl true, .int 4, .bl false, .ref p4])) := same_upd nL
      have e5 : (upd H4 L (.lst [.bl false, .bl true, .int 4, .bl false, .ref p4])) L = some (.lst [.bl false, .bl true, .int 4, .bl false, .ref p4]) := upd_same
      refine ⟨_, rfl, (by show 2 ≤ sizeLine; decide), fun t1 n1 => ⟨(by show 1 ≤ sizeLine; decide), fun t2 n2 => ⟨(by show 5 ≤ sizeLine; decide), fun L2 nL2 => ?_⟩⟩⟩
      have s6 : Same (upd H4 L (.lst [.bl false, .bl true, .int 4, .bl false, .ref p4])) (upd (upd H4 L (.lst [.bl false, .bl true, .int 4, .bl false, .ref p4])) t1 (.tup [.int 2, .int 4])) := same_upd n1
      have e6 : (upd (upd H4 L (.lst [.bl false, .bl true, .int 4, .bl false, .ref p4])) t1 (.tup [.int 2, .int 4])) t1 = some (.tup [.int 2, .int 4]) := upd_same
      have n2 : (upd (upd H4 L (.lst [.bl false, .bl true, .int 4, .bl false, .ref p4])) t1 (.tup [.int 2, .int 4])) t2 = none := n2
      have s7 := same_upd (o := .tup [.ref t1]) n2
      have e7 : (upd (upd (upd H4 L (.lst [.bl false, .bl true, .int 4, .bl false, .ref p4])) t1 (.tup [.int 2, .int 4])) t2 (.tup [.ref t1])) t2 = some (.tup [.ref t1]) := upd_same
      have nL2 : (upd (upd (upd H4 L (.lst [.bl false, .bl true, .int 4, .bl false, .ref p4])) t1 (.tup [.int 2, .int 4])) t2 (.tup [.ref t1])) L2 = none := nL2
      have s8 := same_upd (o := .lst [.bl false, .bl true, .int 4, .bl false, .ref t2]) nL2
      have e8 : (upd (upd (upd (upd H4 L (.lst [.bl false, .bl true, .int 4, .bl false, .ref p4])) t1 (.tup [.int 2, .int 4])) t2 (.tup [.ref t1])) L2 (.lst [.bl false, .bl true, .int 4, .bl false, .ref t2])) L2 = some (.lst [.bl false, .bl true, .int 4, .bl false, .ref t2]) := upd_same
      have sA := s5.trans (s6.trans (s7.trans s8))
      have dl : DpAll K (upd (upd (upd (upd H4 L (.lst [.bl false, .bl true, .int 4, .bl false, .ref p4])) t1 (.tup [.int 2, .int 4])) t2 (.tup [.ref t1])) L2 (.lst [.bl false, .bl true, .int 4, .bl false, .ref t2])) us ([2].map (pairD 6)) := (prs4.same sA).dp
      refine ⟨.list [.bool false, .bool true, .int 4, .bool false, .tuple ([2].map (pairD 6))], .list [.bool false, .bool true, .int 4, .bool false, .tuple [.tuple [.int 2, .int 4]]],
        .lst (.of (s8 _ _ (s7 _ _ (s6 _ _ e5)))) (.cons (.bl _) (.cons (.bl _) (.cons (.int _) (.cons (.bl _) (.cons (.tup (.of (sA _ _ e4)) dl) .nil))))),
        .lst (.of e8) (.cons (.bl _) (.cons (.bl _) (.cons (.int _) (.cons (.bl _) (.cons (.tup (.of (s8 _ _ e7)) (.cons (.tup (.of (s8 _ _ (s7 _ _ e6))) (.cons (.int _) (.cons (.int _) .nil))) .nil)) .nil))))), by decide +kernel, by decide +kernel, true, ?_, iteT ?_⟩
      · exact congrArg V.bl (show PyData.eqv (.list [.bool false, .bool true, .int 4, .bool false, .tuple ([2].map (pairD 6))]) (.list [.bool false, .bool true, .int 4, .bool false, .tuple [.tuple [.int 2, .int 4]]]) = true by decide +kernel)
      -- the last example
      clear dl
      generalize upd (upd (upd (upd H4 L (.lst [.bl false, .bl true, .int 4, .bl false, .ref p4])) t1 (.tup [.int 2, .int 4])) t2 (.tup [.ref t1])) L2 (.lst [.bl false, .bl true, .int 4, .bl false, .ref t2]) = H8
      refine ⟨2, 2, 1, rfl, d_221, fun H9 p9 vs9 s9 n9 e9 prs9 => ?_⟩
      rw [l_221] at prs9
      refine ⟨(by show 2 ≤ sizeLine; decide), fun t3 n3 => ?_⟩
      have a1 : Same H9 (upd H9 t3 (.tup [.int 0, .int 1])) := same_upd n3
      have b1 : (upd H9 t3 (.tup [.int 0, .int 1])) t3 = some (.tup [.int 0, .int 1]) := upd_same
      generalize upd H9 t3 (.tup [.int 0, .int 1]) = HA at a1 b1
      refine ⟨(by show 2 ≤ sizeLine; decide), fun t4 n4 => ?_⟩
      have a2 : Same HA (upd HA t4 (.tup [.int 1, .int 0])) := same_upd n4
      have b2 : (upd HA t4 (.tup [.int 1, .int 0])) t4 = some (.tup [.int 1, .int 0]) := upd_same
      generalize upd HA t4 (.tup [.int 1, .int 0]) = HB at a2 b2
      refine ⟨(by show 2 ≤ sizeLine; decide), fun t5 n5 => ?_⟩
      have a3 : Same HB (upd HB t5 (.tup [.ref t3, .ref t4])) := same_upd n5
      have b3 : (upd HB t5 (.tup [.ref t3, .ref t4])) t5 = some (.tup [.ref t3, .ref t4]) := upd_same
      generalize upd HB t5 (.tup [.ref t3, .ref t4]) = HC at a3 b3
      have aA := a1.trans (a2.trans a3)
      refine ⟨.tuple ([0, 1].map (pairD 1)), .tuple [.tuple [.int 0, .int 1], .tuple [.int 1, .int 0]], .tup (.of (aA _ _ e9)) (prs9.same aA).dp,
        .tup (.of b3) (.cons (.tup (.of (a3 _ _ (a2 _ _ b1))) (.cons (.int _) (.cons (.int _) .nil))) (.cons (.tup (.of (a3 _ _ b2)) (.cons (.int _) (.cons (.int _) .nil))) .nil)), by decide +kernel, by decide +kernel, ?_⟩
      rw [show PyData.eqv (.tuple ([0, 1].map (pairD 1))) (.tuple [.tuple [.int 0, .int 1], .tuple [.int 1, .int 0]]) = true by decide +kernel]
      exact q _
end
end K69
/-! The end: what the top has written, joined. -/
namespace K69
open PySem PySem.Spec PyProof.Rows L2
/-- a def of the text, its place, how it binds -/
structure Def (K : PySem.W.Frag) (x : Str) (st : Stmt) (ps : List Str) (f : Addr) (fd : FuncData) : Prop where
  a : PySem.W.nsIn K mainGlobals x = some (some (.ref f))
  fn : Fun K x x st f fd
  bd : Binds K fd ps []
theorem def_in {K : PySem.W.Frag} {x : Str} {st : Stmt} {ps : List Str} {f : Addr} {oc : Value} {od an : Option Addr} {osl : Array (Option Value)} {kV doc pm cdv ct : Value} (a : PySem.W.nsIn K mainGlobals x = some (some (.ref f)))
    (l : K.lookup f = some ⟨oc, od, .func (PySem.W.fnOf x x (defArgs st) (defBody st) (defScope st) .none kV doc pm an cdv ct), osl⟩)
    (c : PySem.W.codeIn K cdv x = true) (k : PySem.W.keepIn K (.ref f) = true)
    (h : ∀ (kV doc pm : Value) (an : Option Addr) (cdv ct : Value) (us : List Value), us.length = ps.length → bindArgs (PySem.W.fnOf x x (defArgs st) (defBody st) (defScope st) .none kV doc pm an cdv ct) ⟨us, []⟩ = pure (ps.zip us)) :
    ∃ (f : Addr) (fd : FuncData), Def K x st ps f fd := ⟨f, _, a, fun_mk l c k, (fun_mk l c k).binds h⟩
/-- odd_index, its code object and its table -/
structure IdxIn (K : PySem.W.Frag) (f c PT : Addr) (fd : FuncData) : Prop where
  a : PySem.W.nsIn K mainGlobals "odd_index" = some (some (.ref f))
  ex : ∃ (oc : Value) (od an : Option Addr) (osl : Array (Option Value)) (kV doc pm ct : Value), fd = PySem.W.fnOf "odd_index" "odd_index" (defArgs sIndex) (defBody sIndex) (defScope sIndex) .none kV doc pm an (.ref c) ct ∧ K.lookup f = some ⟨oc, od, .func fd, osl⟩
  cd : PySem.W.codeIn K (.ref c) "odd_index" = true
  kp : PySem.W.keepIn K (.ref f) = true
  tb : PySem.W.tabIn K "odd_index" = some (c, PT)
  no : K.lookup PT = none
theorem idx_in {K : PySem.W.Frag} {f c PT : Addr} {oc oc2 : Value} {od an od2 : Option Addr} {osl osl2 : Array (Option Value)} {kV doc pm ct : Value} {vs : Array Value} (a : PySem.W.nsIn K mainGlobals "odd_index" = some (some (.ref f)))
    (l : K.lookup f = some ⟨oc, od, .func (PySem.W.fnOf "odd_index" "odd_index" (defArgs sIndex) (defBody sIndex) (defScope sIndex) .none kV doc pm an (.ref c) ct), osl⟩)
    (cd : PySem.W.codeIn K (.ref c) "odd_index" = true) (k : PySem.W.keepIn K (.ref f) = true)
    (lc : K.lookup c = some ⟨oc2, od2, .fields vs, osl2⟩) (e : vs[11]? = some (.ref PT)) (no : K.lookup PT = none) : ∃ (f c PT : Addr) (fd : FuncData), IdxIn K f c PT fd := by
  refine ⟨f, c, PT, _, a, ⟨oc, od, an, osl, kV, doc, pm, ct, rfl, l⟩, cd, k, ?_, no⟩
  unfold PySem.W.tabIn
  rw [a]
  dsimp only
  rw [l]
  show (match K.lookup c with | some ⟨_, _, .fields vs, _⟩ => (match (vs[11]? : Option Value) with | some (.ref P) => some (c, P) | _ => none) | _ => none) = some (c, PT)
  rw [lc]
  dsimp only
  rw [e]
/-- all that the law reaches in what the top has written -/
structure AllIn (K : PySem.W.Frag) : Prop where
  isinstance : PySem.W.nsIn K mainGlobals "isinstance" = some none
  int : PySem.W.nsIn K mainGlobals "int" = some none
  bool : PySem.W.nsIn K mainGlobals "bool" = some none
  next : PySem.W.nsIn K mainGlobals "next" = some none
  range : PySem.W.nsIn K mainGlobals "range" = some none
  max : PySem.W.nsIn K mainGlobals "max" = some none
  min : PySem.W.nsIn K mainGlobals "min" = some none
  len : PySem.W.nsIn K mainGlobals "len" = some none
  abs : PySem.W.nsIn K mainGlobals "abs" = some none
  tuple : PySem.W.nsIn K mainGlobals "tuple" = some none
  list : PySem.W.nsIn K mainGlobals "list" = some none
  zip : PySem.W.nsIn K mainGlobals "zip" = some none
  size : ∃ t, PySem.W.nsIn K mainGlobals "MAX_SIZE" = some (some (.int 1000 t))
  number : ∃ t, PySem.W.nsIn K mainGlobals "MAX_NUMBER" = some (some (.int 2000 t))
  whole : ∃ f fd, Def K "is_whole" sWhole ["value"] f fd
  integer : ∃ f fd, Def K "is_integer" sInteger ["value"] f fd
  within : ∃ f fd, Def K "require_within" sWithin ["value", "most"] f fd
  sizes : ∃ f fd, Def K "require_sizes" sSizes ["r", "s"] f fd
  three : ∃ f fd, Def K "require_three" sThree ["r", "s", "n"] f fd
  odd : ∃ f fd, Def K "is_odd" sOdd ["n", "k"] f fd
  index : ∃ f c PT fd, IdxIn K f c PT fd
  let_ : ∃ f fd, Def K "is_let" sLet ["r", "s", "n"] f fd
  binom : ∃ f fd, Def K "odd_binomial" sBinom ["r", "s", "n"] f fd
  isbinom : ∃ f fd, Def K "is_odd_binomial" sIsBinom ["r", "s", "n", "value"] f fd
  left : ∃ f fd, Def K "left_terms" sLeft ["r", "s", "n"] f fd
  pot : ∃ f fd, Def K "_law_pot" sPot ["_law_script", "_law_at"] f fd
  dip : ∃ f fd, Def K "_law_dip" sDip ["_law_pot_here", "_law_total"] f fd
  pick : ∃ f fd, Def K "_law_pick" sPick ["_law_pot_here", "_law_items"] f fd
  lisodd : ∃ f fd, Def K "_law_is_odd" sLIsOdd ["_law_n", "_law_k"] f fd
  lodds : ∃ f fd, Def K "_law_odds" sLOdds ["_law_r", "_law_s", "_law_n"] f fd
  lrow : ∃ f fd, Def K "_law_row" sLRow ["_law_n"] f fd
  lterms : ∃ f fd, Def K "_law_terms_right" sLTerms ["_law_r", "_law_s", "_law_n"] f fd
  one : ∃ f fd, Def K "_law_one_right" sOne ["_law_pot_here", "_law_r", "_law_s", "_law_n"] f fd
  right : ∃ f fd, Def K "_law_right" sRight ["_law_pot_here"] f fd
  law : ∃ f fd, Def K "law" sLaw ["_law_script"] f fd
theorem txt_of {K : PySem.W.Frag} {h : Heap} {mg : Str → Option Value} (A : AllIn K) (X : K.In h) (G : h.Ns mainGlobals mg) (b : ∃ t, mg "BEYOND" = some (.int 1000000000000000000000000000000000000000000000000000000000000 t)) : Txt mg where
  isinstance := PySem.W.mg_none_of X G A.isinstance
  int := PySem.W.mg_none_of X G A.int
  bool := PySem.W.mg_none_of X G A.bool
  next := PySem.W.mg_none_of X G A.next
  range := PySem.W.mg_none_of X G A.range
  max := PySem.W.mg_none_of X G A.max
  min := PySem.W.mg_none_of X G A.min
  len := PySem.W.mg_none_of X G A.len
  abs := PySem.W.mg_none_of X G A.abs
  tuple := PySem.W.mg_none_of X G A.tuple
  list := PySem.W.mg_none_of X G A.list
  zip := PySem.W.mg_none_of X G A.zip
  beyond := b
  size := let ⟨t, e⟩ := A.size; ⟨t, PySem.W.mg_of X G e⟩
  number := let ⟨t, e⟩ := A.number; ⟨t, PySem.W.mg_of X G e⟩
theorem all_fn {P : Program} {w : World} {K : PySem.W.Frag} {h : Heap} {mg : Str → Option Value} {fa : Addr} (A : AllIn K) (X : K.In h) (G : h.Ns mainGlobals mg) (T : Txt mg) (hfa : mg "law" = some (.ref fa)) :
    ∃ (fd : FuncData) (c PT : Addr), PySem.W.tabIn K "odd_index" = some (c, PT) ∧ K.lookup PT = none ∧ (∀ (s : Shared) (v : Value), BindsTo s fd ⟨[v], []⟩ [("_law_script", v)]) ∧ ∀ base : Heap, GxR.TabB base mg c PT → FnOk P w K mg base CX0 9 fa fd ["_law_script"] (spLaw K PT) := by
  have m : ∀ {x : Str} {st : Stmt} {ps : List Str} {f : Addr} {fd : FuncData}, Def K x st ps f fd → mg x = some (.ref f) := fun d => PySem.W.mg_of X G d.a
  obtain ⟨fWh, dWh, W⟩ := A.whole
  obtain ⟨fIn, dIn, I⟩ := A.integer
  obtain ⟨fWi, dWi, Wi⟩ := A.within
  obtain ⟨fSz, dSz, Sz⟩ := A.sizes
  obtain ⟨fTh, dTh, Th⟩ := A.three
  obtain ⟨fOd, dOd, Od⟩ := A.odd
  obtain ⟨fX, c, PT, dX, Ix⟩ := A.index
  obtain ⟨fLt, dLt, Lt⟩ := A.let_
  obtain ⟨fBi, dBi, Bi⟩ := A.binom
  obtain ⟨fIb, dIb, Ib⟩ := A.isbinom
  obtain ⟨fLe, dLe, Le⟩ := A.left
  obtain ⟨fPo, dPo, Po⟩ := A.pot
  obtain ⟨fDi, dDi, Di⟩ := A.dip
  obtain ⟨fPi, dPi, Pi⟩ := A.pick
  obtain ⟨fLo, dLo, Lo⟩ := A.lisodd
  obtain ⟨fLs, dLs, Ls⟩ := A.lodds
  obtain ⟨fLr, dLr, Lr⟩ := A.lrow
  obtain ⟨fTm, dTm, Tm⟩ := A.lterms
  obtain ⟨fOn, dOn, On⟩ := A.one
  obtain ⟨fRi, dRi, Ri⟩ := A.right
  obtain ⟨fLa, dLa, La⟩ := A.law
  have e := hfa.symm.trans (m La)
  cases e
  obtain ⟨xoc, xod, xan, xosl, xkV, xdoc, xpm, xct, rfl, xlk⟩ := Ix.ex
  have bX : Binds K (PySem.W.fnOf "odd_index" "odd_index" (defArgs sIndex) (defBody sIndex) (defScope sIndex) .none xkV xdoc xpm xan (.ref c) xct) ["r", "s", "n"] [] :=
    (fun_mk xlk Ix.cd Ix.kp).binds fun _ _ _ _ _ _ us hl => match us, hl with | [_, _, _], _ => rfl
  have gX := PySem.W.mg_of X G Ix.a
  refine ⟨dLa, c, PT, Ix.tb, Ix.no, fun s v => ?_, fun base TB => ?_⟩
  · obtain ⟨oc, od, kV, doc, pm, an, cdv, ct, osl, rfl, _, _⟩ := La.fn.ex
    exact .of_eq rfl
  have gInt : ∀ k, FnOk P w K mg base CX0 (k + 2) fIn dIn ["value"] spInteger := fun k => ok_integer I.fn T W.fn W.bd (m W)
  have gWi : ∀ k, FnOk P w K mg base CX0 (k + 3) fWi dWi ["value", "most"] spWithin := fun k => ok_within Wi.fn (gInt k) I.fn.kp I.bd (m I)
  have gSz : ∀ k, FnOk P w K mg base CX0 (k + 4) fSz dSz ["r", "s"] spSizes := fun k => ok_sizes Sz.fn T (gWi k) Wi.fn.kp Wi.bd (m Wi)
  have gTh : ∀ k, FnOk P w K mg base CX0 (k + 5) fTh dTh ["r", "s", "n"] spThree := fun k => ok_three Th.fn T (gSz k) Sz.fn.kp Sz.bd (m Sz) (gWi k) Wi.fn.kp Wi.bd (m Wi)
  have gOd : ∀ k, FnOk P w K mg base CX0 (k + 1) fOd dOd ["n", "k"] spOdd := fun k => ok_odd Od.fn
  have gIx := fun k => ok_index (P := P) (w := w) (k := k) xlk Ix.cd T TB Od.fn (m Od)
  have gLt : FnOk P w K mg base CX0 6 fLt dLt ["r", "s", "n"] (spLet PT) := ok_let (k := 0) Lt.fn (gTh 0) Th.fn.kp Th.bd (m Th) (gIx 0) Ix.kp bX gX
  have gBi : FnOk P w K mg base CX0 6 fBi dBi ["r", "s", "n"] (spIndex PT) := ok_binom (k := 0) Bi.fn (gTh 0) Th.fn.kp Th.bd (m Th) (gIx 0) Ix.kp bX gX
  have gIb : FnOk P w K mg base CX0 6 fIb dIb ["r", "s", "n", "value"] spIsBinom := ok_isbinom (k := 0) Ib.fn T (gTh 0) Th.fn.kp Th.bd (m Th) (gOd 0) Od.fn.kp Od.bd (m Od)
  have gLe : FnOk P w K mg base CX0 6 fLe dLe ["r", "s", "n"] spLeft := ok_left (k := 0) Le.fn T (gTh 0) Th.fn.kp Th.bd (m Th) (gOd 0) Od.fn.kp Od.bd (m Od)
  have gLo : FnOk P w K mg base CX0 1 fLo dLo ["_law_n", "_law_k"] spLIsOdd := ok_lisodd (k := 0) Lo.fn
  have gLs : FnOk P w K mg base CX0 2 fLs dLs ["_law_r", "_law_s", "_law_n"] spLOdds := ok_lodds (k := 0) Ls.fn T gLo Lo.fn.kp Lo.bd (m Lo)
  have gLr : FnOk P w K mg base CX0 1 fLr dLr ["_law_n"] spLRow := ok_lrow (k := 0) Lr.fn T
  have gTm : FnOk P w K mg base CX0 7 fTm dTm ["_law_r", "_law_s", "_law_n"] spLTerms := ok_lterms (k := 0) Tm.fn T gLr Lr.fn.kp Lr.bd (m Lr) gLe Le.fn.kp Le.bd (m Le)
  have gPo : FnOk P w K mg base CX0 1 fPo dPo ["_law_script", "_law_at"] (spPot K) := ok_pot (k := 0) Po.fn T
  have gDi : FnOk P w K mg base CX0 1 fDi dDi ["_law_pot_here", "_law_total"] spDip := ok_dip (k := 0) Di.fn T
  have gPi : FnOk P w K mg base CX0 2 fPi dPi ["_law_pot_here", "_law_items"] spPick := ok_pick (k := 0) Pi.fn T gDi Di.fn.kp Di.bd (m Di)
  have gOn : FnOk P w K mg base CX0 7 fOn dOn ["_law_pot_here", "_law_r", "_law_s", "_law_n"] (spOne PT) := ok_one (k := 0) On.fn T gLs Ls.fn.kp Ls.bd (m Ls) gBi Bi.fn.kp Bi.bd (m Bi) gLt Lt.fn.kp Lt.bd (m Lt) gIb Ib.fn.kp Ib.bd (m Ib)
  have gRi : FnOk P w K mg base CX0 8 fRi dRi ["_law_pot_here"] (spRight PT) := ok_right (k := 0) Ri.fn T gPi Pi.fn.kp Pi.bd (m Pi) gDi Di.fn.kp Di.bd (m Di) gOn On.fn.kp On.bd (m On) gTm Tm.fn.kp Tm.bd (m Tm) gLt Lt.fn.kp Lt.bd (m Lt) gLe Le.fn.kp Le.bd (m Le) gLs Ls.fn.kp Ls.bd (m Ls)
  exact ok_law (k := 0) La.fn T gRi Ri.fn.kp Ri.bd (m Ri) gPo Po.fn.kp Po.bd (m Po) gLt Lt.fn.kp Lt.bd (m Lt) gBi Bi.fn.kp Bi.bd (m Bi) gIb Ib.fn.kp Ib.bd (m Ib) gLe Le.fn.kp Le.bd (m Le)
/-- the end: from what the top has written to the row's walk -/
theorem walk_end {l : PySem.W.OpenLaw} {q : Program} {loose : List Str} {XP : (Str → Option Value) → Heap → Prop} {YP : World → Heap → Prop} {d : DefRec} {K : Params → PySem.W.Frag}
    (hn : l.most = some 63) (hdf : d.params.defaults = []) (hname : d.name = "law") (hY : ∀ (w : World) (h : Heap), YP w h → (K w.params).In h)
    (hrec : ((recsOf q).find? (fun e => e.name == ("odd_index" : Str))).isSome = true)
    (hbey : ∀ (mg : Str → Option Value) (h : Heap), XP mg h → ∃ t, mg "BEYOND" = some (.int 1000000000000000000000000000000000000000000000000000000000000 t))
    (A : ∀ w : World, AllIn (K w.params)) : PySem.W.WalkO q loose XP YP l.row.toRowW d [] (fun f vs => PySem.call f vs) := by
  refine Att.attach_callB hn hdf fun w s₀ s₁ mg mb fa o pm cd doc a vs ns G Y ho hd hcd hmg hobj hints hlen hbits hg => ?_
  have KX := hY w _ Y
  rw [hname] at hmg
  obtain ⟨fd, c, PT, ht, hno, hb, hF⟩ := all_fn (P := l.prog) (w := w) (A w) KX G.T.g (txt_of (A w) KX G.T.g (hbey _ _ G.X)) hmg
  obtain ⟨dI, hrec⟩ := Option.isSome_iff_exists.mp hrec
  obtain ⟨C, hT⟩ := PySem.W.tab_of G.T KX hrec ht
  have one : ∀ {R : Addr × Addr → Prop}, R (c, PT) → ∀ p ∈ [(c, PT)], R p := fun r p hp => by
    rw [List.mem_singleton] at hp
    rw [hp]
    exact r
  refine LamX.law_callTs (CX := CX0) (k := 9) (cs := [(c, PT)]) (x := "_law_script") (sp := spLaw (K w.params) PT) KX G.T.g G.T.b G.T.builtins G.T.nolimit hg (one hT) (one hno) (one C) G.T.bmain hobj hints (Nat.le_trans hlen (by decide)) ⟨rfl, by decide, by decide⟩ (fun base _ _ hB => ?_) hb (fun H hH hS => ?_) fun H e s' z => z
  · have t := hB (c, PT) (List.mem_singleton.mpr rfl)
    exact hF base ⟨t.code, t.bm, t.gP⟩
  · exact ⟨a, ns, rfl, hS, hlen, ⟨#[], hH (c, PT) (List.mem_singleton.mpr rfl), trivial⟩, fun _ => rfl⟩
end K69
open PySem PySem.W PyProof.Rows
set_option maxRecDepth 100000 in
set_option maxHeartbeats 0 in
theorem PySem.Challenge.cw_squaretimes_k69_whole_left_terms_and_odd_holds : PySem.Challenge.rw_squaretimes_k69_whole_left_terms_and_odd.Holds := by
  w_on; o_law; k_head; (case hw => w_witness2)
  k_fill
  refine K69.walk_end (l := PySem.Challenge.rw_squaretimes_k69_whole_left_terms_and_odd) rfl rfl rfl (fun w h Y => PySem.W.kIn_of Y) (by kernel_rfl) ?hbey ?A
  case hbey =>
    intro mg h X
    obtain ⟨v, e, r⟩ := X.2.val _ (.head _)
    cases r
    exact ⟨_, e⟩
  case A =>
    intro w
    refine' ⟨?z0, ?z1, ?z2, ?z3, ?z4, ?z5, ?z6, ?z7, ?z8, ?z9, ?z10, ?z11, ?zs, ?zn, ?d0, ?d1, ?d2, ?d3, ?d4, ?d5, ?d6, ?d7, ?d8, ?d9, ?d10, ?d11, ?d12, ?d13, ?d14, ?d15, ?d16, ?d17, ?d18, ?d19, ?d20⟩
    case z0 => k_is
    case z1 => k_is
    case z2 => k_is
    case z3 => k_is
    case z4 => k_is
    case z5 => k_is
    case z6 => k_is
    case z7 => k_is
    case z8 => k_is
    case z9 => k_is
    case z10 => k_is
    case z11 => k_is
    case zs => exact ⟨_, by k_is⟩
    case zn => exact ⟨_, by k_is⟩
    case d0 => (refine' K69.def_in ?a ?l ?c ?k ?h; (case a => k_is); (case l => k_is); (case c => k_is); (case k => k_is); (case h => exact fun _ _ _ _ _ _ us hl => match us, hl with | [_], _ => rfl))
    case d1 => (refine' K69.def_in ?a ?l ?c ?k ?h; (case a => k_is); (case l => k_is); (case c => k_is); (case k => k_is); (case h => exact fun _ _ _ _ _ _ us hl => match us, hl with | [_], _ => rfl))
    case d2 => (refine' K69.def_in ?a ?l ?c ?k ?h; (case a => k_is); (case l => k_is); (case c => k_is); (case k => k_is); (case h => exact fun _ _ _ _ _ _ us hl => match us, hl with | [_, _], _ => rfl))
    case d3 => (refine' K69.def_in ?a ?l ?c ?k ?h; (case a => k_is); (case l => k_is); (case c => k_is); (case k => k_is); (case h => exact fun _ _ _ _ _ _ us hl => match us, hl with | [_, _], _ => rfl))
    case d4 => (refine' K69.def_in ?a ?l ?c ?k ?h; (case a => k_is); (case l => k_is); (case c => k_is); (case k => k_is); (case h => exact fun _ _ _ _ _ _ us hl => match us, hl with | [_, _, _], _ => rfl))
    case d5 => (refine' K69.def_in ?a ?l ?c ?k ?h; (case a => k_is); (case l => k_is); (case c => k_is); (case k => k_is); (case h => exact fun _ _ _ _ _ _ us hl => match us, hl with | [_, _], _ => rfl))
    case d6 => (refine' K69.idx_in ?a ?l ?cd ?k ?lc ?e ?no; (case a => k_is); (case l => k_is); (case cd => k_is); (case k => k_is); (case lc => k_is); (case e => rfl); (case no => kernel_rfl))
    case d7 => (refine' K69.def_in ?a ?l ?c ?k ?h; (case a => k_is); (case l => k_is); (case c => k_is); (case k => k_is); (case h => exact fun _ _ _ _ _ _ us hl => match us, hl with | [_, _, _], _ => rfl))
    case d8 => (refine' K69.def_in ?a ?l ?c ?k ?h; (case a => k_is); (case l => k_is); (case c => k_is); (case k => k_is); (case h => exact fun _ _ _ _ _ _ us hl => match us, hl with | [_, _, _], _ => rfl))
    case d9 => (refine' K69.def_in ?a ?l ?c ?k ?h; (case a => k_is); (case l => k_is); (case c => k_is); (case k => k_is); (case h => exact fun _ _ _ _ _ _ us hl => match us, hl with | [_, _, _, _], _ => rfl))
    case d10 => (refine' K69.def_in ?a ?l ?c ?k ?h; (case a => k_is); (case l => k_is); (case c => k_is); (case k => k_is); (case h => exact fun _ _ _ _ _ _ us hl => match us, hl with | [_, _, _], _ => rfl))
    case d11 => (refine' K69.def_in ?a ?l ?c ?k ?h; (case a => k_is); (case l => k_is); (case c => k_is); (case k => k_is); (case h => exact fun _ _ _ _ _ _ us hl => match us, hl with | [_, _], _ => rfl))
    case d12 => (refine' K69.def_in ?a ?l ?c ?k ?h; (case a => k_is); (case l => k_is); (case c => k_is); (case k => k_is); (case h => exact fun _ _ _ _ _ _ us hl => match us, hl with | [_, _], _ => rfl))
    case d13 => (refine' K69.def_in ?a ?l ?c ?k ?h; (case a => k_is); (case l => k_is); (case c => k_is); (case k => k_is); (case h => exact fun _ _ _ _ _ _ us hl => match us, hl with | [_, _], _ => rfl))
    case d14 => (refine' K69.def_in ?a ?l ?c ?k ?h; (case a => k_is); (case l => k_is); (case c => k_is); (case k => k_is); (case h => exact fun _ _ _ _ _ _ us hl => match us, hl with | [_, _], _ => rfl))
    case d15 => (refine' K69.def_in ?a ?l ?c ?k ?h; (case a => k_is); (case l => k_is); (case c => k_is); (case k => k_is); (case h => exact fun _ _ _ _ _ _ us hl => match us, hl with | [_, _, _], _ => rfl))
    case d16 => (refine' K69.def_in ?a ?l ?c ?k ?h; (case a => k_is); (case l => k_is); (case c => k_is); (case k => k_is); (case h => exact fun _ _ _ _ _ _ us hl => match us, hl with | [_], _ => rfl))
    case d17 => (refine' K69.def_in ?a ?l ?c ?k ?h; (case a => k_is); (case l => k_is); (case c => k_is); (case k => k_is); (case h => exact fun _ _ _ _ _ _ us hl => match us, hl with | [_, _, _], _ => rfl))
    case d18 => (refine' K69.def_in ?a ?l ?c ?k ?h; (case a => k_is); (case l => k_is); (case c => k_is); (case k => k_is); (case h => exact fun _ _ _ _ _ _ us hl => match us, hl with | [_, _, _, _], _ => rfl))
    case d19 => (refine' K69.def_in ?a ?l ?c ?k ?h; (case a => k_is); (case l => k_is); (case c => k_is); (case k => k_is); (case h => exact fun _ _ _ _ _ _ us hl => match us, hl with | [_], _ => rfl))
    case d20 => (refine' K69.def_in ?a ?l ?c ?k ?h; (case a => k_is); (case l => k_is); (case c => k_is); (case k => k_is); (case h => exact fun _ _ _ _ _ _ us hl => match us, hl with | [_], _ => rfl))
