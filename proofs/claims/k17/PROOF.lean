import PyProof.Rows.All
import Wide.All
import OpenK.AllK
import Wide.FinOn
import HandS.ForMost
import HandS.Gcd
import HandS.Style
import HandS.TupMul
import HandS.TupLe
import HandS.IsInst
import HandS.Flow
import HandS.Wide
import HandS.More
import HandS.Defaults
import HandS.Conv
import HandS.Walk
import HandS.TupAny
import PyProof.ReprRoads
import KE.KDictPairs
import PySem.Challenge.RW_firstterms_k17_whole_terms_by_multiplyin
set_option Elab.async false
set_option linter.all false
set_option maxRecDepth 100000
set_option maxHeartbeats 4000000
set_option exponentiation.threshold 2000
/-! Plain mathematics: rows Nat → Int as series, their product, the step q d/dq, the logarithmic rule. -/
namespace K17
abbrev Sr := Nat → Int
/-- the row without its first term -/
def sh (a : Sr) : Sr := fun n => a (n + 1)
/-- the product -/
def cv (a b : Sr) : Nat → Int
  | 0 => a 0 * b 0
  | n + 1 => a 0 * b (n + 1) + cv (sh a) b n
def th (a : Sr) : Sr := fun n => (n : Int) * a n
def one : Sr := fun n => if n = 0 then 1 else 0
def zr : Sr := fun _ => 0
theorem cv_zero (a b : Sr) : cv a b 0 = a 0 * b 0 := rfl
theorem cv_succ (a b : Sr) (n : Nat) : cv a b (n + 1) = a 0 * b (n + 1) + cv (sh a) b n := rfl
theorem cv_congr : ∀ (n : Nat) {a b a' b' : Sr}, (∀ i, i ≤ n → a i = a' i) → (∀ i, i ≤ n → b i = b' i) → cv a b n = cv a' b' n
  | 0, a, b, a', b', h1, h2 => by rw [cv_zero, cv_zero, h1 0 (Nat.le_refl _), h2 0 (Nat.le_refl _)]
  | n + 1, a, b, a', b', h1, h2 => by
    rw [cv_succ, cv_succ, h1 0 (Nat.zero_le _), h2 (n + 1) (Nat.le_refl _)]
    rw [cv_congr n (a := sh a) (a' := sh a') (fun i hi => h1 (i + 1) (by omega)) (fun i hi => h2 i (by omega))]
theorem cv_add_left : ∀ (n : Nat) (a a' b : Sr), cv (fun i => a i + a' i) b n = cv a b n + cv a' b n
  | 0, a, a', b => by rw [cv_zero, cv_zero, cv_zero, Int.add_mul]
  | n + 1, a, a', b => by
    rw [cv_succ, cv_succ, cv_succ]
    have := cv_add_left n (sh a) (sh a') b
    have e : cv (sh fun i => a i + a' i) b n = cv (fun i => sh a i + sh a' i) b n := rfl
    rw [e, this, Int.add_mul]
    omega
theorem cv_add_right : ∀ (n : Nat) (a b b' : Sr), cv a (fun i => b i + b' i) n = cv a b n + cv a b' n
  | 0, a, b, b' => by rw [cv_zero, cv_zero, cv_zero, Int.mul_add]
  | n + 1, a, b, b' => by
    rw [cv_succ, cv_succ, cv_succ, cv_add_right n (sh a) b b', Int.mul_add]
    omega
theorem cv_smul_left : ∀ (n : Nat) (k : Int) (a b : Sr), cv (fun i => k * a i) b n = k * cv a b n
  | 0, k, a, b => by rw [cv_zero, cv_zero, Int.mul_assoc]
  | n + 1, k, a, b => by
    rw [cv_succ, cv_succ]
    have := cv_smul_left n k (sh a) b
    have e : cv (sh fun i => k * a i) b n = cv (fun i => k * sh a i) b n := rfl
    rw [e, this, Int.mul_assoc, Int.mul_add]
theorem cv_smul_right : ∀ (n : Nat) (k : Int) (a b : Sr), cv a (fun i => k * b i) n = k * cv a b n
  | 0, k, a, b => by rw [cv_zero, cv_zero, Int.mul_left_comm]
  | n + 1, k, a, b => by
    rw [cv_succ, cv_succ, cv_smul_right n k (sh a) b, Int.mul_left_comm, Int.mul_add]
theorem cv_zr_left : ∀ (n : Nat) (b : Sr), cv zr b n = 0
  | 0, b => by rw [cv_zero]; exact Int.zero_mul _
  | n + 1, b => by
    rw [cv_succ]
    have e : sh zr = zr := rfl
    rw [e, cv_zr_left n b]
    show 0 * b (n + 1) + 0 = 0
    omega
/-- the product's last place first -/
theorem cv_succ' : ∀ (n : Nat) (a b : Sr), cv a b (n + 1) = cv a (sh b) n + a (n + 1) * b 0
  | 0, a, b => by
    rw [cv_succ, cv_zero, cv_zero]
    rfl
  | n + 1, a, b => by
    rw [cv_succ, cv_succ' n (sh a) b, cv_succ a (sh b) n]
    show a 0 * b (n + 1 + 1) + (cv (sh a) (sh b) n + a (n + 1 + 1) * b 0) = a 0 * b (n + 1 + 1) + cv (sh a) (sh b) n + a (n + 1 + 1) * b 0
    omega
theorem cv_comm : ∀ (n : Nat) (a b : Sr), cv a b n = cv b a n
  | 0, a, b => by rw [cv_zero, cv_zero, Int.mul_comm]
  | n + 1, a, b => by
    rw [cv_succ, cv_succ' n b a, cv_comm n (sh a) b, Int.mul_comm (a 0)]
    omega
theorem sh_cv (a b : Sr) : sh (cv a b) = fun n => a 0 * sh b n + cv (sh a) b n := rfl
theorem cv_assoc : ∀ (n : Nat) (a b c : Sr), cv (cv a b) c n = cv a (cv b c) n
  | 0, a, b, c => by
    rw [cv_zero, cv_zero, cv_zero, cv_zero, Int.mul_assoc]
  | n + 1, a, b, c => by
    rw [cv_succ, sh_cv, cv_add_left, cv_smul_left, cv_assoc n (sh a) b c, cv_succ a, cv_succ b c, cv_zero, Int.mul_add, Int.mul_assoc]
    omega
theorem cv_one_right (n : Nat) (a : Sr) : cv a one n = a n := by
  rw [cv_comm]
  cases n with
  | zero => rw [cv_zero]; exact Int.one_mul _
  | succ n =>
    rw [cv_succ]
    have e : sh one = zr := by
      funext i
      show (if i + 1 = 0 then (1 : Int) else 0) = 0
      rw [if_neg (by omega)]
    rw [e, cv_zr_left]
    show (1 : Int) * a (n + 1) + 0 = a (n + 1)
    omega
theorem cv_one_left (n : Nat) (a : Sr) : cv one a n = a n := by rw [cv_comm, cv_one_right]
/-- q d/dq of a product -/
theorem th_cv : ∀ (n : Nat) (a b : Sr), th (cv a b) n = cv (th a) b n + cv a (th b) n
  | 0, a, b => by
    rw [cv_zero, cv_zero]
    show (0 : Int) * _ = ((0 : Nat) : Int) * a 0 * b 0 + a 0 * (((0 : Nat) : Int) * b 0)
    simp
  | n + 1, a, b => by
    have ih := th_cv n (sh a) b
    have e1 : sh (th a) = fun i => th (sh a) i + sh a i := by
      funext i
      show ((i + 1 : Nat) : Int) * a (i + 1) = (i : Int) * a (i + 1) + a (i + 1)
      rw [show ((i + 1 : Nat) : Int) = (i : Int) + 1 by omega, Int.add_mul, Int.one_mul]
    have e2 : th a 0 = 0 := by
      show ((0 : Nat) : Int) * a 0 = 0
      simp
    rw [cv_succ (th a), cv_succ a (th b), e1, cv_add_left, e2]
    show ((n + 1 : Nat) : Int) * cv a b (n + 1) = _
    rw [cv_succ a b]
    have e3 : th (cv (sh a) b) n = (n : Int) * cv (sh a) b n := rfl
    rw [e3] at ih
    have e4 : th b (n + 1) = ((n + 1 : Nat) : Int) * b (n + 1) := rfl
    rw [e4, Int.mul_add, Int.mul_left_comm (a 0), show ((n + 1 : Nat) : Int) * cv (sh a) b n = (n : Int) * cv (sh a) b n + cv (sh a) b n by
      rw [show ((n + 1 : Nat) : Int) = (n : Int) + 1 by omega, Int.add_mul, Int.one_mul], ih]
    omega
/-- F has the logarithmic terms c, up to N: n F_n is minus the sum of c_j F_(n - j) -/
def LD (N : Nat) (F c : Sr) : Prop := ∀ n, n < N → (n : Int) * F n = - cv c F n
theorem LD.one (N : Nat) : LD N one zr := fun n _ => by
  rw [cv_zr_left]
  show (n : Int) * (if n = 0 then 1 else 0) = -0
  by_cases h : n = 0
  · subst h
    simp
  · rw [if_neg h]
    simp
theorem LD.congr {N : Nat} {F F' c c' : Sr} (h : LD N F c) (hF : ∀ n, n < N → F n = F' n) (hc : ∀ n, n < N → c n = c' n) : LD N F' c' := fun n hn => by
  rw [← hF n hn, h n hn, cv_congr n (fun i hi => hc i (by omega)) (fun i hi => hF i (by omega))]
theorem LD.mul {N : Nat} {F G c e : Sr} (hF : LD N F c) (hG : LD N G e) : LD N (cv F G) (fun n => c n + e n) := fun n hn => by
  have h1 := th_cv n F G
  have h2 : th (cv F G) n = (n : Int) * cv F G n := rfl
  have e1 : cv (th F) G n = cv (fun i => (-1) * cv c F i) G n := cv_congr n (fun i hi => by
    show (i : Int) * F i = _
    rw [hF i (by omega)]
    omega) fun _ _ => rfl
  have e2 : cv F (th G) n = cv F (fun i => (-1) * cv e G i) n := cv_congr n (fun _ _ => rfl) fun i hi => by
    show (i : Int) * G i = _
    rw [hG i (by omega)]
    omega
  have e3 : cv F (cv e G) n = cv e (cv F G) n := by
    rw [← cv_assoc, cv_congr n (a := cv F e) (a' := cv e F) (b := G) (b' := G) (fun i _ => cv_comm i F e) (fun _ _ => rfl), cv_assoc]
  rw [← h2, h1, e1, e2, cv_smul_left, cv_smul_right, cv_add_left, cv_assoc, e3]
  omega
/-- a row with c_0 = 0 has one row of terms that begins so -/
theorem LD.uniq {N : Nat} {F G c : Sr} (hF : LD N F c) (hG : LD N G c) (h0 : c 0 = 0) (hz : F 0 = G 0) : ∀ n, n < N → F n = G n := by
  intro n
  induction n using Nat.strongRecOn with
  | ind n ih =>
    intro hn
    cases n with
    | zero => exact hz
    | succ n =>
      have a := hF (n + 1) hn
      have b := hG (n + 1) hn
      rw [cv_succ, h0, Int.zero_mul, Int.zero_add] at a b
      rw [cv_congr n (a := sh c) (a' := sh c) (b := F) (b' := G) (fun _ _ => rfl) (fun i hi => ih i (by omega) (by omega)), ← b] at a
      exact Int.eq_of_mul_eq_mul_left (by omega) a
/-! ### spread rows -/
def spr (s : Nat) (a : Sr) : Sr := fun n => if n % s = 0 then a (n / s) else 0
theorem spr_zero (s : Nat) (a : Sr) : spr s a 0 = a 0 := by
  unfold spr
  rw [if_pos (Nat.zero_mod s), Nat.zero_div]
theorem spr_add (s : Nat) (hs : 0 < s) (a : Sr) (n : Nat) : spr s a (n + s) = spr s (sh a) n := by
  unfold spr
  rw [Nat.add_mod_right, Nat.add_div_right n hs]
  rfl
theorem spr_small {s n : Nat} (h1 : 0 < n) (h2 : n < s) (a : Sr) : spr s a n = 0 := by
  unfold spr
  rw [if_neg (by rw [Nat.mod_eq_of_lt h2]; omega)]
def shs (s : Nat) (a : Sr) : Sr := fun n => a (n + s)
/-- a row whose terms from 1 to s - 1 are 0 -/
theorem cv_jump : ∀ (s : Nat) (a b : Sr) (n : Nat), (∀ i, i < s → a i = 0) → cv a b (n + s) = cv (shs s a) b n
  | 0, a, b, n, _ => rfl
  | s + 1, a, b, n, h => by
    show cv a b ((n + s) + 1) = _
    rw [cv_succ, h 0 (by omega), Int.zero_mul, Int.zero_add, cv_jump s (sh a) b n fun i hi => h (i + 1) (by omega)]
    have e : shs s (sh a) = shs (s + 1) a := by
      funext i
      show a (i + s + 1) = a (i + (s + 1))
      rfl
    rw [e]
theorem cv_gap (s : Nat) (hs : 0 < s) (a b : Sr) (n : Nat) (h : ∀ i, 0 < i → i < s → a i = 0) : cv a b (n + s) = a 0 * b (n + s) + cv (shs s a) b n := by
  obtain ⟨t, rfl⟩ : ∃ t, s = t + 1 := ⟨s - 1, by omega⟩
  show cv a b ((n + t) + 1) = _
  rw [cv_succ, cv_jump t (sh a) b n fun i hi => h (i + 1) (by omega) (by omega)]
  have e : shs t (sh a) = shs (t + 1) a := by
    funext i
    show a (i + t + 1) = a (i + (t + 1))
    rfl
  rw [e]
  rfl
theorem cv_alone : ∀ (n : Nat) (a b : Sr), (∀ i, 0 < i → i ≤ n → a i = 0) → cv a b n = a 0 * b n
  | 0, _, _, _ => rfl
  | n + 1, a, b, h => by
    rw [cv_succ, cv_congr n (a := sh a) (a' := zr) (b := b) (b' := b) (fun i hi => h (i + 1) (by omega) (by omega)) (fun _ _ => rfl), cv_zr_left]
    omega
theorem cv_spr (s : Nat) (hs : 0 < s) : ∀ (n : Nat) (a b : Sr), cv (spr s a) (spr s b) n = spr s (cv a b) n := by
  intro n
  induction n using Nat.strongRecOn with
  | ind n ih =>
    intro a b
    by_cases h : n < s
    · by_cases h0 : n = 0
      · subst h0
        rw [cv_zero, spr_zero, spr_zero, spr_zero, cv_zero]
      · rw [cv_alone n _ _ fun i h1 h2 => spr_small h1 (by omega) a, spr_small (by omega) h, spr_small (by omega) h, Int.mul_zero]
    · obtain ⟨m, rfl⟩ : ∃ m, n = m + s := ⟨n - s, by omega⟩
      rw [cv_gap s hs _ _ m fun i h1 h2 => spr_small h1 h2 a, spr_zero, spr_add s hs, spr_add s hs]
      have e : shs s (spr s a) = spr s (sh a) := by
        funext i
        exact spr_add s hs a i
      rw [e, ih m (by omega), sh_cv]
      unfold spr
      split
      · rfl
      · rw [Int.mul_zero, Int.zero_add]
theorem LD.spr {N : Nat} {F c : Sr} (s : Nat) (hs : 0 < s) (h : ∀ M, LD M F c) : LD N (spr s F) (fun n => (s : Int) * spr s c n) := fun n _ => by
  rw [cv_smul_left, cv_spr s hs]
  unfold K17.spr
  split
  · rename_i e
    have h1 := h (n / s + 1) (n / s) (by omega)
    have e2 : ((n : Nat) : Int) = (s : Int) * ((n / s : Nat) : Int) := by
      have := Nat.div_add_mod n s
      rw [e, Nat.add_zero] at this
      rw [← Int.natCast_mul, this]
    rw [e2, Int.mul_assoc, h1, Int.mul_neg]
  · simp
theorem LD.spr' {N M : Nat} {F c : Sr} (s : Nat) (hs : 0 < s) (h : LD M F c) (hM : N ≤ M * s) : LD N (K17.spr s F) (fun n => (s : Int) * K17.spr s c n) := fun n hn => by
  rw [cv_smul_left, cv_spr s hs]
  unfold K17.spr
  split
  · rename_i e
    have h1 := h (n / s) ((Nat.div_lt_iff_lt_mul hs).mpr (by omega))
    have e2 : ((n : Nat) : Int) = (s : Int) * ((n / s : Nat) : Int) := by
      have := Nat.div_add_mod n s
      rw [e, Nat.add_zero] at this
      rw [← Int.natCast_mul, this]
    rw [e2, Int.mul_assoc, h1, Int.mul_neg]
  · simp
end K17
/-! Plain mathematics: the powers of 1 - x, the terms of a product. -/
namespace K17
/-- (1 - x) ** r, r from 0 on -/
def pn : Nat → Nat → Int
  | 0, i => if i = 0 then 1 else 0
  | r + 1, 0 => 1
  | r + 1, i + 1 => pn r (i + 1) - pn r i
/-- (1 - x) ** -m -/
def psum (f : Nat → Int) : Nat → Int
  | 0 => f 0
  | i + 1 => psum f i + f (i + 1)
def qn : Nat → Nat → Int
  | 0 => fun i => if i = 0 then 1 else 0
  | m + 1 => psum (qn m)
theorem pn_zero (r : Nat) : pn r 0 = 1 := by cases r <;> rfl
theorem qn_zero : ∀ r : Nat, qn r 0 = 1
  | 0 => rfl
  | r + 1 => qn_zero r
theorem pn_rec : ∀ (r i : Nat), ((i : Int) + 1) * pn r (i + 1) = ((i : Int) - r) * pn r i
  | 0, i => by
    show ((i : Int) + 1) * (if i + 1 = 0 then 1 else 0) = ((i : Int) - ((0 : Nat) : Int)) * (if i = 0 then 1 else 0)
    rw [if_neg (by omega)]
    by_cases h : i = 0
    · subst h
      simp
    · rw [if_neg h]
      simp
  | r + 1, 0 => by
    have h := pn_rec r 0
    have h1 : pn r 1 = - (r : Int) := by
      simp [pn_zero] at h
      exact h
    show (((0 : Nat) : Int) + 1) * (pn r 1 - pn r 0) = (((0 : Nat) : Int) - ((r + 1 : Nat) : Int)) * 1
    rw [h1, pn_zero]
    omega
  | r + 1, i + 1 => by
    have h1 := pn_rec r (i + 1)
    have h2 := pn_rec r i
    show (((i + 1 : Nat) : Int) + 1) * (pn r (i + 1 + 1) - pn r (i + 1)) = (((i + 1 : Nat) : Int) - ((r + 1 : Nat) : Int)) * (pn r (i + 1) - pn r i)
    rw [Int.mul_sub, h1, Int.mul_sub]
    have e1 : (((i + 1 : Nat) : Int) - ((r + 1 : Nat) : Int)) = (i : Int) - r := by omega
    rw [e1, ← h2]
    have e2 : (((i + 1 : Nat) : Int) - (r : Int)) * pn r (i + 1) = ((i : Int) - r) * pn r (i + 1) + pn r (i + 1) := by
      rw [show (((i + 1 : Nat) : Int) - (r : Int)) = ((i : Int) - r) + 1 by omega, Int.add_mul, Int.one_mul]
    have e3 : (((i + 1 : Nat) : Int) + 1) * pn r (i + 1) = ((i : Int) + 1) * pn r (i + 1) + pn r (i + 1) := by
      rw [show (((i + 1 : Nat) : Int) + 1) = ((i : Int) + 1) + 1 by omega, Int.add_mul, Int.one_mul]
    rw [e2, e3]
    omega
theorem qn_both : ∀ (m : Nat), (∀ i : Nat, ((i : Int) + 1) * qn m (i + 1) = ((i : Int) + m) * qn m i) ∧ (∀ i : Nat, (m : Int) * qn (m + 1) i = ((m : Int) + i) * qn m i) := by
  have A : ∀ m : Nat, (∀ i : Nat, ((i : Int) + 1) * qn m (i + 1) = ((i : Int) + m) * qn m i) → (∀ i : Nat, (m : Int) * qn (m + 1) i = ((m : Int) + i) * qn m i) := by
    intro m hB i
    induction i with
    | zero =>
      rw [qn_zero, qn_zero]
      simp
    | succ i ih =>
      show (m : Int) * (qn (m + 1) i + qn m (i + 1)) = _
      rw [Int.mul_add, ih]
      have h := hB i
      have e1 : ((m : Int) + i) * qn m i = ((i : Int) + 1) * qn m (i + 1) := by rw [h, Int.add_comm]
      rw [e1, ← Int.add_mul]
      congr 1
      omega
  intro m
  induction m with
  | zero =>
    have hB : ∀ i : Nat, ((i : Int) + 1) * qn 0 (i + 1) = ((i : Int) + (0 : Nat)) * qn 0 i := fun i => by
      show ((i : Int) + 1) * (if i + 1 = 0 then 1 else 0) = ((i : Int) + ((0 : Nat) : Int)) * (if i = 0 then 1 else 0)
      rw [if_neg (by omega)]
      by_cases h : i = 0
      · subst h
        simp
      · rw [if_neg h]
        simp
    exact ⟨hB, A 0 hB⟩
  | succ m ih =>
    have hB : ∀ i : Nat, ((i : Int) + 1) * qn (m + 1) (i + 1) = ((i : Int) + (m + 1 : Nat)) * qn (m + 1) i := fun i => by
      show ((i : Int) + 1) * (qn (m + 1) i + qn m (i + 1)) = _
      have h1 := ih.1 i
      have h2 := ih.2 i
      rw [Int.mul_add, h1, show ((i : Int) + (m : Int)) * qn m i = (m : Int) * qn (m + 1) i by rw [h2, Int.add_comm], ← Int.add_mul]
      congr 1
      omega
    exact ⟨hB, A (m + 1) hB⟩
/-- (1 - x) ** r -/
def bn (r : Int) (i : Nat) : Int := if 0 ≤ r then pn r.toNat i else qn (-r).toNat i
theorem bn_zero (r : Int) : bn r 0 = 1 := by
  unfold bn
  split
  · exact pn_zero _
  · exact qn_zero _
theorem bn_rec (r : Int) (i : Nat) : ((i : Int) + 1) * bn r (i + 1) = ((i : Int) - r) * bn r i := by
  unfold bn
  split
  · rename_i h
    have := pn_rec r.toNat i
    rw [show ((r.toNat : Nat) : Int) = r by omega] at this
    exact this
  · rename_i h
    have := (qn_both (-r).toNat).1 i
    rw [show (((-r).toNat : Nat) : Int) = -r by omega] at this
    rw [this]
    congr 1
/-- the next one, as it is reckoned: f_(i - 1) (i - 1 - r) // i, i from 1 on -/
theorem bn_next (r : Int) (i : Nat) : (bn r i * (((i + 1 : Nat) : Int) - 1 - r)).fdiv ((i + 1 : Nat) : Int) = bn r (i + 1) := by
  have h := bn_rec r i
  have e : bn r i * (((i + 1 : Nat) : Int) - 1 - r) = ((i + 1 : Nat) : Int) * bn r (i + 1) := by
    rw [Int.mul_comm, show (((i + 1 : Nat) : Int) - 1 - r) = (i : Int) - r by omega, ← h]
    congr 1
  rw [e, Int.fdiv_eq_ediv_of_nonneg _ (by omega)]
  exact Int.mul_ediv_cancel_left _ (by omega)
/-- the logarithmic terms of (1 - x) ** r -/
def lr (r : Int) : Sr := fun n => if n = 0 then 0 else r
theorem cv_lr (r : Int) (b : Sr) : ∀ n, cv (lr r) b (n + 1) = cv (lr r) b n + r * b n
  | 0 => by
    rw [cv_succ, cv_zero, cv_zero]
    show (0 : Int) * b 1 + r * b 0 = 0 * b 0 + r * b 0
    omega
  | n + 1 => by
    rw [cv_succ' (n + 1) (lr r) b, cv_lr r (sh b) n, cv_succ' n (lr r) b]
    show cv (lr r) (sh b) n + r * b (n + 1) + r * b 0 = cv (lr r) (sh b) n + r * b 0 + r * b (n + 1)
    omega
theorem LD.bn (N : Nat) (r : Int) : LD N (K17.bn r) (lr r) := by
  intro n _
  induction n with
  | zero =>
    rw [cv_zero]
    show ((0 : Nat) : Int) * _ = -(0 * _)
    simp
  | succ n ih =>
    rename_i hn
    have h := bn_rec r n
    rw [cv_lr, show ((n + 1 : Nat) : Int) = (n : Int) + 1 by omega, h, Int.sub_mul, ih (by omega)]
    omega
/-! ### products -/
abbrev Pr := List (Int × Int)
/-- the sum of the divisors -/
def sg (n : Nat) : Int := ((List.range n).map fun i => if n % (i + 1) = 0 then ((i + 1 : Nat) : Int) else 0).sum
/-- what a pair gives to the logarithmic term at j -/
def lp (p : Int × Int) (j : Nat) : Int := if j = 0 then 0 else if j % p.1.toNat = 0 then p.2 * p.1 * sg (j / p.1.toNat) else 0
def cs (ps : Pr) (j : Nat) : Int := (ps.map fun p => lp p j).sum
theorem lp_zero (p : Int × Int) : lp p 0 = 0 := by
  unfold lp
  rw [if_pos rfl]
theorem cs_nil (j : Nat) : cs [] j = 0 := rfl
theorem cs_cons (p : Int × Int) (ps : Pr) (j : Nat) : cs (p :: ps) j = lp p j + cs ps j := by
  unfold cs
  rw [List.map_cons, List.sum_cons]
theorem cs_zero : ∀ ps : Pr, cs ps 0 = 0
  | [] => rfl
  | p :: ps => by
    rw [cs_cons, lp_zero, cs_zero ps]
    rfl
theorem cs_append (ps qs : Pr) (j : Nat) : cs (ps ++ qs) j = cs ps j + cs qs j := by
  induction ps with
  | nil =>
    rw [cs_nil, List.nil_append]
    omega
  | cons p ps ih =>
    rw [List.cons_append, cs_cons, cs_cons, ih]
    omega
/-- one step of multiplying out: the factor (1 - q ** s) ** r -/
def mul1 (F : Sr) (s : Nat) (r : Int) : Sr := cv F (spr s (bn r))
/-- what the sizes d, 2 d, .., k d give to the logarithmic term at j -/
def ls (d : Nat) (r : Int) (k : Nat) (j : Nat) : Int := if j = 0 then 0 else ((List.range k).map fun m => if j % (d * (m + 1)) = 0 then r * ((d * (m + 1) : Nat) : Int) else 0).sum
theorem ls_zero (d : Nat) (r : Int) (j : Nat) : ls d r 0 j = 0 := by
  unfold ls
  split <;> rfl
theorem ls_succ (d : Nat) (r : Int) (k j : Nat) : ls d r (k + 1) j = ls d r k j + ((d * (k + 1) : Nat) : Int) * spr (d * (k + 1)) (lr r) j := by
  unfold ls spr lr
  by_cases h : j = 0
  · subst h
    rw [if_pos rfl, if_pos rfl, if_pos (Nat.zero_mod _), if_pos (Nat.zero_div _)]
    simp
  · rw [if_neg h, if_neg h, List.range_succ, List.map_append, List.sum_append, List.map_singleton, List.sum_singleton]
    congr 1
    by_cases h2 : j % (d * (k + 1)) = 0
    · rw [if_pos h2, if_pos h2, if_neg]
      · rw [Int.mul_comm]
      · intro h3
        have := Nat.div_add_mod j (d * (k + 1))
        rw [h2, h3] at this
        omega
    · rw [if_neg h2, if_neg h2, Int.mul_zero]
theorem LD.step {N : Nat} {F c : Sr} (h : LD N F c) (d : Nat) (hd : 0 < d) (r : Int) (k : Nat) (c' : Sr) (hc : ∀ j, j < N → c j = c' j + ls d r k j) :
    LD N (mul1 F (d * (k + 1)) r) (fun j => c' j + ls d r (k + 1) j) := by
  have hs : 0 < d * (k + 1) := Nat.mul_pos hd (Nat.succ_pos k)
  refine (h.mul (LD.spr (N := N) (d * (k + 1)) hs fun M => LD.bn M r)).congr (fun _ _ => rfl) fun j hj => ?_
  show c j + ((d * (k + 1) : Nat) : Int) * K17.spr (d * (k + 1)) (lr r) j = c' j + ls d r (k + 1) j
  rw [ls_succ, hc j hj]
  omega
theorem mul1_zero (F : Sr) (s : Nat) (r : Int) : mul1 F s r 0 = F 0 := by
  unfold mul1
  rw [cv_zero, spr_zero, bn_zero, Int.mul_one]
/-- all sizes below N: the pair's part -/
theorem ls_all {d : Nat} (hd : 0 < d) (r : Int) {k j N : Nat} (hj : j < N) (hk : N ≤ d * (k + 1)) : ls d r k j = lp ((d : Int), r) j := by
  unfold ls lp
  by_cases h : j = 0
  · rw [if_pos h, if_pos h]
  · rw [if_neg h, if_neg h]
    have ed : ((d : Int), r).1.toNat = d := by show (d : Int).toNat = d; omega
    rw [ed]
    by_cases h2 : j % d = 0
    · rw [if_pos h2]
      obtain ⟨q, rfl⟩ : ∃ q, j = d * q := ⟨j / d, by
        have := Nat.div_add_mod j d
        omega⟩
      have hq : 0 < q := Nat.pos_of_ne_zero fun z => h (by rw [z, Nat.mul_zero])
      have hqk : q < k + 1 := Nat.lt_of_mul_lt_mul_left (Nat.lt_of_lt_of_le hj hk)
      rw [Nat.mul_div_cancel_left q hd]
      unfold sg
      have e1 : ∀ m : Nat, (if d * q % (d * (m + 1)) = 0 then r * ((d * (m + 1) : Nat) : Int) else 0) = r * (d : Int) * (if q % (m + 1) = 0 then ((m + 1 : Nat) : Int) else 0) := fun m => by
        rw [Nat.mul_mod_mul_left]
        by_cases h3 : q % (m + 1) = 0
        · rw [if_pos h3, if_pos (by rw [h3, Nat.mul_zero]), Int.natCast_mul, Int.mul_assoc]
        · rw [if_neg h3, if_neg (fun z => h3 ((Nat.mul_eq_zero.mp z).resolve_left (by omega))), Int.mul_zero]
      have e2 : ∀ l : List Nat, (l.map fun m => (if d * q % (d * (m + 1)) = 0 then r * ((d * (m + 1) : Nat) : Int) else 0)).sum = r * (d : Int) * (l.map fun m => (if q % (m + 1) = 0 then ((m + 1 : Nat) : Int) else 0)).sum := fun l => by
        induction l with
        | nil => simp
        | cons x l ih => rw [List.map_cons, List.map_cons, List.sum_cons, List.sum_cons, Int.mul_add, ih, e1]
      rw [e2]
      congr 1
      -- terms beyond q are 0
      have e3 : ∀ t : Nat, ((List.range (q + t)).map fun m => (if q % (m + 1) = 0 then ((m + 1 : Nat) : Int) else 0)).sum = ((List.range q).map fun m => (if q % (m + 1) = 0 then ((m + 1 : Nat) : Int) else 0)).sum := fun t => by
        induction t with
        | zero => rfl
        | succ t ih =>
          rw [← Nat.add_assoc, List.range_succ, List.map_append, List.sum_append, ih, List.map_singleton, List.sum_singleton, if_neg]
          · omega
          · rw [Nat.mod_eq_of_lt (by omega)]
            omega
      have := e3 (k - q)
      rw [show q + (k - q) = k by omega] at this
      exact this
    · rw [if_neg h2]
      have e1 : ∀ l : List Nat, (l.map fun m => (if j % (d * (m + 1)) = 0 then r * ((d * (m + 1) : Nat) : Int) else 0)).sum = 0 := fun l => by
        induction l with
        | nil => rfl
        | cons x l ih =>
          rw [List.map_cons, List.sum_cons, ih, if_neg]
          · rfl
          · intro z
            apply h2
            have : d ∣ j := Nat.dvd_trans (Nat.dvd_mul_right d (x + 1)) (Nat.dvd_of_mod_eq_zero z)
            exact Nat.mod_eq_zero_of_dvd this
      exact e1 _
end K17
/-! Plain mathematics: terms by the logarithmic rule; rows as lists. -/
namespace K17
/-- the row with the logarithmic terms c, as far as n -/
def tn (c : Nat → Int) : Nat → List Int
  | 0 => [1]
  | n + 1 => tn c n ++ [(-(((List.range (n + 1)).map fun i => c (i + 1) * (tn c n).getD (n - i) 0).sum)) / ((n + 1 : Nat) : Int)]
def tm (c : Nat → Int) : Sr := fun n => (tn c n).getD n 0
theorem tn_len (c : Nat → Int) : ∀ n, (tn c n).length = n + 1
  | 0 => rfl
  | n + 1 => by
    show (tn c n ++ [_]).length = _
    rw [List.length_append, tn_len c n]
    rfl
theorem tn_get (c : Nat → Int) : ∀ n i, i ≤ n → (tn c n).getD i 0 = tm c i
  | 0, i, h => by
    obtain rfl : i = 0 := by omega
    rfl
  | n + 1, i, h => by
    by_cases e : i = n + 1
    · subst e
      rfl
    · rw [← tn_get c n i (by omega)]
      show (tn c n ++ [_]).getD i 0 = _
      rw [List.getD_eq_getElem?_getD, List.getD_eq_getElem?_getD, List.getElem?_append_left (by rw [tn_len]; omega)]
theorem tm_zero (c : Nat → Int) : tm c 0 = 1 := rfl
theorem tm_succ (c : Nat → Int) (n : Nat) : tm c (n + 1) = (-(((List.range (n + 1)).map fun i => c (i + 1) * tm c (n - i)).sum)) / ((n + 1 : Nat) : Int) := by
  show (tn c n ++ [_]).getD (n + 1) 0 = _
  rw [List.getD_eq_getElem?_getD, List.getElem?_append_right (by rw [tn_len]; omega), tn_len, Nat.sub_self]
  show (-(((List.range (n + 1)).map fun i => c (i + 1) * (tn c n).getD (n - i) 0).sum)) / ((n + 1 : Nat) : Int) = _
  have e : ((List.range (n + 1)).map fun i => c (i + 1) * (tn c n).getD (n - i) 0) = ((List.range (n + 1)).map fun i => c (i + 1) * tm c (n - i)) := by
    refine List.map_congr_left fun i _ => ?_
    rw [tn_get c n (n - i) (by omega)]
  rw [e]
/-- the product as a sum -/
theorem cv_sum : ∀ (n : Nat) (a b : Sr), cv a b n = ((List.range (n + 1)).map fun i => a i * b (n - i)).sum
  | 0, a, b => by
    rw [cv_zero]
    simp
  | n + 1, a, b => by
    rw [cv_succ, cv_sum n (sh a) b, List.range_succ_eq_map (n := n + 1), List.map_cons, List.sum_cons, List.map_map]
    congr 1
    congr 1
    refine List.map_congr_left fun i _ => ?_
    show a (i + 1) * b (n - i) = a (i + 1) * b (n + 1 - (i + 1))
    rw [Nat.add_sub_add_right]
theorem tm_cv {c : Sr} (h0 : c 0 = 0) (n : Nat) : tm c (n + 1) = (-(cv c (tm c) (n + 1))) / ((n + 1 : Nat) : Int) := by
  rw [tm_succ, cv_succ, h0, Int.zero_mul, Int.zero_add, cv_sum n (sh c) (tm c)]
  rfl
theorem LD.tm {N : Nat} {F c : Sr} (h : LD N F c) (h0 : c 0 = 0) (hz : F 0 = 1) : ∀ n, n < N → tm c n = F n := by
  intro n
  induction n using Nat.strongRecOn with
  | ind n ih =>
    intro hn
    cases n with
    | zero => exact hz.symm
    | succ n =>
      have e := h (n + 1) hn
      rw [tm_cv h0]
      rw [cv_succ, h0, Int.zero_mul, Int.zero_add] at e ⊢
      rw [cv_congr n (a := sh c) (a' := sh c) (b := K17.tm c) (b' := F) (fun _ _ => rfl) (fun i hi => ih i (by omega) (by omega)), ← e]
      exact Int.mul_ediv_cancel_left _ (by omega)
/-! ### the product of all pairs, size by size -/
/-- the sizes d, 2 d, .., k d -/
def mulK (d : Nat) (r : Int) : Nat → Sr → Sr
  | 0, F => F
  | k + 1, F => mul1 (mulK d r k F) (d * (k + 1)) r
theorem mulK_zero (d : Nat) (r : Int) : ∀ (k : Nat) (F : Sr), mulK d r k F 0 = F 0
  | 0, _ => rfl
  | k + 1, F => by
    show mul1 (mulK d r k F) (d * (k + 1)) r 0 = F 0
    rw [mul1_zero, mulK_zero d r k F]
theorem LD.mulK {N d : Nat} (hd : 0 < d) (r : Int) {F c : Sr} (h : LD N F c) : ∀ k, LD N (K17.mulK d r k F) (fun j => c j + ls d r k j)
  | 0 => h.congr (fun _ _ => rfl) fun j _ => by
    rw [ls_zero]
    omega
  | k + 1 => LD.step (LD.mulK hd r h k) d hd r k c fun j _ => rfl
/-- how many sizes lie below N -/
def sizes (d N : Nat) : Nat := (N - 1) / d
def mulAll (N : Nat) : Pr → Sr → Sr
  | [], F => F
  | p :: ps, F => mulAll N ps (mulK p.1.toNat p.2 (sizes p.1.toNat N) F)
theorem sizes_le {d N : Nat} (hd : 0 < d) : N ≤ d * (sizes d N + 1) := by
  unfold sizes
  have := Nat.lt_mul_div_succ (N - 1) hd
  omega
theorem LD.mulAll {N : Nat} : ∀ {ps : Pr} {F c : Sr}, (∀ p ∈ ps, 1 ≤ p.1) → LD N F c → LD N (K17.mulAll N ps F) (fun j => c j + cs ps j)
  | [], F, c, _, h => h.congr (fun _ _ => rfl) fun j _ => by
    rw [cs_nil]
    omega
  | p :: ps, F, c, hp, h => by
    have h1 := hp p List.mem_cons_self
    have hd : 0 < p.1.toNat := by omega
    refine (LD.mulAll (ps := ps) (fun q hq => hp q (List.mem_cons_of_mem _ hq)) (LD.mulK hd p.2 h (sizes p.1.toNat N))).congr (fun _ _ => rfl) fun j hj => ?_
    show c j + ls p.1.toNat p.2 (sizes p.1.toNat N) j + cs ps j = c j + cs (p :: ps) j
    rw [cs_cons, ls_all hd p.2 hj (sizes_le hd), show ((p.1.toNat : Nat) : Int) = p.1 by omega]
    show c j + lp p j + cs ps j = c j + (lp p j + cs ps j)
    omega
theorem mulAll_zero {N : Nat} : ∀ (ps : Pr) (F : Sr), mulAll N ps F 0 = F 0
  | [], _ => rfl
  | p :: ps, F => by
    show mulAll N ps (mulK p.1.toNat p.2 (sizes p.1.toNat N) F) 0 = F 0
    rw [mulAll_zero ps, mulK_zero]
/-- THE TERMS: by the logarithmic rule as by multiplying out -/
theorem terms_eq {N : Nat} {ps : Pr} (hp : ∀ p ∈ ps, 1 ≤ p.1) : ∀ n, n < N → tm (cs ps) n = mulAll N ps one n := by
  have h := LD.mulAll (N := N) hp (LD.one N)
  refine LD.tm (h.congr (fun _ _ => rfl) fun j _ => ?_) (cs_zero ps) ?_
  · show zr j + cs ps j = cs ps j
    show (0 : Int) + _ = _
    omega
  · rw [mulAll_zero]
    rfl
/-- the terms keep the logarithmic rule -/
theorem LD.terms {ps : Pr} (hp : ∀ p ∈ ps, 1 ≤ p.1) (N : Nat) : LD N (K17.tm (cs ps)) (cs ps) := by
  have h := LD.mulAll (N := N) hp (LD.one N)
  refine h.congr (fun n hn => (terms_eq hp n hn).symm) fun j _ => ?_
  show (0 : Int) + _ = _
  omega
/-! ### lists of rows -/
def rw_ (N : Nat) (f : Nat → Int) : List Int := (List.range N).map f
theorem rw_len (N : Nat) (f : Nat → Int) : (rw_ N f).length = N := by
  unfold rw_
  rw [List.length_map, List.length_range]
theorem rw_get {N i : Nat} (f : Nat → Int) (h : i < N) : (rw_ N f)[i]? = some (f i) := by
  unfold rw_
  rw [List.getElem?_map, List.getElem?_range h]
  rfl
theorem rw_set {N j : Nat} (f : Nat → Int) (v : Int) : (rw_ N f).set j v = rw_ N fun i => if i = j then v else f i := by
  refine List.ext_getElem? fun i => ?_
  rw [List.getElem?_set]
  by_cases hi : i < N
  · by_cases h : j = i
    · subst h
      rw [if_pos rfl, rw_len, if_pos hi, rw_get _ hi, if_pos rfl]
    · rw [if_neg h, rw_get _ hi, rw_get _ hi, if_neg (fun z => h z.symm)]
  · have e : ∀ g : Nat → Int, (rw_ N g)[i]? = none := fun g => List.getElem?_eq_none (by rw [rw_len]; omega)
    rw [e, e, rw_len]
    split
    · rw [if_neg (by omega)]
    · rfl
theorem rw_congr {N : Nat} {f g : Nat → Int} (h : ∀ i, i < N → f i = g i) : rw_ N f = rw_ N g := by
  unfold rw_
  exact List.map_congr_left fun i hi => h i (List.mem_range.mp hi)
end K17
namespace K17
/-! ### a pair's part, size by size -/
def lpk (p : Int × Int) (k j : Nat) : Int := if j ≠ 0 ∧ j % p.1.toNat = 0 ∧ j / p.1.toNat ≤ k then p.2 * p.1 * sg (j / p.1.toNat) else 0
theorem lpk_zero (p : Int × Int) (j : Nat) : lpk p 0 j = 0 := by
  unfold lpk
  split
  · rename_i h
    obtain ⟨h1, h2, h3⟩ := h
    have := Nat.div_add_mod j p.1.toNat
    rw [h2, Nat.le_zero.mp h3, Nat.mul_zero] at this
    omega
  · rfl
theorem lpk_here {p : Int × Int} (hd : 0 < p.1.toNat) (k : Nat) : lpk p k ((k + 1) * p.1.toNat) = 0 := by
  unfold lpk
  rw [if_neg]
  rintro ⟨_, _, h⟩
  rw [Nat.mul_div_cancel _ hd] at h
  omega
theorem lpk_succ {p : Int × Int} (hd : 0 < p.1.toNat) (k j : Nat) : lpk p (k + 1) j = if j = (k + 1) * p.1.toNat then p.2 * p.1 * sg (k + 1) else lpk p k j := by
  by_cases h : j = (k + 1) * p.1.toNat
  · subst h
    rw [if_pos rfl]
    unfold lpk
    have hne : (k + 1) * p.1.toNat ≠ 0 := Nat.ne_of_gt (Nat.mul_pos (Nat.succ_pos k) hd)
    rw [Nat.mul_div_cancel _ hd, if_pos ⟨hne, Nat.mul_mod_left _ _, Nat.le_refl _⟩]
  · rw [if_neg h]
    unfold lpk
    by_cases h1 : j ≠ 0 ∧ j % p.1.toNat = 0
    · by_cases h2 : j / p.1.toNat ≤ k
      · rw [if_pos ⟨h1.1, h1.2, by omega⟩, if_pos ⟨h1.1, h1.2, h2⟩]
      · have hn : ¬ j / p.1.toNat ≤ k + 1 := by
          intro h3
          have e : j / p.1.toNat = k + 1 := by omega
          have := Nat.div_add_mod j p.1.toNat
          rw [h1.2, e, Nat.add_zero, Nat.mul_comm] at this
          exact h this.symm
        rw [if_neg (fun z => hn z.2.2), if_neg (fun z => h2 z.2.2)]
    · rw [if_neg (fun z => h1 ⟨z.1, z.2.1⟩), if_neg (fun z => h1 ⟨z.1, z.2.1⟩)]
theorem lpk_all {p : Int × Int} {N j : Nat} (hd : 0 < p.1.toNat) (hj : j < N) : lpk p (sizes p.1.toNat N) j = lp p j := by
  unfold lpk lp
  by_cases h : j = 0
  · rw [if_pos h, if_neg (fun z => z.1 h)]
  · rw [if_neg h]
    by_cases h2 : j % p.1.toNat = 0
    · rw [if_pos h2, if_pos]
      refine ⟨h, h2, ?_⟩
      unfold sizes
      exact Nat.div_le_div_right (by omega)
    · rw [if_neg h2, if_neg (fun z => h2 z.2.1)]
theorem cs_snoc (ps : Pr) (p : Int × Int) (j : Nat) : cs (ps ++ [p]) j = cs ps j + lp p j := by
  rw [cs_append, cs_cons, cs_nil]
  omega
/-- the sum of the first k parts c_j T_(n - j), j from 1 on -/
def part (c T : Nat → Int) (n k : Nat) : Int := ((List.range k).map fun i => c (i + 1) * T (n - (i + 1))).sum
theorem part_zero (c T : Nat → Int) (n : Nat) : part c T n 0 = 0 := rfl
theorem part_succ (c T : Nat → Int) (n k : Nat) : part c T n (k + 1) = part c T n k + c (k + 1) * T (n - (k + 1)) := by
  unfold part
  rw [List.range_succ, List.map_append, List.sum_append, List.map_singleton, List.sum_singleton]
theorem tm_part (c : Nat → Int) (n : Nat) : tm c (n + 1) = (-(part c (tm c) (n + 1) (n + 1))) / ((n + 1 : Nat) : Int) := by
  have e : part c (tm c) (n + 1) (n + 1) = ((List.range (n + 1)).map fun i => c (i + 1) * tm c (n - i)).sum := by
    unfold part
    refine congrArg List.sum (List.map_congr_left fun i _ => ?_)
    rw [Nat.add_sub_add_right]
  rw [tm_succ, e]
/-- the list found, so many terms told and 0 behind them -/
theorem rw_snoc (f : Nat → Int) (n : Nat) {N : Nat} (h : n < N) : rw_ N (fun i => if i = n then f n else if i < n then f i else 0) = rw_ N (fun i => if i < n + 1 then f i else 0) := by
  refine rw_congr fun i _ => ?_
  by_cases h1 : i = n
  · subst h1
    rw [if_pos rfl, if_pos (by omega)]
  · rw [if_neg h1]
    by_cases h2 : i < n
    · rw [if_pos h2, if_pos (by omega)]
    · rw [if_neg h2, if_neg (by omega)]
theorem rw_rep (N : Nat) (x : Int) : rw_ N (fun _ => x) = List.replicate N x := by
  refine List.ext_getElem? fun i => ?_
  by_cases h : i < N
  · rw [rw_get _ h, List.getElem?_replicate, if_pos h]
  · rw [List.getElem?_eq_none (by rw [rw_len]; omega), List.getElem?_eq_none (by rw [List.length_replicate]; omega)]
theorem rw_one {N : Nat} (h : 1 ≤ N) (f : Nat → Int) (hf : f 0 = 1) : rw_ N (fun i => if i < 1 then f i else 0) = 1 :: List.replicate (N - 1) 0 := by
  obtain ⟨M, rfl⟩ : ∃ M, N = M + 1 := ⟨N - 1, by omega⟩
  refine List.ext_getElem? fun i => ?_
  cases i with
  | zero =>
    rw [rw_get _ (by omega), if_pos (by omega), hf]
    rfl
  | succ i =>
    rw [List.getElem?_cons_succ, Nat.add_sub_cancel]
    by_cases h : i < M
    · rw [rw_get _ (by omega), if_neg (by omega), List.getElem?_replicate, if_pos h]
    · rw [List.getElem?_eq_none (by rw [rw_len]; omega), List.getElem?_eq_none (by rw [List.length_replicate]; omega)]
end K17
/-! Plain mathematics: how great the terms may be. -/
namespace K17
theorem sg_fin : ∀ q : _root_.Fin 30, 0 ≤ sg q.val ∧ sg q.val ≤ 900 := by decide +kernel
theorem sg_le {q : Nat} (h : q < 30) : 0 ≤ sg q ∧ sg q ≤ 900 := sg_fin ⟨q, h⟩
theorem sum_abs_le (B : Nat) : ∀ (l : List Int), (∀ x ∈ l, x.natAbs ≤ B) → l.sum.natAbs ≤ l.length * B
  | [], _ => by simp
  | x :: l, h => by
    have h1 := h x List.mem_cons_self
    have h2 := sum_abs_le B l fun y hy => h y (List.mem_cons_of_mem _ hy)
    rw [List.sum_cons, List.length_cons, Nat.succ_mul]
    have := Int.natAbs_add_le x l.sum
    omega
theorem lp_abs {p : Int × Int} {j : Nat} (hj : j < 30) (h0 : 1 ≤ p.1) (h1 : -30 ≤ p.2 ∧ p.2 ≤ 30) : (lp p j).natAbs ≤ 30 * (30 * 900) := by
  unfold lp
  by_cases h : j = 0
  · rw [if_pos h]
    decide
  · rw [if_neg h]
    by_cases h2 : j % p.1.toNat = 0
    · rw [if_pos h2]
      have hd : p.1.toNat ≤ j := Nat.le_of_dvd (by omega) (Nat.dvd_of_mod_eq_zero h2)
      have hs := sg_le (q := j / p.1.toNat) (Nat.lt_of_le_of_lt (Nat.div_le_self _ _) hj)
      rw [Int.mul_assoc, Int.natAbs_mul, Int.natAbs_mul]
      exact Nat.mul_le_mul (by omega) (Nat.mul_le_mul (by omega) (by omega))
    · rw [if_neg h2]
      decide
theorem cs_abs : ∀ {ps : Pr} {j : Nat}, j < 30 → (∀ p ∈ ps, 1 ≤ p.1) → (∀ p ∈ ps, -30 ≤ p.2 ∧ p.2 ≤ 30) → ps.length ≤ 8 → (cs ps j).natAbs ≤ 2 ^ 23 := by
  intro ps j hj h0 h1 hl
  have h := sum_abs_le (30 * (30 * 900)) (ps.map fun p => lp p j) fun x hx => by
    obtain ⟨p, hp, rfl⟩ := List.mem_map.mp hx
    exact lp_abs hj (h0 p hp) (h1 p hp)
  rw [List.length_map] at h
  have : ps.length * (30 * (30 * 900)) ≤ 8 * (30 * (30 * 900)) := Nat.mul_le_mul hl (Nat.le_refl _)
  have e : cs ps j = (ps.map fun p => lp p j).sum := rfl
  rw [e]
  omega
theorem ediv_abs {a : Int} {b : Nat} (hb : 0 < b) : (-a / (b : Int)).natAbs ≤ a.natAbs := by
  have h1 : (-a / (b : Int)).natAbs ≤ (-a).natAbs := Int.natAbs_ediv_le_natAbs (-a) (b : Int)
  rw [Int.natAbs_neg] at h1
  exact h1
theorem tm_abs {c : Sr} (hc : ∀ j, j < 30 → (c j).natAbs ≤ 2 ^ 23) : ∀ n, n < 30 → (tm c n).natAbs ≤ 2 ^ (28 * n) := by
  intro n
  induction n using Nat.strongRecOn with
  | ind n ih =>
    intro hn
    cases n with
    | zero =>
      rw [tm_zero]
      decide
    | succ n =>
      rw [tm_succ]
      refine Nat.le_trans (ediv_abs (by omega)) ?_
      have h := sum_abs_le (2 ^ 23 * 2 ^ (28 * n)) ((List.range (n + 1)).map fun i => c (i + 1) * tm c (n - i)) fun x hx => by
        obtain ⟨i, hi, rfl⟩ := List.mem_map.mp hx
        have hi := List.mem_range.mp hi
        rw [Int.natAbs_mul]
        refine Nat.mul_le_mul (hc _ (by omega)) (Nat.le_trans (ih (n - i) (by omega) (by omega)) ?_)
        exact Nat.pow_le_pow_right (by decide) (by omega)
      rw [List.length_map, List.length_range] at h
      refine Nat.le_trans h ?_
      have e : 2 ^ (28 * (n + 1)) = 2 ^ 5 * (2 ^ 23 * 2 ^ (28 * n)) := by
        rw [← Nat.pow_add, ← Nat.pow_add]
        congr 1
        omega
      rw [e]
      exact Nat.mul_le_mul (by omega) (Nat.le_refl _)
/-- below 30 the row is at most 2 ^ e -/
def Bd (F : Sr) (e : Nat) : Prop := ∀ n, n < 30 → (F n).natAbs ≤ 2 ^ e
theorem Bd.mono {F : Sr} {e e' : Nat} (h : Bd F e) (he : e ≤ e') : Bd F e' := fun n hn => Nat.le_trans (h n hn) (Nat.pow_le_pow_right (by decide) he)
theorem bn_abs {r : Int} (h : -30 ≤ r ∧ r ≤ 30) : ∀ i, i < 30 → (bn r i).natAbs ≤ 2 ^ (6 * i)
  | 0, _ => by
    rw [bn_zero]
    decide
  | i + 1, hi => by
    have ih := bn_abs h i (by omega)
    have e := congrArg Int.natAbs (bn_rec r i)
    rw [Int.natAbs_mul, Int.natAbs_mul] at e
    have h1 : 1 * (bn r (i + 1)).natAbs ≤ ((i : Int) + 1).natAbs * (bn r (i + 1)).natAbs := Nat.mul_le_mul (by omega) (Nat.le_refl _)
    have h2 : ((i : Int) - r).natAbs * (bn r i).natAbs ≤ 2 ^ 6 * 2 ^ (6 * i) := Nat.mul_le_mul (by omega) ih
    rw [show 6 * (i + 1) = 6 + 6 * i by omega, Nat.pow_add]
    omega
theorem cv_abs {a b : Sr} {e f : Nat} (ha : Bd a e) (hb : Bd b f) : Bd (cv a b) (5 + (e + f)) := by
  intro n hn
  rw [cv_sum]
  have h := sum_abs_le (2 ^ e * 2 ^ f) ((List.range (n + 1)).map fun i => a i * b (n - i)) fun x hx => by
    obtain ⟨i, hi, rfl⟩ := List.mem_map.mp hx
    have hi := List.mem_range.mp hi
    rw [Int.natAbs_mul]
    exact Nat.mul_le_mul (ha _ (by omega)) (hb _ (by omega))
  rw [List.length_map, List.length_range] at h
  refine Nat.le_trans h ?_
  rw [Nat.pow_add, Nat.pow_add]
  exact Nat.mul_le_mul (by omega) (Nat.le_refl _)
theorem spr_abs {a : Sr} {e s : Nat} (ha : Bd a e) : Bd (spr s a) e := by
  intro n hn
  unfold spr
  split
  · exact ha _ (Nat.lt_of_le_of_lt (Nat.div_le_self _ _) hn)
  · exact Nat.zero_le _
theorem bn_Bd {r : Int} (h : -30 ≤ r ∧ r ≤ 30) : Bd (bn r) 174 := fun n hn => Nat.le_trans (bn_abs h n hn) (Nat.pow_le_pow_right (by decide) (by omega))
theorem mul1_Bd {F : Sr} {e : Nat} (h : Bd F e) {r : Int} (hr : -30 ≤ r ∧ r ≤ 30) (s : Nat) : Bd (mul1 F s r) (e + 180) := by
  have := cv_abs h (spr_abs (s := s) (bn_Bd hr))
  exact this.mono (by omega)
theorem mulK_Bd {d : Nat} {r : Int} (hr : -30 ≤ r ∧ r ≤ 30) {F : Sr} {e : Nat} (h : Bd F e) : ∀ k, Bd (mulK d r k F) (e + 180 * k)
  | 0 => h
  | k + 1 => (mul1_Bd (mulK_Bd hr h k) hr _).mono (by omega)
theorem sizes_lt {d N : Nat} (hN : N ≤ 30) : sizes d N ≤ 29 := by
  unfold sizes
  exact Nat.le_trans (Nat.div_le_self _ _) (by omega)
theorem mulAll_Bd {N : Nat} (hN : N ≤ 30) : ∀ {ps : Pr} {F : Sr} {e : Nat}, (∀ p ∈ ps, -30 ≤ p.2 ∧ p.2 ≤ 30) → Bd F e → Bd (mulAll N ps F) (e + 5220 * ps.length)
  | [], _, _, _, h => h
  | p :: ps, F, e, hp, h => by
    have h1 := mulK_Bd (d := p.1.toNat) (hp p List.mem_cons_self) h (sizes p.1.toNat N)
    have h2 := sizes_lt (d := p.1.toNat) hN
    refine (mulAll_Bd hN (ps := ps) (fun q hq => hp q (List.mem_cons_of_mem _ hq)) h1).mono ?_
    rw [List.length_cons]
    omega
theorem one_Bd : Bd one 0 := by
  intro n _
  show (if n = 0 then (1 : Int) else 0).natAbs ≤ 1
  split <;> decide
theorem tm_Bd {ps : Pr} (h0 : ∀ p ∈ ps, 1 ≤ p.1) (h1 : ∀ p ∈ ps, -30 ≤ p.2 ∧ p.2 ≤ 30) (hl : ps.length ≤ 8) : Bd (tm (cs ps)) 812 := fun n hn =>
  Nat.le_trans (tm_abs (fun j hj => cs_abs hj h0 h1 hl) n hn) (Nat.pow_le_pow_right (by decide) (by omega))
end K17
/-! Plain mathematics: products joined. -/
namespace K17
/-- what is linear in the r -/
def lin (φ : Int → Int) (ps : Pr) : Int := (ps.map fun p => φ p.1 * p.2).sum
theorem lin_nil (φ : Int → Int) : lin φ [] = 0 := rfl
theorem lin_cons (φ : Int → Int) (p : Int × Int) (ps : Pr) : lin φ (p :: ps) = φ p.1 * p.2 + lin φ ps := by
  unfold lin
  rw [List.map_cons, List.sum_cons]
theorem lin_append (φ : Int → Int) : ∀ ps qs : Pr, lin φ (ps ++ qs) = lin φ ps + lin φ qs
  | [], qs => by
    rw [List.nil_append, lin_nil]
    omega
  | p :: ps, qs => by
    rw [List.cons_append, lin_cons, lin_cons, lin_append φ ps qs]
    omega
/-- the sum of the r at d -/
def coef (ps : Pr) (d : Int) : Int := lin (fun e => if e = d then 1 else 0) ps
structure IsJ (ps qs J : Pr) : Prop where
  asc : J.Pairwise (fun p q => p.1 < q.1)
  mem : ∀ d c, (d, c) ∈ J ↔ c = coef (ps ++ qs) d ∧ c ≠ 0
  lin : ∀ φ, lin φ J = lin φ ps + lin φ qs
theorem asc_ext : ∀ {J J' : Pr}, J.Pairwise (fun p q => p.1 < q.1) → J'.Pairwise (fun p q => p.1 < q.1) → (∀ p, p ∈ J ↔ p ∈ J') → J = J'
  | [], [], _, _, _ => rfl
  | [], q :: J', _, _, h => absurd ((h q).mpr List.mem_cons_self) List.not_mem_nil
  | p :: J, [], _, _, h => absurd ((h p).mp List.mem_cons_self) List.not_mem_nil
  | p :: J, q :: J', h1, h2, h => by
    obtain ⟨a1, b1⟩ := List.pairwise_cons.mp h1
    obtain ⟨a2, b2⟩ := List.pairwise_cons.mp h2
    have e : p = q := by
      rcases List.mem_cons.mp ((h p).mp List.mem_cons_self) with e | m1
      · exact e
      · rcases List.mem_cons.mp ((h q).mpr List.mem_cons_self) with e | m2
        · exact e.symm
        · have := a1 q m2
          have := a2 p m1
          omega
    subst e
    congr 1
    refine asc_ext b1 b2 fun r => ⟨fun m => ?_, fun m => ?_⟩
    · rcases List.mem_cons.mp ((h r).mp (List.mem_cons_of_mem _ m)) with e | m'
      · subst e
        have := a1 r m
        omega
      · exact m'
    · rcases List.mem_cons.mp ((h r).mpr (List.mem_cons_of_mem _ m)) with e | m'
      · subst e
        have := a2 r m
        omega
      · exact m'
theorem coef_comm (ps qs : Pr) (d : Int) : coef (ps ++ qs) d = coef (qs ++ ps) d := by
  unfold coef
  rw [lin_append, lin_append]
  omega
theorem IsJ.uniq {ps qs J J' : Pr} (h : IsJ ps qs J) (h' : IsJ ps qs J') : J = J' :=
  asc_ext h.asc h'.asc fun p => (h.mem p.1 p.2).trans (h'.mem p.1 p.2).symm
theorem IsJ.comm {ps qs J : Pr} (h : IsJ ps qs J) : IsJ qs ps J :=
  ⟨h.asc, fun d c => by rw [h.mem d c, coef_comm], fun φ => by rw [h.lin φ]; omega⟩
/-! ### a dict of ints by ints -/
def lk (m : Pr) (d : Int) : Option Int := (m.find? fun p => decide (p.1 = d)).map (·.2)
def lkz (m : Pr) (d : Int) : Int := (lk m d).getD 0
def pm (m : Pr) (d v : Int) : Pr := if (m.any fun p => decide (p.1 = d)) = true then m.map (fun p => if p.1 = d then (p.1, v) else p) else m ++ [(d, v)]
def addM (m : Pr) (p : Int × Int) : Pr := pm m p.1 (lkz m p.1 + p.2)
theorem lk_cons (p : Int × Int) (m : Pr) (d : Int) : lk (p :: m) d = if p.1 = d then some p.2 else lk m d := by
  unfold lk
  rw [List.find?_cons]
  by_cases h : p.1 = d
  · rw [decide_eq_true h, if_pos h]
    rfl
  · rw [decide_eq_false h, if_neg h]
theorem lk_none {m : Pr} {d : Int} (h : d ∉ m.map (·.1)) : lk m d = none := by
  induction m with
  | nil => rfl
  | cons p m ih =>
    rw [List.map_cons, List.mem_cons, not_or] at h
    rw [lk_cons, if_neg (fun z => h.1 z.symm), ih h.2]
theorem lk_mem {m : Pr} {p : Int × Int} (hn : (m.map (·.1)).Nodup) (h : p ∈ m) : lk m p.1 = some p.2 := by
  induction m with
  | nil => exact absurd h List.not_mem_nil
  | cons q m ih =>
    rw [List.map_cons, List.nodup_cons] at hn
    rw [lk_cons]
    rcases List.mem_cons.mp h with e | h
    · subst e
      rw [if_pos rfl]
    · rw [if_neg, ih hn.2 h]
      intro e
      exact hn.1 (by rw [e]; exact List.mem_map.mpr ⟨p, h, rfl⟩)
theorem any_mem (m : Pr) (d : Int) : (m.any fun p => decide (p.1 = d)) = true ↔ d ∈ m.map (·.1) := by
  rw [List.any_eq_true, List.mem_map]
  constructor
  · rintro ⟨p, h1, h2⟩
    exact ⟨p, h1, of_decide_eq_true h2⟩
  · rintro ⟨p, h1, h2⟩
    exact ⟨p, h1, decide_eq_true h2⟩
theorem map_keys (m : Pr) (d v : Int) : (m.map fun p => if p.1 = d then (p.1, v) else p).map (·.1) = m.map (·.1) := by
  rw [List.map_map]
  refine List.map_congr_left fun p _ => ?_
  show (if p.1 = d then (p.1, v) else p).1 = p.1
  split <;> rfl
theorem pm_keys (m : Pr) (d v : Int) : (pm m d v).map (·.1) = if d ∈ m.map (·.1) then m.map (·.1) else m.map (·.1) ++ [d] := by
  unfold pm
  by_cases h : d ∈ m.map (·.1)
  · rw [if_pos ((any_mem m d).mpr h), if_pos h, map_keys]
  · rw [if_neg (fun z => h ((any_mem m d).mp z)), if_neg h, List.map_append]
    rfl
theorem pm_nodup {m : Pr} (h : (m.map (·.1)).Nodup) (d v : Int) : ((pm m d v).map (·.1)).Nodup := by
  rw [pm_keys]
  split
  · exact h
  · rename_i hd
    rw [List.nodup_append]
    refine ⟨h, List.nodup_cons.mpr ⟨List.not_mem_nil, List.nodup_nil⟩, ?_⟩
    intro a ha b hb e
    rw [List.mem_singleton] at hb
    subst hb
    subst e
    exact hd ha
theorem pm_len (m : Pr) (d v : Int) : (pm m d v).length ≤ m.length + 1 := by
  unfold pm
  split
  · rw [List.length_map]
    omega
  · rw [List.length_append]
    exact Nat.le_refl _
theorem lk_pm (m : Pr) (d v e : Int) : lk (pm m d v) e = if e = d then some v else lk m e := by
  unfold pm
  by_cases h : d ∈ m.map (·.1)
  · rw [if_pos ((any_mem m d).mpr h)]
    induction m with
    | nil => exact absurd h List.not_mem_nil
    | cons p m ih =>
      rw [List.map_cons, lk_cons]
      by_cases hp : p.1 = d
      · rw [if_pos hp]
        by_cases he : e = d
        · rw [if_pos he, if_pos (by rw [hp, he])]
        · rw [if_neg he, if_neg (by rw [hp]; exact fun z => he z.symm), lk_cons, if_neg (by rw [hp]; exact fun z => he z.symm)]
          by_cases hm : d ∈ m.map (·.1)
          · have := ih hm
            rw [if_neg he] at this
            exact this
          · have em : (m.map fun p => if p.1 = d then (p.1, v) else p) = m := by
              refine (List.map_congr_left fun q hq => ?_).trans (List.map_id m)
              rw [if_neg]
              · rfl
              · intro z
                exact hm (by rw [← z]; exact List.mem_map.mpr ⟨q, hq, rfl⟩)
            rw [em]
      · rw [if_neg hp]
        have hm : d ∈ m.map (·.1) := by
          rw [List.map_cons] at h
          rcases List.mem_cons.mp h with z | z
          · exact absurd z.symm hp
          · exact z
        rw [lk_cons]
        by_cases h3 : p.1 = e
        · rw [if_pos h3, if_neg (by rw [← h3]; exact hp), if_pos h3]
        · rw [if_neg h3, if_neg h3, ih hm]
  · rw [if_neg (fun z => h ((any_mem m d).mp z))]
    induction m with
    | nil =>
      show lk [(d, v)] e = _
      rw [lk_cons]
      by_cases he : e = d
      · rw [if_pos he, if_pos he.symm]
      · rw [if_neg he, if_neg (fun z => he z.symm)]
    | cons p m ih =>
      rw [List.map_cons, List.mem_cons, not_or] at h
      rw [List.cons_append, lk_cons, lk_cons, ih h.2]
      by_cases h3 : p.1 = e
      · rw [if_pos h3, if_pos h3, if_neg]
        intro z
        exact h.1 (by rw [h3, z])
      · rw [if_neg h3, if_neg h3]
theorem lin_pm (φ : Int → Int) {m : Pr} (hn : (m.map (·.1)).Nodup) (d v : Int) : lin φ (pm m d v) = lin φ m + φ d * (v - lkz m d) := by
  unfold pm lkz
  by_cases h : d ∈ m.map (·.1)
  · rw [if_pos ((any_mem m d).mpr h)]
    induction m with
    | nil => exact absurd h List.not_mem_nil
    | cons p m ih =>
      rw [List.map_cons, List.nodup_cons] at hn
      rw [List.map_cons, lin_cons, lin_cons, lk_cons]
      by_cases hp : p.1 = d
      · have em : (m.map fun p => if p.1 = d then (p.1, v) else p) = m := by
          refine (List.map_congr_left fun q hq => ?_).trans (List.map_id m)
          rw [if_neg]
          · rfl
          · intro z
            exact hn.1 (by rw [hp, ← z]; exact List.mem_map.mpr ⟨q, hq, rfl⟩)
        rw [if_pos hp, if_pos hp, em]
        show φ p.1 * v + lin φ m = φ p.1 * p.2 + lin φ m + φ d * (v - p.2)
        rw [hp, Int.mul_sub]
        omega
      · rw [if_neg hp, if_neg hp]
        have hm : d ∈ m.map (·.1) := by
          rw [List.map_cons] at h
          rcases List.mem_cons.mp h with z | z
          · exact absurd z.symm hp
          · exact z
        rw [ih hn.2 hm]
        omega
  · rw [if_neg (fun z => h ((any_mem m d).mp z)), lin_append, lin_cons, lin_nil, lk_none h]
    show lin φ m + (φ d * v + 0) = lin φ m + φ d * (v - 0)
    rw [Int.sub_zero]
    omega
/-- a dict of the sums of the pairs of l -/
structure IsM (l m : Pr) : Prop where
  nd : (m.map (·.1)).Nodup
  at_ : ∀ d, lkz m d = coef l d
  lin : ∀ φ, lin φ m = lin φ l
  len : m.length ≤ l.length
theorem IsM.nil : IsM [] [] := ⟨List.nodup_nil, fun _ => rfl, fun _ => rfl, Nat.le_refl _⟩
theorem IsM.add {l m : Pr} (h : IsM l m) (p : Int × Int) : IsM (l ++ [p]) (addM m p) := by
  refine ⟨pm_nodup h.nd _ _, fun d => ?_, fun φ => ?_, ?_⟩
  · unfold lkz addM
    rw [lk_pm]
    unfold coef
    rw [lin_append, lin_cons, lin_nil]
    have h1 := h.at_ d
    unfold coef at h1
    by_cases e : d = p.1
    · rw [if_pos e]
      subst e
      show lkz m p.1 + p.2 = _
      rw [h1, if_pos rfl]
      omega
    · rw [if_neg e]
      have h2 : (lk m d).getD 0 = lkz m d := rfl
      rw [h2, h1, if_neg (fun z => e z.symm)]
      omega
  · unfold addM
    rw [lin_pm φ h.nd, lin_append, lin_cons, lin_nil, h.lin φ]
    rw [show lkz m p.1 + p.2 - lkz m p.1 = p.2 by omega]
    omega
  · rw [List.length_append]
    exact Nat.le_trans (pm_len _ _ _) (Nat.succ_le_succ h.len)
/-- a list whose d are all unlike is its own dict -/
theorem IsM.self {l : Pr} (h : (l.map (·.1)).Nodup) : IsM l l := by
  refine ⟨h, fun d => ?_, fun _ => rfl, Nat.le_refl _⟩
  unfold lkz coef
  induction l with
  | nil => rfl
  | cons p l ih =>
    rw [List.map_cons, List.nodup_cons] at h
    rw [lk_cons, lin_cons]
    by_cases e : p.1 = d
    · rw [if_pos e, if_pos e, ← ih h.2, lk_none (by rw [← e]; exact h.1)]
      show p.2 = 1 * p.2 + 0
      omega
    · rw [if_neg e, if_neg e, ih h.2]
      omega
theorem asc_nodup {l : Pr} (h : l.Pairwise (fun p q => p.1 < q.1)) : (l.map (·.1)).Nodup := by
  rw [List.Nodup, List.pairwise_map]
  exact h.imp fun z e => by omega
theorem perm_sum {l l' : List Int} (h : l.Perm l') : l.sum = l'.sum := by
  induction h with
  | nil => rfl
  | cons x _ ih => rw [List.sum_cons, List.sum_cons, ih]
  | swap x y l =>
    rw [List.sum_cons, List.sum_cons, List.sum_cons, List.sum_cons]
    omega
  | trans _ _ h1 h2 => exact h1.trans h2
/-- the pairs that are not 0, in order -/
def jl (m : Pr) (ys : List Int) : Pr := (ys.filter fun d => decide (lkz m d ≠ 0)).map fun d => (d, lkz m d)
theorem jl_isJ {ps qs m : Pr} {ys : List Int} (h : IsM (ps ++ qs) m) (hp : ys.Perm (m.map (·.1))) (hs : ys.Pairwise (· ≤ ·)) : IsJ ps qs (jl m ys) := by
  have nd : ys.Nodup := hp.nodup_iff.mpr h.nd
  have lt : ys.Pairwise (· < ·) := by
    have := List.Pairwise.and hs nd
    exact this.imp fun z => by
      obtain ⟨z1, z2⟩ := z
      omega
  refine ⟨?_, fun d c => ?_, fun φ => ?_⟩
  · unfold jl
    rw [List.pairwise_map]
    exact lt.sublist List.filter_sublist
  · unfold jl
    rw [List.mem_map, ← h.at_ d]
    constructor
    · rintro ⟨e, he, eq⟩
      obtain ⟨_, h2⟩ := List.mem_filter.mp he
      obtain ⟨rfl, rfl⟩ := Prod.mk.inj eq
      exact ⟨rfl, of_decide_eq_true h2⟩
    · rintro ⟨rfl, hc⟩
      refine ⟨d, List.mem_filter.mpr ⟨hp.mem_iff.mpr ?_, decide_eq_true hc⟩, rfl⟩
      refine Decidable.byContradiction fun hd => hc ?_
      unfold lkz
      rw [lk_none hd]
      rfl
  · rw [← lin_append, ← h.lin φ]
    have e1 : ∀ zs : List Int, K17.lin φ (jl m zs) = (zs.map fun d => φ d * lkz m d).sum := fun zs => by
      unfold jl
      induction zs with
      | nil => rfl
      | cons z zs ih =>
        rw [List.filter_cons, List.map_cons, List.sum_cons]
        by_cases hz : lkz m z ≠ 0
        · rw [if_pos (decide_eq_true hz), List.map_cons, lin_cons, ih]
        · rw [if_neg (fun q => hz (of_decide_eq_true q)), ih, show lkz m z = 0 from Decidable.not_not.mp hz, Int.mul_zero]
          omega
    rw [e1, perm_sum (hp.map fun d => φ d * lkz m d), List.map_map]
    unfold K17.lin
    refine congrArg List.sum (List.map_congr_left fun p hpm => ?_)
    show φ p.1 * lkz m p.1 = φ p.1 * p.2
    unfold lkz
    rw [lk_mem h.nd hpm]
    rfl
end K17
namespace K17
theorem lk_some {m : Pr} {d : Int} (h : d ∈ m.map (·.1)) : lk m d = some (lkz m d) := by
  unfold lkz
  induction m with
  | nil => exact absurd h List.not_mem_nil
  | cons p m ih =>
    rw [lk_cons]
    by_cases e : p.1 = d
    · rw [if_pos e]
      rfl
    · rw [if_neg e]
      rw [List.map_cons] at h
      rcases List.mem_cons.mp h with z | z
      · exact absurd z.symm e
      · exact ih z
theorem jl_take (m : Pr) {ys : List Int} {i : Nat} {d : Int} (h : ys[i]? = some d) : jl m (ys.take (i + 1)) = jl m (ys.take i) ++ (if lkz m d ≠ 0 then [(d, lkz m d)] else []) := by
  unfold jl
  rw [List.take_add_one, h, List.filter_append, List.map_append]
  congr 1
  show (List.filter _ [d]).map _ = _
  rw [List.filter_cons]
  by_cases e : lkz m d ≠ 0
  · rw [if_pos (decide_eq_true e), if_pos e]
    rfl
  · rw [if_neg (fun z => e (of_decide_eq_true z)), if_neg e]
    rfl
theorem IsM.snoc {l m : Pr} {i : Nat} {p : Int × Int} (h : IsM (l.take i) m) (e : l[i]? = some p) : IsM (l.take (i + 1)) (addM m p) := by
  rw [List.take_add_one, e]
  exact h.add p
end K17
/-! Plain mathematics: products of lists of terms, inverses. -/
namespace K17
/-- the first i summands of the product at n -/
def cvp (f g : Nat → Int) (i n : Nat) : Int := ((List.range i).map fun k => if k ≤ n then f k * g (n - k) else 0).sum
theorem cvp_zero (f g : Nat → Int) (n : Nat) : cvp f g 0 n = 0 := rfl
theorem cvp_succ (f g : Nat → Int) (i n : Nat) : cvp f g (i + 1) n = cvp f g i n + (if i ≤ n then f i * g (n - i) else 0) := by
  unfold cvp
  rw [List.range_succ, List.map_append, List.sum_append, List.map_singleton, List.sum_singleton]
theorem cvp_all (f g : Nat → Int) {N n : Nat} (h : n < N) : cvp f g N n = cv f g n := by
  have e1 : ∀ t, cvp f g (n + 1 + t) n = cvp f g (n + 1) n := fun t => by
    induction t with
    | zero => rfl
    | succ t ih =>
      rw [← Nat.add_assoc, cvp_succ, ih, if_neg (by omega)]
      omega
  have e2 := e1 (N - (n + 1))
  rw [show n + 1 + (N - (n + 1)) = N by omega] at e2
  rw [e2, cv_sum]
  unfold cvp
  refine congrArg List.sum (List.map_congr_left fun k hk => ?_)
  rw [if_pos (by have := List.mem_range.mp hk; omega)]
/-- one summand, as far as j places -/
def cvq (f g : Nat → Int) (i j n : Nat) : Int := cvp f g i n + (if i ≤ n ∧ n < i + j then f i * g (n - i) else 0)
theorem cvq_zero (f g : Nat → Int) (i n : Nat) : cvq f g i 0 n = cvp f g i n := by
  unfold cvq
  rw [if_neg (by omega)]
  omega
theorem cvq_succ (f g : Nat → Int) (i j n : Nat) : cvq f g i (j + 1) n = if n = i + j then cvq f g i j (i + j) + f i * g j else cvq f g i j n := by
  unfold cvq
  by_cases h : n = i + j
  · subst h
    rw [if_pos rfl, if_pos (by omega), if_neg (by omega), show i + j - i = j by omega]
    omega
  · rw [if_neg h]
    by_cases h2 : i ≤ n ∧ n < i + j
    · rw [if_pos h2, if_pos (by omega)]
    · rw [if_neg h2, if_neg (by omega)]
theorem cvq_all (f g : Nat → Int) {i N n : Nat} (h : n < N) : cvq f g i (N - i) n = cvp f g (i + 1) n := by
  unfold cvq
  rw [cvp_succ]
  by_cases h2 : i ≤ n
  · rw [if_pos (by omega), if_pos h2]
  · rw [if_neg (by omega), if_neg h2]
theorem cvp_skip (f g : Nat → Int) {i : Nat} (h : f i = 0) (n : Nat) : cvp f g (i + 1) n = cvp f g i n := by
  rw [cvp_succ, h]
  split <;> omega
/-- the inverse, place by place -/
theorem inv_at {f g : Nat → Int} (h0 : f 0 = 1) {n : Nat} (hn : cv f g (n + 1) = 0) : -(part f g (n + 1) (n + 1)) = g (n + 1) := by
  rw [cv_succ, h0, cv_sum] at hn
  have e : part f g (n + 1) (n + 1) = ((List.range (n + 1)).map fun i => sh f i * g (n - i)).sum := by
    unfold part
    refine congrArg List.sum (List.map_congr_left fun i _ => ?_)
    rw [Nat.add_sub_add_right]
    rfl
  rw [e]
  omega
end K17
/-! Rules of our own over the layer: a store a[i] op= e into a list, a call by keywords alone, repr of data, promises where no repr runs. -/
namespace K17
open PySem PySem.Spec PyProof.Rows L2
section
variable {X : Cx}
/-! ### xs[i] op= e -/
def rGetN (K : PySem.W.Frag) : V → V → Hp → VK → Prop := fun o i H Q => ∃ (p : Addr) (xs : List V) (j : Nat) (z : V), o = .ref p ∧ i = .int (j : Int) ∧ SqL K H p xs ∧ xs[j]? = some z ∧ Q z H
theorem get_list : PGet X (rGetN X.K) := by
  intro pins s σ H o i ov iv Q I ro ri h
  obtain ⟨p, xs, j, z, rfl, rfl, hq, he, q⟩ := h
  cases ro
  obtain ⟨t, rfl⟩ := ri
  obtain ⟨its, r, pl, hz⟩ := I.list hq
  obtain ⟨u, hu, ru⟩ := r.get he
  have hj : j < xs.length := (List.getElem?_eq_some_iff.mp he).1
  have ln := line63
  refine wpAny_getItem_list pl.isList (by omega) (by omega) (x := u) ?_ ⟨z, H, I, ru, q⟩
  rw [Int.toNat_natCast]
  simpa using hu
/-! ### repr of lists and tuples of ints -/
def rRepr (K : PySem.W.Frag) : List V → Hp → VK → Prop := fun vs H Q => ∃ (a : Addr) (d : PyData), vs = [.ref a] ∧ Dp K H (.ref a) d ∧ d.showable = true ∧ d.hasDict = false ∧ d.depth ≤ 16 ∧ d.shown.length ≤ sizeLine ∧ Q (.str d.shown) H
theorem cr_repr {k : Nat} (hr : Room k X.A) (hg : X.A.guards = some []) : CallR X (.builtin "repr") (rRepr X.K) := by
  intro pins s σ H vs us Q I r h
  obtain ⟨a, d, rfl, hd, h1, h2, h3, h4, q⟩ := h
  obtain ⟨u, rfl, ru⟩ := vals1 r
  obtain rfl : u = Value.ref a := ru
  obtain ⟨as, rd⟩ := Dp.reads I d _ _ hd rfl
  have hu := hr.units
  refine repr_of_reads' rd h1 (fun z => by rw [h2] at z; cases z) hg (by omega) (fun _ _ e => e) (fun h' u tk hk => ?_) h4
  exact ⟨.str d.shown, H, I.kept hk, ⟨u, rfl⟩, q⟩
/-! ### f(k = v, ..), no positional value -/
variable {CX : CXT} {k : Nat} {f : Addr} {fd : FuncData} {ps ks : List Str} {sp : Sp} {E : XK} {x : Str} {p pos : Pos} {kws : List Keyword} {tk : TA} {g : List Value → List Value → List Value} {gV : List V → List V → List V}
theorem pe_callN0 (F : FnOk X.prog X.w X.K X.mg X.base CX k f fd ps sp) (hr : Room k X.A) (hg : Gl X x) (hm : X.mg x = some (.ref f)) (hk : PySem.W.keepIn X.K (.ref f) = true) (hb : KBn X.K fd ps 0 ks g gV) (hx : Passes CX X E) (hkw : PK X kws tk)
    (h1 : (backToKw pos (keywordEach kws X.env)).all (·.1.isSome) = true := by rfl) (h2 : (backToKw pos (keywordEach kws X.env)).filterMap (·.1) = ks := by rfl) (hdb : (x == ("__debug__" : Str)) = false := by decide)
    (h3 : ((backTo pos (starEach [] X.env)).any (·.1) || (backToKw pos (keywordEach kws X.env)).any (·.1.isNone)) = false := by rfl) :
    PE X (.Call (.Name x p) [] kws pos) (tCallN 0 ks.length sp gV E tNil tk) := by
  constructor
  intro pins s σ H Q I h
  refine wpAny_Call_Name_kw (ld_glob I hg hm ?_ hdb)
  refine PySem.W.callWith_KW0 (h₀ := X.base) I.ok.mod.kin hk h1 ?_ h3
  refine thn (hkw.run pos pins s σ H _ I h) fun ws s2 ⟨zs, H2, I2, rz, l1, l2, q2⟩ => ⟨I2.kIn, ?_⟩
  rw [h2]
  exact run_fnN (us := []) (vs := []) F hr hb hx I2 .nil rz l1 l2 q2
end
/-! ### promises that hold where no repr is under way -/
structure FnG (P : Program) (w : World) (K : PySem.W.Frag) (mg : Str → Option Value) (base : Heap) (k : Nat) (f : Addr) (fd : FuncData) (ps : List Str) (sp : Sp) : Prop where
  len : ∀ vs H Q E, sp vs H Q E → vs.length = ps.length
  run : ∀ (A : Around) (outer : List Env) (s : Shared) (H : Hp) (args : Args) (us : List Value) (vs : List V) (Q : VK) (E : XK), Room k A → A.guards = some [] → Env0 P w K mg base A outer s H → BindsTo s fd args (ps.zip us) → Vals vs us → sp vs H Q E →
    codeAny (model P w) A (.call (.ref f) args) (CR CX0 outer P w H s Q E) s
section
variable {P : Program} {w : World} {K : PySem.W.Frag} {mg : Str → Option Value} {base : Heap}
theorem okG {x qual : Str} {st : Stmt} {f : Addr} {fd : FuncData} {N ps : List Str} {k : Nat} {sp : Sp} (F : Fun K x qual st f fd) (S : FnScope N ps (defScope st)) (len : ∀ vs H Q E, sp vs H Q E → vs.length = ps.length)
    (hbody : ∀ (cdv : Value) (A : Around) (outer : List Env) (s : Shared) (H : Hp) (vs : List V) (Q : VK) (E : XK), Room k (A.deeper (envOfC qual (defScope st) s.heap.objs.size f cdv)) → A.guards = some [] → sp vs H Q E →
      ∃ t, PSs (cxOf CX0 P w K mg base N qual (defScope st) f cdv A outer s H E).nox (defBody st) t ∧ t { nx := fun _ H' => Q .non H', rt := Q } (start N vs) H) :
    FnG P w K mg base (k + 1) f fd ps sp := by
  obtain ⟨oc, od, kV, doc, pm, an, cdv, ct, osl, rfl, lk, hcd⟩ := F.ex
  constructor
  · exact len
  intro A outer s H args us vs Q E hr hgd e0 hb r hsp
  have hl := len _ _ _ _ hsp
  have bk : ∀ b o, base.get? b = some o → s.heap.get? b = some o := fun b o e => (e0.bs b o e).1
  have KX : K.In s.heap := e0.mod.kin.keeps bk
  have hkind : ∀ y ∈ ps.zip us, (defScope st).names.lookup y.1 = some .local ∨ ((defScope st).names.lookup y.1 = some .cell ∧ ((cellsFrom (s.heap.objs.size + 1) (defScope st).names []).lookup y.1).isSome = true) := by
    rintro ⟨n, v⟩ hy
    refine (S.par n (List.of_mem_zip hy).1).imp id fun q => ⟨q, ?_⟩
    exact PySem.W.cellsFrom_some _ _ _ (.inl q)
  refine codeAny_call_function hr.depth (KX _ _ lk) rfl S.co S.gen rfl (PySem.W.codeRec_of KX hcd) (hb _ _ _ _ ?_)
  refine wpAny_newFunctionEnv_cells S.kind hkind fun env he s1 x => ?_
  subst he
  refine ⟨(e0.mod.nolimit.keeps bk).keeps x.toInCall.keep, codeAny_func ?_⟩
  obtain ⟨t, ht, hq⟩ := hbody cdv A outer s H vs Q E (hr.deeper _) hgd hsp
  have I := inv_start (CX := CX0) (E := E) (cd := cdv) (f := f) (qual := qual) S hr.hd e0 hl r x
  refine wpAny_mono (ht.nox.run [] s1 (start N vs) H _ I hq) ?_ (fun e s' hs => hs)
  intro fl s' hs
  cases fl with
  | ret u =>
    obtain ⟨v, σ', H', J, rv, q⟩ := hs
    exact ⟨v, H', J.os, J.bare, J.base, J.hok, rv, q⟩
  | next =>
    obtain ⟨σ', H', J, q⟩ := hs
    exact ⟨V.non, H', J.os, J.bare, J.base, J.hok, rfl, q⟩
  | brk =>
    obtain ⟨_, _, _, q⟩ := hs
    exact q.elim
  | cont =>
    obtain ⟨_, _, _, q⟩ := hs
    exact q.elim
end
section
variable {X : Cx} {k : Nat} {f : Addr} {fd : FuncData} {ps : List Str} {sp : Sp} {x : Str} {p pos : Pos} {e : Expr} {es : List Expr} {t : TA}
/-- f(e, ..) of such a def -/
theorem pe_callG (F : FnG X.prog X.w X.K X.mg X.base k f fd ps sp) (hr : Room k X.A) (hgd : X.A.guards = some []) (hg : Gl X x) (hm : X.mg x = some (.ref f)) (hk : PySem.W.keepIn X.K (.ref f) = true) (hb : Binds X.K fd ps [])
    (ha : PA X (e :: es) t) (hdb : (x == ("__debug__" : Str)) = false := by decide) (h1 : starEach (e :: es) X.env = (false, eval e X.env) :: starEach es X.env := by rfl) (h2 : (backTo pos (starEach es X.env)).any (·.1) = false := by rfl) :
    PE X (.Call (.Name x p) (e :: es) [] pos) (tCall sp [] E0 t) := by
  constructor
  intro pins s σ H Q I h
  refine wpAny_Call_Name_kw (ld_glob I hg hm ?_ hdb)
  refine PySem.W.callWith_K (h₀ := X.base) I.ok.mod.kin hk (thn (ha.run pos pins s σ H _ I h) ?_) h1 h2
  intro us s1 hq
  obtain ⟨vs, H1, I1, r, q⟩ := hq
  refine ⟨I1.kIn, ?_⟩
  rw [List.append_nil] at q
  have b := hb s1 us I1.kIn (by rw [List.append_nil, ← r.length]; exact F.len _ _ _ _ q)
  rw [List.append_nil] at b
  refine wpAny_call (codeAny_mono (F.run X.A X.stack s1 H1 ⟨us, []⟩ us vs Q E0 hr hgd I1.env0 b r q) ?_)
  intro r' s' hq'
  cases r' with
  | error e => exact (show False from hq').elim
  | ok fl =>
    cases fl with
    | ret u => exact I1.after hq'
    | next => exact (show False from hq').elim
    | brk => exact (show False from hq').elim
    | cont => exact (show False from hq').elim
end
/-! ### how keywords bind -/
section
variable {K : PySem.W.Frag} {x qual : Str} {st : Stmt} {f : Addr} {fd : FuncData} {ps ks : List Str}
theorem kbn (F : Fun K x qual st f fd) (g : {α : Type} → List α → List α) (hrel : ∀ {zs : List V} {ws : List Value}, Vals zs ws → Vals (g zs) (g ws))
    (h : ∀ (kV doc pm : Value) (an : Option Addr) (cdv ct : Value) (ws : List Value), ws.length = ks.length → bindArgs (PySem.W.fnOf x qual (defArgs st) (defBody st) (defScope st) .none kV doc pm an cdv ct) ⟨[], ks.zip ws⟩ = pure (ps.zip (g ws))) :
    KBn K fd ps 0 ks (fun _ ws => g ws) (fun _ zs => g zs) := by
  obtain ⟨oc, od, kV, doc, pm, an, cdv, ct, osl, rfl, lk, hcd⟩ := F.ex
  refine ⟨fun s us ws _ l1 l2 => ?_, fun _ r2 => hrel r2⟩
  obtain rfl := List.eq_nil_of_length_eq_zero l1
  exact .of_eq (h kV doc pm an cdv ct ws l2)
end
/-! ### the law's own call -/
theorem law_callG {P : Program} {w : World} {K : PySem.W.Frag} {mg mb : Str → Option Value} {k : Nat} {fa a : Addr} {fd : FuncData} {x : Str} {sp : Sp} {s₁ : Shared} {vs : List Value} {ns : List Int}
    (KX : K.In s₁.heap) (hns : s₁.heap.Ns mainGlobals mg) (hb : s₁.heap.Ns builtinsNs mb) (hbb : ∀ x : Str, x ≠ "__name__" → mb x = bootBuiltins x) (hlim : s₁.heap.NoLimit) (hg : s₁.gens = #[])
    (ha : s₁.heap.get? a = some { cls := .type "list", data := .seq vs.toArray }) (hi : IntsAre vs ns) (hl : ns.length ≤ sizeLine) (hr : Room k callerA)
    (F : ∀ base : Heap, K.In base → base.Ns mainGlobals mg → FnG P w K mg base k fa fd [x] sp) (hbind : ∀ (s : Shared) (u : Value), BindsTo s fd ⟨[u], []⟩ [(x, u)])
    (hsp : ∀ H : Hp, SqL K H a (ns.map V.int) → sp [.ref a] H (fun v _ => v = .bl true) fun _ _ _ => False) :
    codeAny (model P w) callerA (.call (.ref fa) ⟨[.ref a], []⟩) (fun r s' => r = .ok (.ret (.bool true)) ∧ OldK s₁.heap s'.heap ∧ s'.os = s₁.os ∧ AllBare s'.gens) s₁ := by
  have rv := vals_ints hi
  have lenV := hi.length
  -- what may be tracked at the start: the script alone, locked
  have core : ∀ H : Hp, (∀ b, H b = none ∨ ∃ o xs, H b = some (.frz o (.lst xs))) → SqL K H a (ns.map V.int) → HOk P w H s₁.heap → (∀ b, H b ≠ none → b = a) → (H a ≠ none → K.lookup a = none) →
      codeAny (model P w) callerA (.call (.ref fa) ⟨[.ref a], []⟩) (fun r s' => r = .ok (.ret (.bool true)) ∧ OldK s₁.heap s'.heap ∧ s'.os = s₁.os ∧ AllBare s'.gens) s₁ := by
    intro H hO hS hok hA hK
    have free : ∀ {b : Addr} {o : Obj}, s₁.heap.get? b = some o → (b = a → False) → H b = none := by
      intro b o _ hne
      cases q : H b with
      | none => rfl
      | some u => exact (hne (hA b (by rw [q]; simp))).elim
    have nsK : ∀ {b : Addr} {m : Str → Option Value}, s₁.heap.Ns b m → (hidT s₁.heap H).Ns b m := by
      rintro b m ⟨o, es, ep, e, d, r⟩
      refine ⟨o, es, ep, hidT_get e (free e fun z => ?_), d, r⟩
      subst z
      rw [ha] at e
      cases e
      exact absurd (show Data.seq vs.toArray _ = Data.dict es ep from d) (by intro z; cases z)
    have hKb : K.In (hidT s₁.heap H) := by
      intro b o e
      refine hidT_get (KX b o e) ?_
      cases q : H b with
      | none => rfl
      | some u =>
        have z : b = a := hA b (by rw [q]; simp)
        subst z
        rw [hK (by rw [q]; simp)] at e
        cases e
    have hM : Mod K mg (hidT s₁.heap H) := by
      obtain ⟨mc, c1, c2⟩ := hlim
      exact ⟨hKb, nsK hns, ⟨mb, nsK hb, hbb⟩, ⟨mc, nsK c1, c2⟩⟩
    have e0 : Env0 P w K mg (hidT s₁.heap H) callerA [] s₁ H :=
      ⟨rfl, hM, fun b o e => of_hidT e, Nat.le_of_eq (hidT_size _ _), trivial, fun b hb => (List.not_mem_nil (show b ∈ ([] : List Addr) from hb)).elim, hok, .of_eq hg⟩
    have FF := F _ hKb (nsK hns)
    refine codeAny_mono (FF.run callerA [] s₁ H ⟨[.ref a], []⟩ [.ref a] [.ref a] _ _ hr rfl e0 (hbind s₁ (.ref a)) (.cons rfl .nil) (hsp H hS)) ?_
    intro r s' h
    cases r with
    | error e => exact (show False from h).elim
    | ok fl =>
      cases fl with
      | next => exact (show False from h).elim
      | brk => exact (show False from h).elim
      | cont => exact (show False from h).elim
      | ret u =>
        obtain ⟨v, H', os, bare, un, hok', r', q⟩ := h
        have q' : v = .bl true := q
        subst q'
        obtain rfl : u = Value.bool true := r'
        refine ⟨rfl, OldK.of_keep ?_, os, bare⟩
        intro b o e
        rcases hO b with z | ⟨ob, xs, z⟩
        · exact un.keep b o e z (fun z => (List.not_mem_nil (show b ∈ ([] : List Addr) from z)).elim) List.not_mem_nil
        · have z1 := (hok b _ z).1
          have z2 := (hok' b _ (un.frzs b ob _ z)).1
          rw [e] at z1
          cases z1
          exact z2
  cases hk : K.lookup a with
  | some o =>
    have e := KX a o hk
    rw [ha] at e
    cases e
    refine core (fun _ => none) (fun _ => .inl rfl) (.inr ⟨_, vs.toArray, _, hk, rfl, rfl, rfl, ?_, by simpa using rv⟩) ?_ (fun b z => absurd rfl z) fun z => absurd rfl z
    · rw [List.size_toArray, lenV]
      exact hl
    · intro b u z
      exact absurd (show (none : Option HO) = some u from z) (by intro z; cases z)
  | none =>
    have only : ∀ b, (fun b => if b = a then some (HO.frz { cls := .type "list", data := .seq vs.toArray } (.lst (ns.map V.int))) else none) b ≠ none → b = a := by
      intro b z
      by_cases hb : b = a
      · exact hb
      · exact absurd (if_neg hb) z
    refine core (fun b => if b = a then some (.frz { cls := .type "list", data := .seq vs.toArray } (.lst (ns.map V.int))) else none) ?_ (.inl (.inr ⟨{ cls := .type "list", data := .seq vs.toArray }, if_pos rfl⟩)) ?_ only fun _ => hk
    · intro b
      by_cases hb : b = a
      · exact .inr ⟨_, _, if_pos hb⟩
      · exact .inl (if_neg hb)
    · intro b u z
      have hb : b = a := only b (by rw [z]; simp)
      have z' := (if_pos hb).symm.trans z
      cases z'
      subst hb
      refine ⟨ha, ?_, vs, _, rv, ha⟩
      rw [List.length_map]
      exact hl
theorem walk_ofG {l : PySem.W.OpenLaw} {n k : Nat} {q : Program} {loose : List Str} {XP : (Str → Option Value) → Heap → Prop} {YP : World → Heap → Prop} {d : DefRec} {K : Params → PySem.W.Frag} {sp : PySem.W.Frag → Sp} {x : Str}
    (hn : l.most = some n) (hn2 : n ≤ sizeLine) (hdf : d.params.defaults = []) (hr : Room k callerA)
    (hY : ∀ (w : World) (h : Heap), YP w h → (K w.params).In h)
    (F : ∀ (w : World) (mg : Str → Option Value) (fa : Addr) (h : Heap), (K w.params).In h → h.Ns mainGlobals mg → mg d.name = some (.ref fa) →
      ∃ fd : FuncData, (∀ (s : Shared) (u : Value), BindsTo s fd ⟨[u], []⟩ [(x, u)]) ∧ ∀ base : Heap, (K w.params).In base → base.Ns mainGlobals mg → FnG l.prog w (K w.params) mg base k fa fd [x] (sp (K w.params)))
    (hsp : ∀ (K : PySem.W.Frag) (H : Hp) (a : Addr) (ns : List Int), ns.length ≤ n → SqL K H a (ns.map V.int) → sp K [.ref a] H (fun v _ => v = .bl true) fun _ _ _ => False) :
    PySem.W.WalkO q loose XP YP l.row.toRowW d [] (fun f vs => PySem.call f vs) := by
  refine Att.attach_call hn hdf ?_
  intro w s₀ s₁ mg mb fa o pm cd doc a vs ns G Y ho hd hcd hmg hobj hints hlen hg
  have KX := hY w _ Y
  obtain ⟨fd, hb, hF⟩ := F w mg fa _ KX G.T.g hmg
  exact law_callG KX G.T.g G.T.b G.T.builtins G.T.nolimit hg hobj hints (Nat.le_trans hlen hn2) hr hF hb fun H hS => hsp _ H a ns hlen hS
end K17
/-! tuple(list), the new tuple known to its object; dict(t) of such a tuple of pairs. -/
namespace K17
open PySem PySem.Spec PyProof.Rows L2
section
variable {X : Cx}
def rTupF (K : PySem.W.Frag) : List V → Hp → VK → Prop := fun vs H Q => ∃ (p : Addr) (ys : List V), vs = [.ref p] ∧ SqL K H p ys ∧ ∀ (l : Addr) (o : Obj), H l = none → o.dict = none → Q (.ref l) (upd H l (.frz o (.tup ys)))
theorem call_tupleF : CallR X (.type "tuple") (rTupF X.K) := by
  intro pins s σ H vs us Q I r h
  obtain ⟨p, ys, rfl, hq, q⟩ := h
  obtain ⟨u, rfl, rx⟩ := vals1 r
  obtain rfl : u = Value.ref p := rx
  obtain ⟨its, rv, pl, hz⟩ := I.list hq
  have hlen := rv.length
  refine call_tuple_list pl.isList ?_ (by rw [List.size_toArray]; omega)
  intro h' kp
  have I1 : Inv X pins σ H { s with heap := h' } := I.kept (t' := s.toks) kp
  have nw : H h'.objs.size = none := I1.hok.fresh (Nat.le_refl _)
  refine ⟨.ref h'.objs.size, _, I1.laid (t' := s.toks) (o := .frz { cls := .type "tuple", data := .seq its.toArray } (.tup ys)) (fun b o e => Heap.get?_push_of_some _ e) (Nat.le_refl _) ?_, rfl, q _ _ nw rfl⟩
  exact ⟨Heap.get?_push_size _ rfl, hz, its, rv, IsTup.new _ _⟩
theorem pairs_vals {pins : List (Addr × Obj)} {σ : L2.St} {H : Hp} {s : Shared} (I : L2.Inv X pins σ H s) : ∀ {ps : List Addr} {kvs : List (Key × V)}, Paired (fun p kv => SqT X.K H p [kV kv.1, kv.2]) ps kvs →
    ∃ (prs : List (Key × Value)) (pv : List (Value × Value)), KV kvs prs ∧ prs.length = ps.length ∧ pv.length = ps.length ∧
      ∀ (j : Nat) (k v : Value), pv[j]? = some (k, v) → ∃ (b : Addr) (q : Key), ps[j]? = some b ∧ prs[j]? = some (q, v) ∧ IsTup s.heap b #[k, v] ∧ keyIs q k = true
  | _, _, .nil => ⟨[], [], .nil, rfl, rfl, fun j k v e => by simp at e⟩
  | _, _, .cons (a := p) (b := kv) h t => by
    obtain ⟨prs, pv, r, h1, h2, hp⟩ := pairs_vals I t
    obtain ⟨its, rv, ht, _⟩ := I.tuple h
    obtain ⟨u, y, rfl, ru, ry⟩ := vals2 rv
    refine ⟨(kv.1, y) :: prs, (u, y) :: pv, .cons ⟨rfl, ry⟩ r, by simp [h1], by simp [h2], ?_⟩
    intro j k v e
    cases j with
    | zero =>
      have e' : (u, y) = (k, v) := Option.some.inj e
      cases e'
      exact ⟨p, kv.1, rfl, rfl, ht, kV_is (P := X.prog) (w := X.w) ru⟩
    | succ j =>
      obtain ⟨b, q, e1, e2, e3, e4⟩ := hp j k v (by simpa using e)
      exact ⟨b, q, by simpa using e1, by simpa using e2, e3, e4⟩
theorem refs_of : ∀ {ps : List Addr} {us : List Value}, Vals (ps.map V.ref) us → us = ps.map Value.ref
  | [], us, r => by
    cases r
    rfl
  | p :: ps, us, r => by
    cases r with
    | cons h t =>
      obtain rfl : _ = Value.ref p := h
      rw [List.map_cons, refs_of t]
def rDictF (K : PySem.W.Frag) : List V → Hp → VK → Prop := fun vs H Q => ∃ (a : Addr) (o : Obj) (ps : List Addr) (kvs : List (Key × V)), vs = [.ref a] ∧ H a = some (.frz o (.tup (ps.map V.ref))) ∧ o.dict = none ∧ Paired (fun p kv => SqT K H p [kV kv.1, kv.2]) ps kvs ∧
  ∀ p, H p = none → Q (.ref p) (upd H p (.dK (mergeK [] kvs)))
theorem call_dictF (hc : X.calm = true) : CallR X (.type "dict") (rDictF X.K) := by
  intro pins s σ H vs us Q I r h
  obtain ⟨a, o, ps, kvs, rfl, ha, hd, hp, q⟩ := h
  obtain ⟨u, rfl, rx⟩ := vals1 r
  obtain rfl : u = Value.ref a := rx
  obtain ⟨ho, hz, its, rv, o', ho', hcl, n, hdat⟩ := I.hok a _ ha
  rw [ho] at ho'
  cases ho'
  obtain rfl := refs_of rv
  rw [List.length_map] at hz
  obtain ⟨prs, pv, rel, h1, h2, h3⟩ := pairs_vals I hp
  have items : PairItems s.heap (ps.map Value.ref).toArray (fun j => (ps[j]?).getD 0) pv := by
    refine ⟨by simp [h2], fun j k v e => ?_⟩
    obtain ⟨b, q', e1, e2, e3, e4⟩ := h3 j k v e
    obtain ⟨ob, ho1, hc1, n1, hd1⟩ := e3
    refine ⟨by simp [e1], .inl ?_⟩
    have eT : (fun j : Nat => (ps[j]?).getD 0) j = b := by simp [e1]
    rw [eT]
    exact ⟨ob, ho1, hc1, n1, hd1⟩
  refine PySem.call_dict_pairs (knd := mixKind X.prog X.w) (kvs := prs) (PairArg.tuple a (ps.map Value.ref).toArray (fun j => (ps[j]?).getD 0) pv) (I.ok.hd hc) ⟨⟨o, n, ho, hcl, hd, hdat⟩, items⟩ ⟨by rw [h1, h2], ?_⟩ (by rw [h2]; exact hz) ?_
  · intro i key v e
    obtain ⟨b, q', e1, e2, e3, e4⟩ := h3 i key v e
    exact ⟨q', e2, e4⟩
  · intro h' tk hd' k
    have hm : (s.heap.objs.size == sysModules) = false := beq_eq_false_iff_ne.mpr (Nat.ne_of_gt I.big)
    have hl : (mergeK [] kvs).length ≤ sizeLine := by
      refine Nat.le_trans (length_mergeK kvs []) ?_
      have := rel.length
      simp
      omega
    refine ⟨.ref s.heap.objs.size, upd H s.heap.objs.size (.dK (mergeK [] kvs)), I.laid (t' := tk) (fun b o e => k b o List.not_mem_nil e) (Nat.le_refl _) ?_, rfl, q _ (I.hok.fresh (Nat.le_refl _))⟩
    exact ⟨hl, hm, merged [] prs, KV.merge rel .nil, hd'⟩
end
end K17
/-! Rules whose answer is told by what may be read there, new or not. -/
namespace K17
open PySem PySem.Spec PyProof.Rows L2
theorem same_new0 {H : Hp} {p : Addr} {o : HO} (h : H p = none) : Same H (upd H p o) := by
  intro b x e
  rw [upd_ne (ne_of_none e h)]
  exact e
section
variable {X : Cx}
/-- t + u -/
def rCatU (K : PySem.W.Frag) : R2 := fun x y H Q => ∃ (a b : Addr) (xs ys : List V), x = .ref a ∧ y = .ref b ∧ SqT K H a xs ∧ SqT K H b ys ∧ xs.length + ys.length ≤ sizeLine ∧ ∀ (c : Addr) (H1 : Hp), Same H H1 → SqT K H1 c (xs ++ ys) → Q (.ref c) H1
theorem op_catU : OpR X (binaryOp .Add) (rCatU X.K) := by
  intro pins s σ H x y v u Q I rx ry h
  obtain ⟨a, b, xs, ys, rfl, rfl, ha, hb, hz, q⟩ := h
  refine op_catA pins s σ H _ _ v u Q I rx ry ⟨a, b, xs, ys, rfl, rfl, ha, hb, hz, ?_, ?_, ?_⟩
  · rintro rfl
    exact q b H (Same.refl H) hb
  · rintro _ rfl
    exact q a H (Same.refl H) (by rw [List.append_nil]; exact ha)
  · intro _ _ p hp
    exact q p _ (same_new0 hp) (SqT.of upd_same)
/-- tuple(list or tuple) -/
def rTupU (K : PySem.W.Frag) : List V → Hp → VK → Prop := fun vs H Q => ∃ (p : Addr) (ys : List V), vs = [.ref p] ∧ (SqL K H p ys ∨ SqT K H p ys) ∧ ∀ (c : Addr) (H1 : Hp), Same H H1 → SqT K H1 c ys → Q (.ref c) H1
theorem call_tupU : CallR X (.type "tuple") (rTupU X.K) := by
  intro pins s σ H vs us Q I r h
  obtain ⟨p, ys, rfl, h | h, q⟩ := h
  · exact call_tuple_of pins s σ H _ us Q I r ⟨p, ys, rfl, .inl ⟨h, fun l hl => q l _ (same_new0 hl) (SqT.of upd_same)⟩⟩
  · exact call_tuple_of pins s σ H _ us Q I r ⟨p, ys, rfl, .inr ⟨h, q p H (Same.refl H) h⟩⟩
/-- t[:n], n from 0 on -/
def rSlU (K : PySem.W.Frag) : V → Option Int → Option Int → Hp → VK → Prop := fun x lo hi H Q => ∃ (a : Addr) (xs : List V) (n : Nat), x = .ref a ∧ lo = none ∧ hi = some (n : Int) ∧ SqT K H a xs ∧ ∀ (c : Addr) (H1 : Hp), Same H H1 → SqT K H1 c (xs.take n) → Q (.ref c) H1
theorem cut_take (xs : List V) (n : Nat) : cutV xs none (some (n : Int)) = xs.take n := by
  unfold cutV
  rw [HT.sIx_none, HT.sIx_nat]
  show List.take (min n xs.length - 0) (xs.drop 0) = _
  rw [List.drop_zero, Nat.sub_zero, List.take_eq_take_iff]
  omega
theorem sl_tupU : SlR X (rSlU X.K) := by
  intro pins s σ H x v vl vu lo hi sl Q I rx hs pl pu h
  obtain ⟨a, xs, n, rfl, rfl, rfl, hx, q⟩ := h
  refine sl_tupA pins s σ H _ v vl vu none (some (n : Int)) sl Q I rx hs pl pu ⟨a, xs, rfl, hx, ?_, ?_⟩
  · rintro ⟨_, h2⟩
    rw [HT.sIx_nat] at h2
    refine q a H (Same.refl H) ?_
    rw [List.take_of_length_le (by omega)]
    exact hx
  · intro _ p hp
    refine q p _ (same_new0 hp) (SqT.of ?_)
    rw [upd_same, cut_take]
/-- (x, ..) * 0 -/
theorem tuple_mul0 (l : Addr) (items : Array Value) (n : Nat) (dd : Option Addr) (sl : Array (Option Value)) (u : Tok) (c1 : items.isEmpty = false) :
    Meets (Builtin.«tuple.__mul__» ⟨[.ref l, .int 0 u], []⟩) (fun _ R s => s.heap.get? l = some { cls := .type "tuple", dict := dd, data := .seq items n, slots := sl } ∧
      R (.ok (.ret (Value.ref s.heap.objs.size))) { s with heap := s.heap.push { cls := Value.type "tuple", data := Data.seq #[] }, toks := s.toks }) :=
  .of_wp fun prog w A R s h => by
    obtain ⟨hp, g, d, tk, os⟩ := s
    obtain ⟨hl, h⟩ := h
    have f1 := AutoSeq1.idx_int
    have c2 : (items.isEmpty || (0 : Int) == 1) = false := by
      rw [c1]
      rfl
    wp_walk using wpAny_loadPart' hl
    exact ⟨_, rfl, h⟩
/-- (x, ..) * k, k = 0 or from 2 on -/
def rRepU (K : PySem.W.Frag) : R2 := fun x y H Q => ∃ (l : Addr) (k : Nat) (xs : List V), x = .ref l ∧ y = .int (k : Int) ∧ SqT K H l xs ∧ xs ≠ [] ∧ k ≠ 1 ∧ k ≤ 1000 ∧ xs.length ≤ 1000 ∧ ∀ p, H p = none → Q (.ref p) (upd H p (.tup (List.replicate k xs).flatten))
theorem op_repU : OpR X (binaryOp .Mult) (rRepU X.K) := by
  intro pins s σ H x y v u Q I rx ry h
  obtain ⟨l, k, xs, rfl, rfl, hT, hne, h1, h2, hz, q⟩ := h
  by_cases hk : 2 ≤ k
  · refine op_repT pins s σ H _ _ v u Q I rx ry ⟨l, (k : Int), xs, rfl, rfl, hT, hne, by omega, by omega, hz, ?_⟩
    rw [Int.toNat_natCast]
    exact q
  · obtain rfl : k = 0 := by omega
    obtain rfl : v = Value.ref l := rx
    obtain ⟨t, rfl⟩ := ry
    obtain ⟨its, r, ⟨⟨cls, dd, data, sl⟩, ho, hc, n, hd⟩, hs⟩ := I.tuple hT
    obtain rfl : cls = Value.type "tuple" := hc
    obtain rfl : data = Data.seq its.toArray n := hd
    have hi : its.toArray.isEmpty = false := by
      cases r with
      | nil => exact absurd rfl hne
      | cons _ _ => rfl
    have ty : s.TypeIs (.ref l) "tuple" := ⟨_, ho, rfl⟩
    have m1 := int_rmul_tuple 0 t l its.toArray n dd sl
    have m2 := tuple_mul0 l its.toArray n dd sl t hi
    refine wpAny_binaryOp_repeat_ref (T := "tuple") (U := "int") (by decide) ty
      (fun s' => typeIs_int s' 0 t) noFill_tuple_mul F.fills_int_mul F.slot_int_rmul repeat_tuple F.slot_int_index.lookup ?_
    refine call_meets F.slot_int_rmul (typeIs_int s 0 t) F.entry_int_rmul (F.args_int_rmul_2 _ _) m1 ⟨ho, rfl, ty, ?_⟩
    refine call_meets F.slot_tuple_mul ty F.entry_tuple_mul (F.args_tuple_mul_2 _ _) m2 ⟨ho, ?_⟩
    have nw : H s.heap.objs.size = none := I.hok.fresh (Nat.le_refl _)
    refine ⟨.ref s.heap.objs.size, _, I.laid (t' := s.toks) (o := .tup []) (fun b ob e => Heap.get?_push_of_some _ e) (Nat.le_refl _) ?_, rfl, q _ nw⟩
    exact ⟨Nat.zero_le _, [], .nil, IsTup.new _ _⟩
end
end K17
/-! The text by its places (printed by gen.py). -/
namespace K17
open PySem PySem.Spec PyProof.Rows L2
def topS (i : Nat) : Stmt := PySem.Challenge.pw_firstterms_k17_whole_terms_by_multiplyin.main.body.getD i (.Pass ⟨0, 0, 0, 0⟩)
abbrev s_is_integer : Stmt := topS 11
abbrev s_is_between : Stmt := topS 12
abbrev s_is_count : Stmt := topS 13
abbrev s_divisors_of : Stmt := topS 14
abbrev s_normal : Stmt := topS 15
abbrev s_need_many : Stmt := topS 17
abbrev s_need_from : Stmt := topS 18
abbrev s_power_of : Stmt := topS 20
abbrev s_common_divisor : Stmt := topS 22
abbrev s_beginning_of : Stmt := topS 23
abbrev s_series_product : Stmt := topS 24
abbrev s_series_power : Stmt := topS 25
abbrev s_series_inverse : Stmt := topS 26
abbrev s_is_beginning : Stmt := topS 27
abbrev s_need_beginnings : Stmt := topS 28
abbrev s_multiplied : Stmt := topS 29
abbrev s_power : Stmt := topS 30
abbrev s_spread : Stmt := topS 31
abbrev s_every : Stmt := topS 32
abbrev s_is_product_value : Stmt := topS 37
abbrev s_need_product : Stmt := topS 38
abbrev s_step_sum : Stmt := topS 39
abbrev s_power_sum : Stmt := topS 40
abbrev s_raw_start : Stmt := topS 41
abbrev s_raw_weight : Stmt := topS 42
abbrev s_terms_list : Stmt := topS 43
abbrev s_spread_pairs : Stmt := topS 44
abbrev s_start_of : Stmt := topS 46
abbrev s_product_weight : Stmt := topS 47
abbrev s_product_terms : Stmt := topS 48
abbrev s_settled : Stmt := topS 49
abbrev s_joined_product : Stmt := topS 50
abbrev s_undone_product : Stmt := topS 51
abbrev s_spread_product : Stmt := topS 52
abbrev s_law_deck : Stmt := topS 54
abbrev s_law_draw : Stmt := topS 55
abbrev s_law_pick : Stmt := topS 56
abbrev s_law_same : Stmt := topS 57
abbrev s_law_divisor : Stmt := topS 58
abbrev s_law_least : Stmt := topS 59
abbrev s_law_terms : Stmt := topS 60
abbrev s_law_product : Stmt := topS 61
abbrev s_law_joined : Stmt := topS 62
abbrev s_law_is_told_right : Stmt := topS 63
abbrev s_law_is_small : Stmt := topS 64
abbrev s_law_sum : Stmt := topS 65
abbrev s_law_are_both_right : Stmt := topS 66
abbrev s_law_is_undone_right : Stmt := topS 67
abbrev s_law_is_spread_right : Stmt := topS 68
abbrev s_law : Stmt := topS 69
/-- a def where it stands -/
structure Df (K : PySem.W.Frag) (mg : Str → Option Value) (x : Str) (st : Stmt) (ps : List Str) where
  f : Addr
  fd : FuncData
  F : Fun K x x st f fd
  b : Binds K fd ps []
  g : mg x = some (.ref f)
def swap2 {α : Type} (l : List α) : List α := match l with
  | [a, b] => [b, a]
  | l => l
structure Txt (K : PySem.W.Frag) (mg : Str → Option Value) where
  f_is_integer : Df K mg "is_integer" s_is_integer ["thing"]
  f_is_between : Df K mg "is_between" s_is_between ["thing", "least", "most"]
  f_is_count : Df K mg "is_count" s_is_count ["thing"]
  f_divisors_of : Df K mg "divisors_of" s_divisors_of ["number"]
  f_normal : Df K mg "normal" s_normal ["top", "bottom"]
  f_need_many : Df K mg "need_many" s_need_many ["many"]
  f_need_from : Df K mg "need_from" s_need_from ["thing", "low"]
  f_power_of : Df K mg "power_of" s_power_of ["base", "many"]
  f_common_divisor : Df K mg "common_divisor" s_common_divisor ["numbers", "start"]
  f_beginning_of : Df K mg "beginning_of" s_beginning_of ["bottom", "tops"]
  f_series_product : Df K mg "series_product" s_series_product ["one", "other"]
  f_series_power : Df K mg "series_power" s_series_power ["tops", "k"]
  f_series_inverse : Df K mg "series_inverse" s_series_inverse ["tops"]
  f_is_beginning : Df K mg "is_beginning" s_is_beginning ["thing"]
  f_need_beginnings : Df K mg "need_beginnings" s_need_beginnings ["things"]
  f_multiplied : Df K mg "multiplied" s_multiplied ["one", "other"]
  f_power : Df K mg "power" s_power ["beginning", "k"]
  f_spread : Df K mg "spread" s_spread ["beginning", "d"]
  f_every : Df K mg "every" s_every ["beginning", "d"]
  f_is_product_value : Df K mg "is_product_value" s_is_product_value ["thing"]
  f_need_product : Df K mg "need_product" s_need_product ["product"]
  f_step_sum : Df K mg "step_sum" s_step_sum ["product"]
  f_power_sum : Df K mg "power_sum" s_power_sum ["product"]
  f_raw_start : Df K mg "raw_start" s_raw_start ["product"]
  f_raw_weight : Df K mg "raw_weight" s_raw_weight ["product"]
  f_terms_list : Df K mg "terms_list" s_terms_list ["product", "many"]
  f_spread_pairs : Df K mg "spread_pairs" s_spread_pairs ["product", "t"]
  f_start_of : Df K mg "start_of" s_start_of ["product"]
  f_product_weight : Df K mg "product_weight" s_product_weight ["product"]
  f_product_terms : Df K mg "product_terms" s_product_terms ["product", "many"]
  f_settled : Df K mg "settled" s_settled ["pairs"]
  f_joined_product : Df K mg "joined_product" s_joined_product ["one", "other"]
  f_undone_product : Df K mg "undone_product" s_undone_product ["product"]
  f_spread_product : Df K mg "spread_product" s_spread_product ["product", "t"]
  f_law_deck : Df K mg "_law_deck" s_law_deck ["_law_script"]
  f_law_draw : Df K mg "_law_draw" s_law_draw ["_law_deck_here", "_law_many"]
  f_law_pick : Df K mg "_law_pick" s_law_pick ["_law_deck_here", "_law_some"]
  f_law_same : Df K mg "_law_same" s_law_same ["_law_told", "_law_due"]
  f_law_divisor : Df K mg "_law_divisor" s_law_divisor ["_law_one", "_law_other"]
  f_law_least : Df K mg "_law_least" s_law_least ["_law_top", "_law_bottom"]
  f_law_terms : Df K mg "_law_terms" s_law_terms ["_law_product_here", "_law_many"]
  f_law_product : Df K mg "_law_product" s_law_product ["_law_deck_here", "_law_pairs", "_law_most", "_law_high"]
  f_law_joined : Df K mg "_law_joined" s_law_joined ["_law_one", "_law_other"]
  f_law_is_told_right : Df K mg "_law_is_told_right" s_law_is_told_right ["_law_product_here", "_law_many"]
  f_law_is_small : Df K mg "_law_is_small" s_law_is_small ["_law_terms_here"]
  f_law_sum : Df K mg "_law_sum" s_law_sum ["_law_one", "_law_other"]
  f_law_are_both_right : Df K mg "_law_are_both_right" s_law_are_both_right ["_law_one", "_law_other", "_law_many"]
  f_law_is_undone_right : Df K mg "_law_is_undone_right" s_law_is_undone_right ["_law_product_here", "_law_many"]
  f_law_is_spread_right : Df K mg "_law_is_spread_right" s_law_is_spread_right ["_law_product_here", "_law_t", "_law_many"]
  m_isinstance : mg "isinstance" = none
  m_len : mg "len" = none
  m_tuple : mg "tuple" = none
  m_range : mg "range" = none
  m_min : mg "min" = none
  m_max : mg "max" = none
  m_sum : mg "sum" = none
  m_list : mg "list" = none
  m_all : mg "all" = none
  m_any : mg "any" = none
  m_enumerate : mg "enumerate" = none
  m_sorted : mg "sorted" = none
  m_abs : mg "abs" = none
  m_int : mg "int" = none
  m_repr : mg "repr" = none
  m_dict : mg "dict" = none
  m_bool : mg "bool" = none
  c_MOST_TERMS : ∃ t, mg "MOST_TERMS" = some (.int 400 t)
  c_MOST_PAIRS : ∃ t, mg "MOST_PAIRS" = some (.int 8 t)
  c_MOST_STEP : ∃ t, mg "MOST_STEP" = some (.int 400 t)
  c_MOST_POWER : ∃ t, mg "MOST_POWER" = some (.int 48 t)
  gcd : mg "gcd" = some (.builtin "math.gcd")
  k_product_terms : KBn K f_product_terms.fd ["product", "many"] 0 ["many", "product"] (fun _ ws => swap2 ws) (fun _ zs => swap2 zs)
  k_start_of : KBn K f_start_of.fd ["product"] 0 ["product"] (fun _ ws => id ws) (fun _ zs => id zs)
  k_joined_product : KBn K f_joined_product.fd ["one", "other"] 0 ["other", "one"] (fun _ ws => swap2 ws) (fun _ zs => swap2 zs)
  k_undone_product : KBn K f_undone_product.fd ["product"] 0 ["product"] (fun _ ws => id ws) (fun _ zs => id zs)
  k_spread_product : KBn K f_spread_product.fd ["product", "t"] 0 ["t", "product"] (fun _ ws => swap2 ws) (fun _ zs => swap2 zs)
theorem sc_is_integer : FnScope ["thing"] ["thing"] (defScope s_is_integer) := ⟨rfl, rfl, rfl, by decide +kernel, rfl, by decide +kernel, by decide +kernel⟩
theorem sc_is_between : FnScope ["thing", "least", "most"] ["thing", "least", "most"] (defScope s_is_between) := ⟨rfl, rfl, rfl, by decide +kernel, rfl, by decide +kernel, by decide +kernel⟩
theorem sc_is_count : FnScope ["thing"] ["thing"] (defScope s_is_count) := ⟨rfl, rfl, rfl, by decide +kernel, rfl, by decide +kernel, by decide +kernel⟩
theorem sc_divisors_of : FnScope ["number", "low", "high", "divisor"] ["number"] (defScope s_divisors_of) := ⟨rfl, rfl, rfl, by decide +kernel, rfl, by decide +kernel, by decide +kernel⟩
theorem sc_normal : FnScope ["top", "bottom", "divisor"] ["top", "bottom"] (defScope s_normal) := ⟨rfl, rfl, rfl, by decide +kernel, rfl, by decide +kernel, by decide +kernel⟩
theorem sc_need_many : FnScope ["many"] ["many"] (defScope s_need_many) := ⟨rfl, rfl, rfl, by decide +kernel, rfl, by decide +kernel, by decide +kernel⟩
theorem sc_need_from : FnScope ["thing", "low"] ["thing", "low"] (defScope s_need_from) := ⟨rfl, rfl, rfl, by decide +kernel, rfl, by decide +kernel, by decide +kernel⟩
theorem sc_power_of : FnScope ["base", "many", "found", "square"] ["base", "many"] (defScope s_power_of) := ⟨rfl, rfl, rfl, by decide +kernel, rfl, by decide +kernel, by decide +kernel⟩
theorem sc_common_divisor : FnScope ["numbers", "start", "found", "number"] ["numbers", "start"] (defScope s_common_divisor) := ⟨rfl, rfl, rfl, by decide +kernel, rfl, by decide +kernel, by decide +kernel⟩
theorem sc_beginning_of : FnScope ["bottom", "tops", "divisor", "top"] ["bottom", "tops"] (defScope s_beginning_of) := ⟨rfl, rfl, rfl, by decide +kernel, rfl, by decide +kernel, by decide +kernel⟩
theorem sc_series_product : FnScope ["one", "other", "many", "found", "at", "first", "place"] ["one", "other"] (defScope s_series_product) := ⟨rfl, rfl, rfl, by decide +kernel, rfl, by decide +kernel, by decide +kernel⟩
theorem sc_series_power : FnScope ["tops", "k", "found", "square"] ["tops", "k"] (defScope s_series_power) := ⟨rfl, rfl, rfl, by decide +kernel, rfl, by decide +kernel, by decide +kernel⟩
theorem sc_series_inverse : FnScope ["tops", "first", "found", "at", "total", "scale", "step"] ["tops"] (defScope s_series_inverse) := ⟨rfl, rfl, rfl, by decide +kernel, rfl, by decide +kernel, by decide +kernel⟩
theorem sc_is_beginning : FnScope ["thing", "top"] ["thing"] (defScope s_is_beginning) := ⟨rfl, rfl, rfl, by decide +kernel, rfl, by decide +kernel, by decide +kernel⟩
theorem sc_need_beginnings : FnScope ["things", "thing"] ["things"] (defScope s_need_beginnings) := ⟨rfl, rfl, rfl, by decide +kernel, rfl, by decide +kernel, by decide +kernel⟩
theorem sc_multiplied : FnScope ["one", "other"] ["one", "other"] (defScope s_multiplied) := ⟨rfl, rfl, rfl, by decide +kernel, rfl, by decide +kernel, by decide +kernel⟩
theorem sc_power : FnScope ["beginning", "k", "bottom", "tops", "first", "many", "found", "at", "number", "lead", "sign", "inverse"] ["beginning", "k"] (defScope s_power) := ⟨rfl, rfl, rfl, by decide +kernel, rfl, by decide +kernel, by decide +kernel⟩
theorem sc_spread : FnScope ["beginning", "d", "tops", "n"] ["beginning", "d"] (defScope s_spread) := ⟨rfl, rfl, rfl, by decide +kernel, rfl, by decide +kernel, by decide +kernel⟩
theorem sc_every : FnScope ["beginning", "d", "tops", "n"] ["beginning", "d"] (defScope s_every) := ⟨rfl, rfl, rfl, by decide +kernel, rfl, by decide +kernel, by decide +kernel⟩
theorem sc_is_product_value : FnScope ["thing", "last", "pair"] ["thing"] (defScope s_is_product_value) := ⟨rfl, rfl, rfl, by decide +kernel, rfl, by decide +kernel, by decide +kernel⟩
theorem sc_need_product : FnScope ["product"] ["product"] (defScope s_need_product) := ⟨rfl, rfl, rfl, by decide +kernel, rfl, by decide +kernel, by decide +kernel⟩
theorem sc_step_sum : FnScope ["product", "d", "r"] ["product"] (defScope s_step_sum) := ⟨rfl, rfl, rfl, by decide +kernel, rfl, by decide +kernel, by decide +kernel⟩
theorem sc_power_sum : FnScope ["product", "d", "r"] ["product"] (defScope s_power_sum) := ⟨rfl, rfl, rfl, by decide +kernel, rfl, by decide +kernel, by decide +kernel⟩
theorem sc_raw_start : FnScope ["product"] ["product"] (defScope s_raw_start) := ⟨rfl, rfl, rfl, by decide +kernel, rfl, by decide +kernel, by decide +kernel⟩
theorem sc_raw_weight : FnScope ["product"] ["product"] (defScope s_raw_weight) := ⟨rfl, rfl, rfl, by decide +kernel, rfl, by decide +kernel, by decide +kernel⟩
theorem sc_terms_list : FnScope ["product", "many", "sums", "d", "r", "at", "found", "n", "total", "j"] ["product", "many"] (defScope s_terms_list) := ⟨rfl, rfl, rfl, by decide +kernel, rfl, by decide +kernel, by decide +kernel⟩
theorem sc_spread_pairs : FnScope ["product", "t", "d", "r"] ["product", "t"] (defScope s_spread_pairs) := ⟨rfl, rfl, rfl, by decide +kernel, rfl, by decide +kernel, by decide +kernel⟩
theorem sc_start_of : FnScope ["product"] ["product"] (defScope s_start_of) := ⟨rfl, rfl, rfl, by decide +kernel, rfl, by decide +kernel, by decide +kernel⟩
theorem sc_product_weight : FnScope ["product"] ["product"] (defScope s_product_weight) := ⟨rfl, rfl, rfl, by decide +kernel, rfl, by decide +kernel, by decide +kernel⟩
theorem sc_product_terms : FnScope ["product", "many"] ["product", "many"] (defScope s_product_terms) := ⟨rfl, rfl, rfl, by decide +kernel, rfl, by decide +kernel, by decide +kernel⟩
theorem sc_settled : FnScope ["pairs", "d", "r"] ["pairs"] (defScope s_settled) := ⟨rfl, rfl, rfl, by decide +kernel, rfl, by decide +kernel, by decide +kernel⟩
theorem sc_joined_product : FnScope ["one", "other", "sums", "d", "r"] ["one", "other"] (defScope s_joined_product) := ⟨rfl, rfl, rfl, by decide +kernel, rfl, by decide +kernel, by decide +kernel⟩
theorem sc_undone_product : FnScope ["product", "d", "r"] ["product"] (defScope s_undone_product) := ⟨rfl, rfl, rfl, by decide +kernel, rfl, by decide +kernel, by decide +kernel⟩
theorem sc_spread_product : FnScope ["product", "t"] ["product", "t"] (defScope s_spread_product) := ⟨rfl, rfl, rfl, by decide +kernel, rfl, by decide +kernel, by decide +kernel⟩
theorem sc_law_deck : FnScope ["_law_script", "_law_mixed", "_law_cell"] ["_law_script"] (defScope s_law_deck) := ⟨rfl, rfl, rfl, by decide +kernel, rfl, by decide +kernel, by decide +kernel⟩
theorem sc_law_draw : FnScope ["_law_deck_here", "_law_many", "_law_figure", "_law_cell"] ["_law_deck_here", "_law_many"] (defScope s_law_draw) := ⟨rfl, rfl, rfl, by decide +kernel, rfl, by decide +kernel, by decide +kernel⟩
theorem sc_law_pick : FnScope ["_law_deck_here", "_law_some"] ["_law_deck_here", "_law_some"] (defScope s_law_pick) := ⟨rfl, rfl, rfl, by decide +kernel, rfl, by decide +kernel, by decide +kernel⟩
theorem sc_law_same : FnScope ["_law_told", "_law_due"] ["_law_told", "_law_due"] (defScope s_law_same) := ⟨rfl, rfl, rfl, by decide +kernel, rfl, by decide +kernel, by decide +kernel⟩
theorem sc_law_divisor : FnScope ["_law_one", "_law_other"] ["_law_one", "_law_other"] (defScope s_law_divisor) := ⟨rfl, rfl, rfl, by decide +kernel, rfl, by decide +kernel, by decide +kernel⟩
theorem sc_law_least : FnScope ["_law_top", "_law_bottom", "_law_common"] ["_law_top", "_law_bottom"] (defScope s_law_least) := ⟨rfl, rfl, rfl, by decide +kernel, rfl, by decide +kernel, by decide +kernel⟩
theorem sc_law_terms : FnScope ["_law_product_here", "_law_many", "_law_found", "_law_d", "_law_r", "_law_factor", "_law_i", "_law_size", "_law_some", "_law_x", "_law_n", "_law_far"] ["_law_product_here", "_law_many"] (defScope s_law_terms) := ⟨rfl, rfl, rfl, by decide +kernel, rfl, by decide +kernel, by decide +kernel⟩
theorem sc_law_product : FnScope ["_law_deck_here", "_law_pairs", "_law_most", "_law_high", "_law_found", "_law_turn", "_law_d", "_law_r"] ["_law_deck_here", "_law_pairs", "_law_most", "_law_high"] (defScope s_law_product) := ⟨rfl, rfl, rfl, by decide +kernel, rfl, by decide +kernel, by decide +kernel⟩
theorem sc_law_joined : FnScope ["_law_one", "_law_other", "_law_found", "_law_d", "_law_r"] ["_law_one", "_law_other"] (defScope s_law_joined) := ⟨rfl, rfl, rfl, by decide +kernel, rfl, by decide +kernel, by decide +kernel⟩
theorem sc_law_is_told_right : FnScope ["_law_product_here", "_law_many", "_law_due", "_law_d", "_law_r", "_law_told"] ["_law_product_here", "_law_many"] (defScope s_law_is_told_right) := ⟨rfl, rfl, rfl, by decide +kernel, rfl, by decide +kernel, by decide +kernel⟩
theorem sc_law_is_small : FnScope ["_law_terms_here", "_law_top"] ["_law_terms_here"] (defScope s_law_is_small) := ⟨rfl, rfl, rfl, by decide +kernel, rfl, by decide +kernel, by decide +kernel⟩
theorem sc_law_sum : FnScope ["_law_one", "_law_other"] ["_law_one", "_law_other"] (defScope s_law_sum) := ⟨rfl, rfl, rfl, by decide +kernel, rfl, by decide +kernel, by decide +kernel⟩
theorem sc_law_are_both_right : FnScope ["_law_one", "_law_other", "_law_many", "_law_both", "_law_d", "_law_r", "_law_told", "_law_due", "_law_near", "_law_far"] ["_law_one", "_law_other", "_law_many"] (defScope s_law_are_both_right) := ⟨rfl, rfl, rfl, by decide +kernel, rfl, by decide +kernel, by decide +kernel⟩
theorem sc_law_is_undone_right : FnScope ["_law_product_here", "_law_many", "_law_far", "_law_d", "_law_r", "_law_near", "_law_back", "_law_due"] ["_law_product_here", "_law_many"] (defScope s_law_is_undone_right) := ⟨rfl, rfl, rfl, by decide +kernel, rfl, by decide +kernel, by decide +kernel⟩
theorem sc_law_is_spread_right : FnScope ["_law_product_here", "_law_t", "_law_many", "_law_d", "_law_r", "_law_far", "_law_near", "_law_told", "_law_start", "_law_due", "_law_some"] ["_law_product_here", "_law_t", "_law_many"] (defScope s_law_is_spread_right) := ⟨rfl, rfl, rfl, by decide +kernel, rfl, by decide +kernel, by decide +kernel⟩
theorem sc_law : FnScope ["_law_script", "_law_deck_here", "_law_high", "_law_most", "_law_one", "_law_other", "_law_many", "_law_t"] ["_law_script"] (defScope s_law) := ⟨rfl, rfl, rfl, by decide +kernel, rfl, by decide +kernel, by decide +kernel⟩
end K17
/-! Data in the heap: ints, tuples of ints, products, beginnings. -/
namespace K17
open PySem PySem.Spec PyProof.Rows L2
section
variable {K : PySem.W.Frag} {H H' : Hp} {a : Addr} {xs : List V}
theorem same_tup (e : Same H H') (h : SqT K H a xs) : SqT K H' a xs := by
  rcases h with (h | ⟨o, h⟩) | h
  · exact .inl (.inl (e _ _ h))
  · exact .inl (.inr ⟨o, e _ _ h⟩)
  · exact .inr h
theorem same_new {p : Addr} {o : HO} (h : H p = none) : Same H (upd H p o) := by
  intro b x e
  rw [upd_ne (ne_of_none e h)]
  exact e
mutual
theorem dp_mono (e : Same H H') : ∀ (d : PyData) (v : V), Dp K H v d → Dp K H' v d
  | .none, _, h => by
    cases h
    exact .non
  | .bool b, _, h => by
    cases h
    exact .bl b
  | .int i, _, h => by
    cases h
    exact .int i
  | .str x, _, h => by
    cases h
    exact .str x
  | .list ds, _, h => by
    cases h with
    | lst hs ha => exact .lst (e.seq hs) (dpa_mono e ds _ ha)
  | .tuple ds, _, h => by
    cases h with
    | tup hs ha => exact .tup (same_tup e hs) (dpa_mono e ds _ ha)
  | .dict _, _, h => by cases h
theorem dpa_mono (e : Same H H') : ∀ (ds : List PyData) (vs : List V), DpAll K H vs ds → DpAll K H' vs ds
  | [], _, h => by
    cases h
    exact .nil
  | d :: ds, _, h => by
    cases h with
    | cons h1 h2 => exact .cons (dp_mono e d _ h1) (dpa_mono e ds _ h2)
end
theorem tyx_tup (h : SqT K H a xs) : TyX K H (.ref a) (.type "tuple") := by
  rcases h with (h | ⟨o, h⟩) | ⟨o, its, n, h1, h2, _⟩
  · exact .base (.tup h)
  · exact .fTuple h
  · exact .kTuple h1 h2
/-! ### ints -/
def dI (ns : List Int) : List PyData := ns.map PyData.int
theorem dpI : ∀ (ns : List Int), DpAll K H (ns.map V.int) (dI ns)
  | [] => .nil
  | n :: ns => .cons (.int n) (dpI ns)
theorem of_dpI : ∀ (ns : List Int) (vs : List V), DpAll K H vs (dI ns) → vs = ns.map V.int
  | [], _, h => by
    cases h
    rfl
  | n :: ns, _, h => by
    cases h with
    | cons h1 h2 =>
      cases h1
      rw [of_dpI ns _ h2]
      rfl
theorem dpa_len : ∀ {vs : List V} {ds : List PyData}, DpAll K H vs ds → vs.length = ds.length
  | _, _, .nil => rfl
  | _, _, .cons _ h => by
    rw [List.length_cons, List.length_cons, dpa_len h]
theorem dpa_get : ∀ {vs : List V} {ds : List PyData} (i : Nat) (v : V), DpAll K H vs ds → vs[i]? = some v → ∃ d, ds[i]? = some d ∧ Dp K H v d
  | _, _, _, _, .nil, e => by simp at e
  | _, _, 0, v, .cons h _, e => by
    simp at e
    subst e
    exact ⟨_, rfl, h⟩
  | _, _, i + 1, v, .cons _ h, e => by
    obtain ⟨d, h1, h2⟩ := dpa_get i v h (by simpa using e)
    exact ⟨d, by simpa using h1, h2⟩
theorem dpa_app : ∀ {vs ws : List V} {ds es : List PyData}, DpAll K H vs ds → DpAll K H ws es → DpAll K H (vs ++ ws) (ds ++ es)
  | _, _, _, _, .nil, h => h
  | _, _, _, _, .cons h1 h2, h => .cons h1 (dpa_app h2 h)
/-- a pair of ints -/
def d2 (x y : Int) : PyData := .tuple [.int x, .int y]
/-- a product -/
def dP (ps : Pr) : PyData := .tuple (ps.map fun p => d2 p.1 p.2)
/-- a beginning with the bottom 1 -/
def dB (ts : List Int) : PyData := .tuple [.int 1, .tuple (dI ts)]
theorem dp2 {x y : Int} (h : SqT K H a [.int x, .int y]) : Dp K H (.ref a) (d2 x y) := .tup h (.cons (.int x) (.cons (.int y) .nil))
theorem of_dp2 {v : V} {x y : Int} (h : Dp K H v (d2 x y)) : ∃ a, v = .ref a ∧ SqT K H a [.int x, .int y] := by
  unfold d2 at h
  cases h with
  | tup hs ha =>
    have e := of_dpI [x, y] _ ha
    subst e
    exact ⟨_, rfl, hs⟩
theorem of_dpT {v : V} {ds : List PyData} (h : Dp K H v (.tuple ds)) : ∃ a xs, v = .ref a ∧ SqT K H a xs ∧ DpAll K H xs ds := by
  cases h with
  | tup hs ha => exact ⟨_, _, rfl, hs, ha⟩
theorem of_dpP {v : V} {ps : Pr} (h : Dp K H v (dP ps)) : ∃ a xs, v = .ref a ∧ SqT K H a xs ∧ xs.length = ps.length ∧ DpAll K H xs (ps.map fun p => d2 p.1 p.2) := by
  obtain ⟨a, xs, e, hs, ha⟩ := of_dpT h
  have := dpa_len ha
  rw [List.length_map] at this
  exact ⟨a, xs, e, hs, this, ha⟩
theorem pair_at {ps : Pr} {i : Nat} {v : V} (h : DpAll K H xs (ps.map fun p => d2 p.1 p.2)) (e : xs[i]? = some v) : ∃ (p : Int × Int) (b : Addr), ps[i]? = some p ∧ v = .ref b ∧ SqT K H b [.int p.1, .int p.2] := by
  obtain ⟨d, h1, h2⟩ := dpa_get i v h e
  rw [List.getElem?_map] at h1
  cases hp : ps[i]? with
  | none =>
    rw [hp] at h1
    cases h1
  | some p =>
    rw [hp] at h1
    cases h1
    obtain ⟨b, e1, e2⟩ := of_dp2 h2
    exact ⟨p, b, rfl, e1, e2⟩
theorem of_dpB {v : V} {ts : List Int} (h : Dp K H v (dB ts)) : ∃ a t, v = .ref a ∧ SqT K H a [.int 1, .ref t] ∧ SqT K H t (ts.map V.int) := by
  unfold dB at h
  obtain ⟨a, xs, e, hs, ha⟩ := of_dpT h
  cases ha with
  | cons h1 h2 =>
    cases h1
    cases h2 with
    | cons h3 h4 =>
      cases h4
      obtain ⟨t, ys, e2, h5, h6⟩ := of_dpT h3
      have e6 := of_dpI ts _ h6
      subst e2
      subst e6
      exact ⟨a, t, e, hs, h5⟩
theorem dpB {a t : Addr} {ts : List Int} (h1 : SqT K H a [.int 1, .ref t]) (h2 : SqT K H t (ts.map V.int)) : Dp K H (.ref a) (dB ts) := .tup h1 (.cons (.int 1) (.cons (.tup h2 (dpI ts)) .nil))
/-- a product, made -/
theorem dpP {ps : Pr} (h1 : SqT K H a xs) (h2 : DpAll K H xs (ps.map fun p => d2 p.1 p.2)) : Dp K H (.ref a) (dP ps) := .tup h1 h2
/-- a new object keeps data -/
theorem dp_new {p : Addr} {o : HO} {v : V} {d : PyData} (h : Dp K H v d) (n : H p = none) : Dp K (upd H p o) v d := dp_mono (same_new n) d v h
/-! ### isinstance of ints and tuples -/
theorem isi_int_int {n : Int} {Q : VK} (q : Q (.bl true) H) : rIsi K [.int n, .ty "int"] H Q := ⟨_, _, _, _, true, rfl, .ty "int", .base (.int n), kit_ty (by decide +kernel), q⟩
theorem isi_int_bool {n : Int} {Q : VK} (q : Q (.bl false) H) : rIsi K [.int n, .ty "bool"] H Q := ⟨_, _, _, _, false, rfl, .ty "bool", .base (.int n), kit_ty (by decide +kernel), q⟩
theorem isi_tup {Q : VK} (h : SqT K H a xs) (q : Q (.bl true) H) : rIsi K [.ref a, .ty "tuple"] H Q := ⟨_, _, _, _, true, rfl, .ty "tuple", tyx_tup h, kit_ty (by decide +kernel), q⟩
end
end K17
namespace K17
open PySem PySem.Spec PyProof.Rows L2
/-! ### small facts of heaps -/
section
variable {K : PySem.W.Frag} {H H' H1 : Hp} {a p q : Addr} {xs : List V}
theorem sz1000 {n : Nat} (h : n ≤ 1000) : n ≤ sizeLine := Nat.le_trans h (by decide)
/-- an object that H does not know may change -/
theorem same_mut {o : HO} (e : Same H H') (h : H p = none) : Same H (upd H' p o) := by
  intro b x hb
  rw [upd_ne (ne_of_none hb h)]
  exact e b x hb
theorem same_new2 {o : HO} (e : Same H H') (h : H' p = none) : Same H (upd H' p o) := e.trans (same_new h)
theorem fr_back (e : Same H H') (h : H' p = none) : H p = none := e.free h
end
/-- a fraction in lowest terms -/
def nrm (a b : Int) : Int × Int := (a / ((Nat.gcd a.natAbs b.natAbs : Nat) : Int), b / ((Nat.gcd a.natAbs b.natAbs : Nat) : Int))
theorem gcd_pos {a b : Int} (h : 0 < b) : (0 : Int) < ((Nat.gcd a.natAbs b.natAbs : Nat) : Int) := by
  have : 0 < Nat.gcd a.natAbs b.natAbs := Nat.gcd_pos_of_pos_right _ (by omega)
  omega
theorem gcd_le {a b : Int} (h : 0 < b) : ((Nat.gcd a.natAbs b.natAbs : Nat) : Int) ≤ b := by
  have : Nat.gcd a.natAbs b.natAbs ≤ b.natAbs := Nat.gcd_le_right _ (by omega)
  omega
/-! ### divisors -/
/-- the divisors below k; those above, from the greatest on -/
def dlo (n k : Nat) : List Int := ((List.range k).filter fun i => decide (0 < i ∧ n % i = 0)).map fun i : Nat => (i : Int)
def dhi (n k : Nat) : List Int := ((List.range k).filter fun i => decide (0 < i ∧ n % i = 0 ∧ i * i < n)).map fun i : Nat => ((n / i : Nat) : Int)
theorem dlo_len (n k : Nat) : (dlo n k).length ≤ k := by
  unfold dlo
  rw [List.length_map]
  exact Nat.le_trans (List.length_filter_le _ _) (Nat.le_of_eq List.length_range)
theorem dhi_len (n k : Nat) : (dhi n k).length ≤ k := by
  unfold dhi
  rw [List.length_map]
  exact Nat.le_trans (List.length_filter_le _ _) (Nat.le_of_eq List.length_range)
theorem dlo_yes {n k : Nat} (h0 : 0 < k) (h : n % k = 0) : dlo n (k + 1) = dlo n k ++ [(k : Int)] := by
  unfold dlo
  rw [List.range_succ, List.filter_append, List.map_append, List.filter_cons, if_pos (decide_eq_true ⟨h0, h⟩)]
  rfl
theorem dlo_no {n k : Nat} (h : n % k ≠ 0) : dlo n (k + 1) = dlo n k := by
  unfold dlo
  rw [List.range_succ, List.filter_append, List.map_append, List.filter_cons, if_neg (by rw [decide_eq_false (fun z => h z.2)]; decide)]
  show _ ++ [] = _
  rw [List.append_nil]
theorem dhi_yes {n k : Nat} (h0 : 0 < k) (h : n % k = 0) (h2 : k * k < n) : dhi n (k + 1) = dhi n k ++ [((n / k : Nat) : Int)] := by
  unfold dhi
  rw [List.range_succ, List.filter_append, List.map_append, List.filter_cons, if_pos (decide_eq_true ⟨h0, h, h2⟩)]
  rfl
theorem dhi_no {n k : Nat} (h : ¬ (n % k = 0 ∧ k * k < n)) : dhi n (k + 1) = dhi n k := by
  unfold dhi
  rw [List.range_succ, List.filter_append, List.map_append, List.filter_cons, if_neg (by rw [decide_eq_false (fun z => h ⟨z.2.1, z.2.2⟩)]; decide)]
  show _ ++ [] = _
  rw [List.append_nil]
theorem div_all : ∀ n : Fin 30, ∀ k : Fin 7, 1 ≤ n.val → 1 ≤ k.val → n.val < k.val * k.val → (k.val - 1) * (k.val - 1) ≤ n.val → (dlo n.val k.val ++ (dhi n.val k.val).reverse).sum = sg n.val := by decide +kernel
theorem div_sum {n k : Nat} (h1 : 1 ≤ n) (h2 : n < 30) (h3 : 1 ≤ k) (h4 : n < k * k) (h5 : (k - 1) * (k - 1) ≤ n) : (dlo n k ++ (dhi n k).reverse).sum = sg n := by
  have hk : k < 7 := by
    refine Nat.lt_of_not_le fun z => ?_
    have : 6 * 6 ≤ (k - 1) * (k - 1) := Nat.mul_le_mul (by omega) (by omega)
    omega
  exact div_all ⟨n, h2⟩ ⟨k, hk⟩ h1 h3 h4 h5
end K17
namespace K17
open PySem PySem.Spec PyProof.Rows L2
section
variable {K : PySem.W.Frag} {H H' : Hp} {a D : Addr} {xs ys : List V}
/-- a tuple stands while a list changes -/
theorem sqT_upd {o : HO} (h : SqT K H a xs) (hD : H D = some (.lst ys)) : SqT K (upd H D o) a xs := by
  rcases h with (h | ⟨ob, h⟩) | h
  · refine .inl (.inl ?_)
    rw [upd_ne (ne_of h hD (by intro z; cases z))]
    exact h
  · refine .inl (.inr ⟨ob, ?_⟩)
    rw [upd_ne (ne_of h hD (by intro z; cases z))]
    exact h
  · exact .inr h
theorem pairs_upd {o : HO} (hD : H D = some (.lst ys)) : ∀ {xs : List V} {ps : Pr}, DpAll K H xs (ps.map fun p => d2 p.1 p.2) → DpAll K (upd H D o) xs (ps.map fun p => d2 p.1 p.2)
  | _, [], h => by
    cases h
    exact .nil
  | _, p :: ps, h => by
    cases h with
    | cons h1 h2 =>
      obtain ⟨b, rfl, hb⟩ := of_dp2 h1
      exact .cons (dp2 (sqT_upd hb hD)) (pairs_upd hD h2)
/-- one pair more, at the list's end -/
theorem pairs_snoc {o : HO} {c : Addr} {ps : Pr} {x y : Int} {acc : List V} (h : DpAll K H acc (ps.map fun p => d2 p.1 p.2)) (nc : H c = none) (hD : H D = some (.lst ys)) :
    DpAll K (upd (upd H c (.tup [.int x, .int y])) D o) (acc ++ [.ref c]) ((ps ++ [(x, y)]).map fun p => d2 p.1 p.2) := by
  have e : upd H c (.tup [.int x, .int y]) D = some (.lst ys) := by
    rw [upd_ne (ne_of_none hD nc)]
    exact hD
  refine pairs_upd e ?_
  rw [List.map_append]
  exact dpa_app (dpa_mono (same_new nc) _ _ h) (.cons (dp2 (SqT.of upd_same)) .nil)
end
end K17
namespace K17
open PySem PySem.Spec PyProof.Rows L2
section
variable {K : PySem.W.Frag} {H H1 H2 : Hp} {a S : Addr} {xs : List V}
/-- .. while a dict changes -/
theorem sqT_but {kvs : List (Key × V)} (h : SqT K H a xs) (hS : H S = some (.dK kvs)) (k : ∀ b o, b ≠ S → H b = some o → H2 b = some o) : SqT K H2 a xs := by
  rcases h with (h | ⟨ob, h⟩) | h
  · exact .inl (.inl (k _ _ (ne_of h hS (by intro z; cases z)) h))
  · exact .inl (.inr ⟨ob, k _ _ (ne_of h hS (by intro z; cases z)) h⟩)
  · exact .inr h
theorem same_but (e : Same H H1) (n : H S = none) (k : ∀ b o, b ≠ S → H1 b = some o → H2 b = some o) : Same H H2 := by
  intro b o h
  exact k b o (ne_of_none h n) (e b o h)
end
end K17
namespace K17
open PySem PySem.Spec PyProof.Rows L2
/-- range(i, j, c), c small and above 0 -/
theorem rgC_pos {i j c : Int} {n : Nat} (hi : 0 ≤ i ∧ i ≤ 1000) (hj : 0 ≤ j ∧ j ≤ 1000) (hc : 0 < c ∧ c ≤ 1000) (hn : (i < j ∧ (j - i - 1) / c + 1 = (n : Int)) ∨ (j ≤ i ∧ n = 0)) : RgC i j c n := by
  have hs : Builtin.Range.rangeSize i j c = (n : Int) := by
    unfold Builtin.Range.rangeSize
    rw [if_pos hc.1]
    rcases hn with ⟨h1, h2⟩ | ⟨h1, h2⟩
    · rw [if_pos h1, h2]
    · rw [if_neg (by omega), h2]
      rfl
  have hb : (n : Int) ≤ 1001 := by
    rcases hn with ⟨h1, h2⟩ | ⟨h1, h2⟩
    · have q1 : (j - i - 1) / c ≤ j - i - 1 := Int.ediv_le_self _ (by omega)
      omega
    · omega
  refine ⟨by omega, by omega, ?_, hs⟩
  unfold Builtin.Range.small
  rw [hs]
  simp only [Builtin.Range.rangeFitsLong]
  rw [if_pos hc.1]
  simp only [Bool.and_eq_true, Bool.or_eq_true, decide_eq_true_eq]
  refine ⟨?_, .inr ?_⟩ <;> omega
end K17
/-! Looks, needs, powers. -/
namespace K17
open PySem PySem.Spec PyProof.Rows L2
section
variable {P : Program} {w : World} {K : PySem.W.Frag} {mg : Str → Option Value} {base : Heap}
/-! ### is_integer -/
def sp_is_integer : Sp := fun vs H Q _ => ∃ n : Int, vs = [.int n] ∧ Q (.bl true) H
theorem ok_is_integer (T : Txt K mg) : FnOk P w K mg base CX0 1 T.f_is_integer.f T.f_is_integer.fd ["thing"] sp_is_integer := by
  refine T.f_is_integer.F.ok sc_is_integer (fun vs H Q E h => ?_) (fun cdv A outer s H vs Q E hr h => ?_)
  · obtain ⟨n, rfl, _⟩ := h
    rfl
  · obtain ⟨n, rfl, q⟩ := h
    refine ⟨_, (pss_one (ps_ret (pe_and (pe_callB call_isi (by rfl) T.m_isinstance (by decide +kernel) (pa_cons (pv 0) (pa_cons (pe_bltn (v := .ty "int") rfl T.m_int (by decide +kernel) rfl) pa_nil))) (pe_one (pe_not (pe_callB call_isi (by rfl) T.m_isinstance (by decide +kernel) (pa_cons (pv 0) (pa_cons (pe_bltn (v := .ty "bool") rfl T.m_bool (by decide +kernel) rfl) pa_nil)))))))), ?_⟩
    refine ⟨_, rfl, _, _, _, _, true, rfl, .ty "int", .base (.int n), kit_ty (by decide +kernel), true, rfl, iteT ?_⟩
    exact ⟨_, rfl, _, _, _, _, false, rfl, .ty "bool", .base (.int n), kit_ty (by decide +kernel), false, rfl, q⟩
/-! ### is_between -/
def sp_is_between : Sp := fun vs H Q _ => ∃ n a b : Int, vs = [.int n, .int a, .int b] ∧ Q (.bl (decide (a ≤ n ∧ n ≤ b))) H
theorem ok_is_between (T : Txt K mg) : FnOk P w K mg base CX0 2 T.f_is_between.f T.f_is_between.fd ["thing", "least", "most"] sp_is_between := by
  have G_is_integer := ok_is_integer (P := P) (w := w) (base := base) T
  refine T.f_is_between.F.ok sc_is_between (fun vs H Q E h => ?_) (fun cdv A outer s H vs Q E hr h => ?_)
  · obtain ⟨n, a, b, rfl, _⟩ := h
    rfl
  · obtain ⟨n, a, b, rfl, q⟩ := h
    refine ⟨_, (pss_one (ps_ret (pe_and (pe_call G_is_integer (hr.mono (by decide)) (by rfl) T.f_is_integer.g T.f_is_integer.F.kp T.f_is_integer.b .nil pass0 (pa_cons (pv 0) pa_nil)) (pe_one (pe_chain op_le op_le (pv 1) (pv 0) (pv 2)))))), ?_⟩
    refine ⟨_, rfl, n, rfl, true, rfl, iteT ?_⟩
    refine ⟨_, rfl, _, rfl, _, _, rfl, rfl, _, rfl, ?_⟩
    by_cases h1 : a ≤ n
    · rw [decide_eq_true h1]
      refine iteT ⟨_, rfl, _, _, rfl, rfl, ?_⟩
      have e : decide (a ≤ n ∧ n ≤ b) = decide (n ≤ b) := by
        rw [decide_eq_decide]
        exact ⟨fun z => z.2, fun z => ⟨h1, z⟩⟩
      rw [e] at q
      exact q
    · rw [decide_eq_false h1]
      refine iteF ?_
      rw [decide_eq_false (fun z => h1 z.1)] at q
      exact q
/-! ### is_count, need_many, need_from -/
def sp_is_count : Sp := fun vs H Q _ => ∃ n : Int, vs = [.int n] ∧ Q (.bl (decide (1 ≤ n ∧ n ≤ 400))) H
theorem ok_is_count (T : Txt K mg) : FnOk P w K mg base CX0 3 T.f_is_count.f T.f_is_count.fd ["thing"] sp_is_count := by
  have G_is_between := ok_is_between (P := P) (w := w) (base := base) T
  refine T.f_is_count.F.ok sc_is_count (fun vs H Q E h => ?_) (fun cdv A outer s H vs Q E hr h => ?_)
  · obtain ⟨n, rfl, _⟩ := h
    rfl
  · obtain ⟨n, rfl, q⟩ := h
    refine ⟨_, (pss_one (ps_ret (pe_call G_is_between (hr.mono (by decide)) (by rfl) T.f_is_between.g T.f_is_between.F.kp T.f_is_between.b .nil pass0 (pa_cons (pv 0) (pa_cons pe_int (pa_cons (pe_glob (v := .int 400) rfl (T.c_MOST_TERMS).choose_spec ⟨_, rfl⟩) pa_nil)))))), ?_⟩
    exact ⟨_, rfl, n, 1, 400, rfl, q⟩
def sp_need_many : Sp := fun vs H Q _ => ∃ n : Int, vs = [.int n] ∧ 1 ≤ n ∧ n ≤ 400 ∧ Q .non H
theorem ok_need_many (T : Txt K mg) : FnOk P w K mg base CX0 4 T.f_need_many.f T.f_need_many.fd ["many"] sp_need_many := by
  have G_is_count := ok_is_count (P := P) (w := w) (base := base) T
  refine T.f_need_many.F.ok sc_need_many (fun vs H Q E h => ?_) (fun cdv A outer s H vs Q E hr h => ?_)
  · obtain ⟨n, rfl, _⟩ := h
    rfl
  · obtain ⟨n, rfl, h1, h2, q⟩ := h
    refine ⟨_, (pss_one (ps_if (pt_not (pt_val (pe_call G_is_count (hr.mono (by decide)) (by rfl) T.f_is_count.g T.f_is_count.F.kp T.f_is_count.b .nil pass0 (pa_cons (pv 0) pa_nil))))
      (pss_one ps_never)
      pss_nil)), ?_⟩
    refine ⟨_, rfl, n, rfl, _, rfl, ?_⟩
    rw [decide_eq_true (show 1 ≤ n ∧ n ≤ 400 from ⟨h1, h2⟩)]
    exact iteF q
def sp_need_from : Sp := fun vs H Q _ => ∃ n lo : Int, vs = [.int n, .int lo] ∧ lo ≤ n ∧ Q .non H
theorem ok_need_from (T : Txt K mg) : FnOk P w K mg base CX0 2 T.f_need_from.f T.f_need_from.fd ["thing", "low"] sp_need_from := by
  have G_is_integer := ok_is_integer (P := P) (w := w) (base := base) T
  refine T.f_need_from.F.ok sc_need_from (fun vs H Q E h => ?_) (fun cdv A outer s H vs Q E hr h => ?_)
  · obtain ⟨n, lo, rfl, _⟩ := h
    rfl
  · obtain ⟨n, lo, rfl, h1, q⟩ := h
    refine ⟨_, (pss_one (ps_if (PW.pt (pw_or (pt_not (pt_val (pe_call G_is_integer (hr.mono (by decide)) (by rfl) T.f_is_integer.g T.f_is_integer.F.kp T.f_is_integer.b .nil pass0 (pa_cons (pv 0) pa_nil)))) (pw_or1 (pt_cmpR op_lt (pv 0) (pv 1) (nomark _)))))
      (pss_one ps_never)
      pss_nil)), ?_⟩
    refine ⟨_, rfl, n, rfl, true, rfl, iteF ?_⟩
    refine ⟨_, rfl, _, rfl, _, _, rfl, rfl, _, rfl, ?_⟩
    rw [decide_eq_false (show ¬ n < lo by omega)]
    exact iteF q
/-! ### normal -/
def sp_normal (K : PySem.W.Frag) : Sp := fun vs H Q _ => ∃ a b : Int, vs = [.int a, .int b] ∧ 0 < b ∧ b < 1000000 ∧ ∀ v H', Same H H' → Dp K H' v (d2 (nrm a b).1 (nrm a b).2) → Q v H'
theorem ok_normal (T : Txt K mg) : FnOk P w K mg base CX0 1 T.f_normal.f T.f_normal.fd ["top", "bottom"] (sp_normal K) := by
  refine T.f_normal.F.ok sc_normal (fun vs H Q E h => ?_) (fun cdv A outer s H vs Q E hr h => ?_)
  · obtain ⟨a, b, rfl, _⟩ := h
    rfl
  · obtain ⟨a, b, rfl, h1, h2, q⟩ := h
    have g1 := gcd_pos (a := a) h1
    have g2 := gcd_le (a := a) h1
    refine ⟨_, (pss_cons (ps_set (i := 2) sc_normal.nd rfl (.inl rfl) (pe_callBfun cr_gcd (by rfl) T.gcd (pa_cons (pv 0) (pa_cons (pv 1) pa_nil))))
    (pss_cons (ps_if (pt_cmpR op_lt (pv 1) pe_int (nomark _))
      (pss_one (ps_set (i := 2) sc_normal.nd rfl (.inl rfl) (pe_un un_neg (pv 2))))
      pss_nil)
    (pss_one (ps_ret (pe_tup (pa_cons (pe_op op_fdiv (pv 0) (pv 2)) (pa_cons (pe_op op_fdiv (pv 1) (pv 2)) pa_nil))))))), ?_⟩
    refine ⟨_, rfl, _, rfl, a, b, rfl, ?_⟩
    refine ⟨_, rfl, _, _, rfl, rfl, _, rfl, ?_⟩
    rw [decide_eq_false (show ¬ b < 0 by omega)]
    refine iteF ?_
    refine ⟨_, rfl, _, rfl, _, _, rfl, rfl, ⟨g1, by omega⟩, _, rfl, _, rfl, _, _, rfl, rfl, ⟨g1, by omega⟩, by show 2 ≤ sizeLine; decide, fun p hp => ?_⟩
    exact q _ _ (same_new hp) (dp2 (SqT.of upd_same))
/-! ### power_of, of the base 1 -/
def sp_power_of : Sp := fun vs H Q _ => ∃ m : Int, vs = [.int 1, .int m] ∧ Q (.int 1) H
theorem ok_power_of (T : Txt K mg) : FnOk P w K mg base CX0 1 T.f_power_of.f T.f_power_of.fd ["base", "many"] sp_power_of := by
  refine T.f_power_of.F.ok sc_power_of (fun vs H Q E h => ?_) (fun cdv A outer s H vs Q E hr h => ?_)
  · obtain ⟨m, rfl, _⟩ := h
    rfl
  · obtain ⟨m, rfl, q⟩ := h
    refine ⟨_, (pss_cons (ps_par (i := 2) (j := 3) rfl sc_power_of.nd rfl rfl (by decide) rfl rfl (pa_cons pe_int (pa_cons (pv 0) pa_nil)) (by rfl))
    (pss_cons (ps_while PassesOwn.never (pt_cmpR op_gt (pv 1) pe_int (nomark _))
      (pss_cons (ps_if (pt_cmpR op_eq (pe_op op_mod (pv 1) pe_int) pe_int (nomark _))
        (pss_one (ps_set (i := 2) sc_power_of.nd rfl (.inl rfl) (pe_op op_mul (pv 2) (pv 3))))
        pss_nil)
      (pss_cons (ps_set (i := 3) sc_power_of.nd rfl (.inl rfl) (pe_op op_mul (pv 3) (pv 3)))
      (pss_one (ps_set (i := 1) sc_power_of.nd rfl (.inl rfl) (pe_op op_fdiv (pv 1) pe_int))))))
    (pss_one (ps_ret (pv 2))))), ?_⟩
    refine ⟨_, rfl, _, _, rfl, ?_⟩
    refine ⟨fun k σ H' => ∃ n : Int, σ = [some (.int 1), some (.int n), some (.int 1), some (.int 1)] ∧ H' = H ∧ k = n.toNat, ⟨_, m, rfl, rfl, rfl⟩, ?_⟩
    rintro k σ H' ⟨n, rfl, rfl, rfl⟩
    refine ⟨_, rfl, _, _, rfl, rfl, _, rfl, ?_⟩
    by_cases hn : 0 < n
    · rw [decide_eq_true hn]
      refine iteT ⟨fun σ H2 => σ = [some (.int 1), some (.int (n / 2)), some (.int 1), some (.int 1)] ∧ H2 = H', ?_, ?_⟩
      · rintro σ H2 ⟨rfl, rfl⟩
        exact ⟨(n / 2).toNat, by omega, n / 2, rfl, rfl, rfl⟩
      · refine ⟨_, rfl, _, _, rfl, rfl, by show (0 : Int) < 2; decide, rfl, _, rfl, ?_⟩
        have fin : tSeq (tAsg (tOp (rI CMul fun i j => .int (i * j)) (tVar 3) (tVar 3)) (gName 3)) (tAsg (tOp (rI CDiv fun i j => .int (i / j)) (tVar 1) (tC (.int 2))) (gName 1))
            { nx := fun σ H2 => σ = [some (.int 1), some (.int (n / 2)), some (.int 1), some (.int 1)] ∧ H2 = H', ct := fun σ H2 => σ = [some (.int 1), some (.int (n / 2)), some (.int 1), some (.int 1)] ∧ H2 = H', rt := Q, bk := fun σ' H2 => tRet (tVar 2) { nx := fun _ H' => Q .non H', rt := Q } σ' H2 }
            [some (.int 1), some (.int n), some (.int 1), some (.int 1)] H' :=
          ⟨_, rfl, _, rfl, _, _, rfl, rfl, .inl ⟨by decide, by decide⟩, _, rfl, _, _, rfl, rfl, ⟨by decide, by decide⟩, rfl, rfl⟩
        refine ite2 (fun _ => ?_) (fun _ => ?_)
        · exact ⟨_, rfl, _, rfl, _, _, rfl, rfl, .inl ⟨by decide, by decide⟩, fin⟩
        · exact fin
    · rw [decide_eq_false hn]
      exact iteF ⟨_, rfl, q⟩
end
end K17
/-! Divisors, beginnings. -/
namespace K17
open PySem PySem.Spec PyProof.Rows L2
section
variable {P : Program} {w : World} {K : PySem.W.Frag} {mg : Str → Option Value} {base : Heap}
/-! ### divisors_of, of numbers below 30 -/
def sp_divisors_of : Sp := fun vs H Q _ => ∃ n : Nat, vs = [.int (n : Int)] ∧ 1 ≤ n ∧ n < 30 ∧ ∀ (p : Addr) (H' : Hp) (ns : List Int), Same H H' → H' p = some (.lst (ns.map V.int)) → ns.sum = sg n → Q (.ref p) H'
theorem ok_divisors_of (T : Txt K mg) : FnOk P w K mg base CX0 1 T.f_divisors_of.f T.f_divisors_of.fd ["number"] sp_divisors_of := by
  refine T.f_divisors_of.F.ok sc_divisors_of (fun vs H Q E h => ?_) (fun cdv A outer s H vs Q E hr h => ?_)
  · obtain ⟨n, rfl, _⟩ := h
    rfl
  · obtain ⟨n, rfl, h1, h2, q⟩ := h
    refine ⟨_, (pss_cons (ps_par3 (i := 1) (j := 2) (l := 3) rfl sc_divisors_of.nd rfl rfl rfl (by decide) (by decide) (by decide) rfl rfl rfl (pa_cons (pe_lst pa_nil) (pa_cons (pe_lst pa_nil) (pa_cons pe_int pa_nil))) (by rfl))
    (pss_cons (ps_while PassesOwn.never (pt_cmpR op_le (pe_op op_mul (pv 3) (pv 3)) (pv 0) (nomark _))
      (pss_cons (ps_if (pt_cmpR op_eq (pe_op op_mod (pv 0) (pv 3)) pe_int (nomark _))
        (pss_cons (ps_expr (pe_bm PySem.F.plainAttrs_list PySem.F.slot_list_append PySem.F.type_list_append mt_append (pv 1) (pa_cons (pv 3) pa_nil)))
        (pss_one (ps_if (pt_cmpR op_lt (pe_op op_mul (pv 3) (pv 3)) (pv 0) (nomark _))
          (pss_one (ps_expr (pe_bm PySem.F.plainAttrs_list PySem.F.slot_list_append PySem.F.type_list_append mt_append (pv 2) (pa_cons (pe_op op_fdiv (pv 0) (pv 3)) pa_nil))))
          pss_nil)))
        pss_nil)
      (pss_one (ps_aug (i := 3) sc_divisors_of.nd rfl (.inl rfl) pe_int ip_add))))
    (pss_one (ps_ret (pe_op op_cat (pv 1) (pe_revL (pv 2))))))), ?_⟩
    -- low, high, divisor = [], [], 1
    refine ⟨Nat.zero_le _, fun lo nlo => ⟨Nat.zero_le _, fun hi nhi => ⟨_, _, _, rfl, ?_⟩⟩⟩
    have s1 : Same H (upd H lo (.lst [])) := same_new nlo
    have nlh : lo ≠ hi := fun e => by
      rw [← e, upd_same] at nhi
      cases nhi
    have nhi0 : H hi = none := s1.free nhi
    -- the loop
    refine ⟨fun m σ H' => ∃ k : Nat, σ = [some (.int (n : Int)), some (.ref lo), some (.ref hi), some (.int (k : Int))] ∧ Same H H' ∧ H' lo = some (.lst ((dlo n k).map V.int)) ∧ H' hi = some (.lst ((dhi n k).map V.int)) ∧ 1 ≤ k ∧ k ≤ 6 ∧ (k - 1) * (k - 1) ≤ n ∧ m = 6 - k,
      ⟨_, 1, rfl, same_new2 s1 nhi, ?_, ?_, Nat.le_refl _, by decide, by simp, rfl⟩, ?_⟩
    · rw [upd_ne nlh, upd_same]
      rfl
    · rw [upd_same]
      rfl
    rintro m σ H' ⟨k, rfl, sm, elo, ehi, k1, k6, kn, rfl⟩
    refine ⟨_, rfl, _, rfl, _, _, rfl, rfl, .inl ⟨by omega, by omega⟩, _, rfl, _, _, rfl, rfl, _, rfl, ?_⟩
    by_cases hk : k * k ≤ n
    · have hk' : (k : Int) * (k : Int) ≤ (n : Int) := by
        rw [← Int.natCast_mul]
        omega
      have k5 : k ≤ 5 := by
        refine Nat.le_of_not_lt fun z => ?_
        have : 6 * 6 ≤ k * k := Nat.mul_le_mul (by omega) (by omega)
        omega
      rw [decide_eq_true hk']
      refine iteT ⟨fun σ H2 => σ = [some (.int (n : Int)), some (.ref lo), some (.ref hi), some (.int ((k + 1 : Nat) : Int))] ∧ Same H H2 ∧ H2 lo = some (.lst ((dlo n (k + 1)).map V.int)) ∧ H2 hi = some (.lst ((dhi n (k + 1)).map V.int)), ?_, ?_⟩
      · rintro σ H2 ⟨rfl, a1, a2, a3⟩
        exact ⟨6 - (k + 1), by omega, k + 1, rfl, a1, a2, a3, by omega, by omega, by simpa using hk, rfl⟩
      · -- if number % divisor == 0
        have em : (n : Int) % (k : Int) = ((n % k : Nat) : Int) := by omega
        have l1 := dlo_len n k
        have l2 := dhi_len n k
        refine ⟨_, rfl, _, rfl, _, _, rfl, rfl, by show (0 : Int) < k; omega, rfl, _, rfl, ?_⟩
        by_cases hd : n % k = 0
        · rw [decide_eq_true (show V.int ((n : Int) % (k : Int)) = V.int 0 by rw [em, hd]; rfl)]
          refine iteT ?_
          -- low.append(divisor)
          refine ⟨_, rfl, .inl ⟨rfl, _, SqL.of elo⟩, _, rfl, lo, _, _, rfl, rfl, elo, by rw [List.length_map]; exact small1000 (by omega), ?_⟩
          have elo1 : upd H' lo (.lst ((dlo n k).map V.int ++ [V.int (k : Int)])) lo = some (.lst ((dlo n (k + 1)).map V.int)) := by
            rw [upd_same, dlo_yes (by omega) hd, List.map_append]
            rfl
          have ehi1 : upd H' lo (.lst ((dlo n k).map V.int ++ [V.int (k : Int)])) hi = some (.lst ((dhi n k).map V.int)) := by
            rw [upd_ne nlh.symm]
            exact ehi
          have sm1 : Same H (upd H' lo (.lst ((dlo n k).map V.int ++ [V.int (k : Int)]))) := same_mut sm nlo
          refine ⟨_, rfl, _, rfl, _, _, rfl, rfl, .inl ⟨by omega, by omega⟩, _, rfl, _, _, rfl, rfl, _, rfl, ?_⟩
          by_cases h3 : k * k < n
          · rw [decide_eq_true (show (k : Int) * (k : Int) < (n : Int) by rw [← Int.natCast_mul]; omega)]
            refine iteT ?_
            have ed : (n : Int) / (k : Int) = ((n / k : Nat) : Int) := by omega
            refine ⟨_, rfl, .inl ⟨rfl, _, SqL.of ehi1⟩, _, rfl, _, rfl, _, _, rfl, rfl, ⟨by omega, by omega⟩, hi, _, _, rfl, rfl, ehi1, by rw [List.length_map]; exact small1000 (by omega), ?_⟩
            refine ⟨_, rfl, _, _, rfl, rfl, rfl, same_mut sm1 nhi0, ?_, ?_⟩
            · rw [upd_ne nlh]
              exact elo1
            · rw [upd_same, dhi_yes (by omega) hd h3, List.map_append]
              show some (HO.lst ((dhi n k).map V.int ++ [V.int ((n : Int) / (k : Int))])) = _
              rw [ed]
              rfl
          · rw [decide_eq_false (show ¬ (k : Int) * (k : Int) < (n : Int) by rw [← Int.natCast_mul]; omega)]
            refine iteF ?_
            refine ⟨_, rfl, _, _, rfl, rfl, rfl, sm1, elo1, ?_⟩
            rw [dhi_no fun z => h3 z.2]
            exact ehi1
        · rw [decide_eq_false (show ¬ V.int ((n : Int) % (k : Int)) = V.int 0 by rw [em]; intro z; exact hd (by have := V.int.inj z; omega))]
          refine iteF ?_
          refine ⟨_, rfl, _, _, rfl, rfl, rfl, sm, ?_, ?_⟩
          · rw [dlo_no hd]
            exact elo
          · rw [dhi_no fun z => hd z.1]
            exact ehi
    · rw [decide_eq_false (show ¬ (k : Int) * (k : Int) ≤ (n : Int) by rw [← Int.natCast_mul]; omega)]
      refine iteF ?_
      -- return low + high[::-1]
      have l1 := dlo_len n k
      have l2 := dhi_len n k
      refine ⟨_, rfl, _, rfl, hi, _, rfl, SqL.of ehi, fun r nr => ?_⟩
      have nrl : lo ≠ r := ne_of_none elo nr
      refine ⟨lo, r, (dlo n k).map V.int, _, rfl, rfl, ?_, upd_same, ?_, fun p np => ?_⟩
      · rw [upd_ne nrl]
        exact elo
      · rw [List.length_reverse, List.length_map, List.length_map]
        exact sz1000 (by omega)
      · refine q p _ (dlo n k ++ (dhi n k).reverse) (same_new2 (same_new2 sm nr) np) ?_ (div_sum h1 h2 k1 (by omega) kn)
        rw [upd_same, List.map_append, List.map_reverse]
/-! ### common_divisor with the start 1 -/
def sp_common_divisor (K : PySem.W.Frag) : Sp := fun vs H Q _ => ∃ (a : Addr) (xs : List V), vs = [.ref a, .int 1] ∧ SqL K H a xs ∧ Q (.int 1) H
theorem ok_common_divisor (T : Txt K mg) : FnOk P w K mg base CX0 1 T.f_common_divisor.f T.f_common_divisor.fd ["numbers", "start"] (sp_common_divisor K) := by
  refine T.f_common_divisor.F.ok sc_common_divisor (fun vs H Q E h => ?_) (fun cdv A outer s H vs Q E hr h => ?_)
  · obtain ⟨a, xs, rfl, _⟩ := h
    rfl
  · obtain ⟨a, xs, rfl, hS, q⟩ := h
    refine ⟨_, (pss_cons (ps_set (i := 2) sc_common_divisor.nd rfl (.inl rfl) (pv 1))
    (pss_cons (ps_for PassesOwn.never rfl (pi_list (pv 0)) (pg_name (i := 3) sc_common_divisor.nd rfl (.inl rfl))
      (pss_cons (ps_if (pt_cmpR op_eq (pv 2) pe_int (nomark _))
        (pss_one (ps_ret pe_int))
        pss_nil)
      (pss_one (ps_set (i := 2) sc_common_divisor.nd rfl (.inl rfl) (pe_callBfun cr_gcd (by rfl) T.gcd (pa_cons (pv 2) (pa_cons (pv 3) pa_nil)))))))
    (pss_one (ps_ret (pv 2))))), ?_⟩
    refine ⟨_, rfl, _, rfl, a, rfl, ⟨_, hS⟩, for_list (K := K) (a := a) (xs := xs) (fun i σ H' => i = 0 ∧ σ = [some (.ref a), some (.int 1), some (.int 1), none] ∧ H' = H) ⟨rfl, rfl, rfl⟩ (fun i σ H' _ z => by rw [z.2.2]; exact hS) ?_ ?_⟩
    · rintro i x σ H' hi ⟨rfl, rfl, rfl⟩
      refine ⟨_, rfl, rfl, _, rfl, ?_⟩
      rw [decide_eq_true (rfl : V.int 1 = V.int 1)]
      exact iteT q
    · rintro σ H' ⟨_, rfl, rfl⟩
      exact ⟨_, rfl, q⟩
/-! ### beginning_of with the bottom 1 -/
def sp_beginning_of (K : PySem.W.Frag) : Sp := fun vs H Q _ => ∃ (a : Addr) (ns : List Int), vs = [.int 1, .ref a] ∧ SqL K H a (ns.map V.int) ∧ ns.length ≤ 1000 ∧ ∀ v H', Same H H' → Dp K H' v (dB ns) → Q v H'
theorem ok_beginning_of (T : Txt K mg) : FnOk P w K mg base CX0 2 T.f_beginning_of.f T.f_beginning_of.fd ["bottom", "tops"] (sp_beginning_of K) := by
  have G_common_divisor := ok_common_divisor (P := P) (w := w) (base := base) T
  refine T.f_beginning_of.F.ok sc_beginning_of (fun vs H Q E h => ?_) (fun cdv A outer s H vs Q E hr h => ?_)
  · obtain ⟨a, ns, rfl, _⟩ := h
    rfl
  · obtain ⟨a, ns, rfl, hS, hl, q⟩ := h
    refine ⟨_, (pss_cons (ps_set (i := 2) sc_beginning_of.nd rfl (.inr rfl) (pe_call G_common_divisor (hr.mono (by decide)) (by rfl) T.f_common_divisor.g T.f_common_divisor.F.kp T.f_common_divisor.b .nil pass0 (pa_cons (pv 1) (pa_cons (pv 0) pa_nil))))
    (pss_one (ps_ret (pe_tup (pa_cons (pe_op op_fdiv (pv 0) (pv 2)) (pa_cons (pe_callTy call_tupU (by rfl) T.m_tuple (by decide +kernel) (pa_cons (pe_lc (own := [("top", 3)]) (g := gName 3) rfl sc_beginning_of.nd (pi_list (pv 1)) (blkOk_by (own := [("top", 3)]) (N := ["bottom", "tops", "divisor", "top"]) (sc := defScope s_beginning_of) (by decide +kernel)) (fun _ _ _ _ _ => (pg_name (i := 3) sc_beginning_of.nd rfl (.inl rfl) (hf := .inr rfl))) (fun _ _ _ _ _ => pts_nil) (fun _ _ _ _ _ => (pe_op op_fdiv (pv 3) (pv 2)))) pa_nil)) pa_nil)))))), ?_⟩
    -- divisor = common_divisor(tops, bottom)
    refine ⟨_, rfl, _, rfl, a, _, rfl, hS, ?_⟩
    -- (bottom // divisor, tuple([top // divisor for top in tops]))
    refine ⟨_, rfl, _, rfl, _, _, rfl, rfl, ⟨by decide, by decide⟩, ?_⟩
    refine ⟨_, rfl, a, rfl, ⟨_, hS⟩, fun D nD => lc_list (K := K) (a := a) (xs := ns.map V.int) (fun i H' => Same H H' ∧ H' D = some (.lst ((ns.take i).map V.int))) ⟨same_new nD, upd_same⟩ (fun i H' _ z => z.1.seq hS) ?_ ?_⟩
    · rintro i x H' hi ⟨sm, eD⟩
      rw [List.getElem?_map] at hi
      cases hn : ns[i]? with
      | none =>
        rw [hn] at hi
        cases hi
      | some n =>
        rw [hn] at hi
        cases hi
        refine ⟨rfl, _, rfl, _, rfl, _, _, rfl, rfl, ⟨by decide, by decide⟩, _, eD, ?_, same_mut sm nD, ?_⟩
        · rw [List.length_map, List.length_take]
          exact small1000 (by omega)
        · rw [upd_same, List.take_add_one, hn, List.map_append]
          show some (HO.lst (_ ++ [V.int (n / 1)])) = _
          rw [Int.ediv_one]
          rfl
    · rintro H' ⟨sm, eD⟩
      rw [List.length_map, List.take_length] at eD
      refine ⟨D, _, rfl, .inl (SqL.of eD), fun t H2 s2 ht => ⟨by show 2 ≤ sizeLine; decide, fun p np => ?_⟩⟩
      refine q _ _ (same_new2 (sm.trans s2) np) (dpB (t := t) (SqT.of upd_same) (same_tup (same_new np) ht))
end
end K17
/-! Products: looks, starts, weights, what is made pair by pair. -/
namespace K17
open PySem PySem.Spec PyProof.Rows L2
structure IsP (ps : Pr) : Prop where
  asc : ps.Pairwise (fun p q => p.1 < q.1)
  lo : ∀ p ∈ ps, 1 ≤ p.1
  hi : ∀ p ∈ ps, p.1 ≤ 400
  nz : ∀ p ∈ ps, p.2 ≠ 0
  pw : ∀ p ∈ ps, -30 ≤ p.2 ∧ p.2 ≤ 30
  len : ps.length ≤ 8
def ssum (ps : Pr) : Int := (ps.map fun p => p.1 * p.2).sum
def psum2 (ps : Pr) : Int := (ps.map fun p => p.2).sum
section
variable {P : Program} {w : World} {K : PySem.W.Frag} {mg : Str → Option Value} {base : Heap}
theorem g_pair {i j : Nat} {b : Addr} {x y : V} {σ : L2.St} {H : Hp} {Q : L2.St → Hp → Prop} (h : SqT K H b [x, y]) (q : Q ((σ.set i (some x)).set j (some y)) H) : gTup K 2 (gCons (gName i) (gCons (gName j) gNil)) (.ref b) σ H Q :=
  ⟨b, _, rfl, h, rfl, _, _, rfl, _, _, rfl, rfl, q⟩
/-! ### is_product_value, need_product -/
def sp_is_product_value (K : PySem.W.Frag) : Sp := fun vs H Q _ => ∃ (v : V) (ps : Pr), vs = [v] ∧ Dp K H v (dP ps) ∧ IsP ps ∧ Q (.bl true) H
theorem ok_is_product_value (T : Txt K mg) : FnOk P w K mg base CX0 3 T.f_is_product_value.f T.f_is_product_value.fd ["thing"] (sp_is_product_value K) := by
  have G_is_between := ok_is_between (P := P) (w := w) (base := base) T
  refine T.f_is_product_value.F.ok sc_is_product_value (fun vs H Q E h => ?_) (fun cdv A outer s H vs Q E hr h => ?_)
  · obtain ⟨v, ps, rfl, _⟩ := h
    rfl
  · obtain ⟨v, ps, rfl, hd, hp, q⟩ := h
    obtain ⟨a, xs, rfl, hS, hl, hA⟩ := of_dpP hd
    have hlen := hp.len
    refine ⟨_, (pss_cons (ps_if (PW.pt (pw_or (pt_not (pt_val (pe_callB call_isi (by rfl) T.m_isinstance (by decide +kernel) (pa_cons (pv 0) (pa_cons (pe_bltn (v := .ty "tuple") rfl T.m_tuple (by decide +kernel) rfl) pa_nil))))) (pw_or1 (pt_cmpR op_gt (pe_callB call_len_seq (by rfl) T.m_len (by decide +kernel) (pa_cons (pv 0) pa_nil)) (pe_glob (v := .int 8) rfl (T.c_MOST_PAIRS).choose_spec ⟨_, rfl⟩) (nomark _)))))
      (pss_one (ps_ret pe_bl))
      pss_nil)
    (pss_cons (ps_set (i := 1) sc_is_product_value.nd rfl (.inl rfl) pe_int)
    (pss_cons (ps_for PassesOwn.never rfl (pi_tup (pv 0)) (pg_name (i := 2) sc_is_product_value.nd rfl (.inl rfl))
      (pss_cons (ps_if (PW.pt (pw_or (pt_not (pt_val (pe_callB call_isi (by rfl) T.m_isinstance (by decide +kernel) (pa_cons (pv 2) (pa_cons (pe_bltn (v := .ty "tuple") rfl T.m_tuple (by decide +kernel) rfl) pa_nil))))) (pw_or (pt_cmpR op_ne (pe_callB call_len_seq (by rfl) T.m_len (by decide +kernel) (pa_cons (pv 2) pa_nil)) pe_int (nomark _)) (pw_or1 (pt_not (pt_val (pe_call G_is_between (hr.mono (by decide)) (by rfl) T.f_is_between.g T.f_is_between.F.kp T.f_is_between.b .nil pass0 (pa_cons (pe_ix ix_tup (pv 2) pe_int (fun _ _ => rfl)) (pa_cons (pe_op op_add (pv 1) pe_int) (pa_cons (pe_glob (v := .int 400) rfl (T.c_MOST_STEP).choose_spec ⟨_, rfl⟩) pa_nil))))))))))
        (pss_one (ps_ret pe_bl))
        pss_nil)
      (pss_cons (ps_if (PW.pt (pw_or (pt_not (pt_val (pe_call G_is_between (hr.mono (by decide)) (by rfl) T.f_is_between.g T.f_is_between.F.kp T.f_is_between.b .nil pass0 (pa_cons (pe_ix ix_tup (pv 2) pe_int (fun _ _ => rfl)) (pa_cons (pe_un un_neg (pe_glob (v := .int 48) rfl (T.c_MOST_POWER).choose_spec ⟨_, rfl⟩)) (pa_cons (pe_glob (v := .int 48) rfl (T.c_MOST_POWER).choose_spec ⟨_, rfl⟩) pa_nil)))))) (pw_or1 (pt_cmpR op_eq (pe_ix ix_tup (pv 2) pe_int (fun _ _ => rfl)) pe_int (nomark _)))))
        (pss_one (ps_ret pe_bl))
        pss_nil)
      (pss_one (ps_set (i := 1) sc_is_product_value.nd rfl (.inl rfl) (pe_ix ix_tup (pv 2) pe_int (fun _ _ => rfl)))))))
    (pss_one (ps_ret pe_bl))))), ?_⟩
    -- if not isinstance(thing, tuple) or len(thing) > MOST_PAIRS
    refine ⟨_, rfl, _, _, _, _, true, rfl, .ty "tuple", tyx_tup hS, kit_ty (by decide +kernel), true, rfl, iteF ?_⟩
    refine ⟨_, rfl, a, xs, rfl, .inr hS, _, _, rfl, rfl, _, rfl, ?_⟩
    rw [decide_eq_false (show ¬ (8 : Int) < ((xs.length : Nat) : Int) by omega)]
    refine iteF ?_
    -- the loop
    refine ⟨_, rfl, a, rfl, ⟨_, hS⟩, for_tup (K := K) (a := a) (xs := xs) (fun i σ H' => H' = H ∧ ∃ (l : Int) (y : Option V), σ = [some (.ref a), some (.int l), y] ∧ ∀ p ∈ ps.drop i, l < p.1) ⟨rfl, 0, none, rfl, fun p hm => ?_⟩ (fun i σ H' _ z => by rw [z.1]; exact hS) ?_ ?_⟩
    · have := hp.lo p (by simpa using hm)
      omega
    · rintro i x σ H' hi ⟨rfl, l, y, rfl, hlt⟩
      obtain ⟨p, b, hpi, rfl, hB⟩ := pair_at hA hi
      have hmem : p ∈ ps := List.mem_of_getElem? hpi
      have hil : i < ps.length := (List.getElem?_eq_some_iff.mp hpi).1
      have hdrop : ps.drop i = p :: ps.drop (i + 1) := by
        rw [List.drop_eq_getElem_cons hil]
        congr 1
        exact (List.getElem?_eq_some_iff.mp hpi).2
      have h1 : l < p.1 := hlt p (by rw [hdrop]; exact List.mem_cons_self)
      have h2 := hp.hi p hmem
      have h3 := hp.pw p hmem
      have h4 := hp.nz p hmem
      refine ⟨_, rfl, _, _, _, _, true, rfl, .ty "tuple", tyx_tup hB, kit_ty (by decide +kernel), true, rfl, iteF ?_⟩
      refine ⟨_, rfl, b, _, rfl, .inr hB, rfl, _, rfl, iteNS rfl ?_⟩
      refine ⟨_, rfl, b, _, 0, _, rfl, rfl, hB, atI_nat (j := 0) rfl, _, rfl, _, _, rfl, rfl, p.1, l + 1, 400, rfl, _, rfl, ?_⟩
      rw [decide_eq_true (show l + 1 ≤ p.1 ∧ p.1 ≤ 400 from ⟨by omega, h2⟩)]
      refine iteF ?_
      refine ⟨_, rfl, b, _, 1, _, rfl, rfl, hB, atI_nat (j := 1) rfl, _, rfl, p.2, _, 48, rfl, _, rfl, ?_⟩
      rw [decide_eq_true (show -48 ≤ p.2 ∧ p.2 ≤ 48 by omega)]
      refine iteF ?_
      refine ⟨_, rfl, b, _, 1, _, rfl, rfl, hB, atI_nat (j := 1) rfl, rfl, _, rfl, ?_⟩
      rw [decide_eq_false (show ¬ V.int p.2 = V.int 0 from fun z => h4 (V.int.inj z))]
      refine iteF ?_
      refine ⟨_, rfl, b, _, 0, _, rfl, rfl, hB, atI_nat (j := 0) rfl, rfl, p.1, _, rfl, fun p' hp' => ?_⟩
      have hasc := hp.asc.sublist (List.drop_sublist i ps)
      rw [hdrop] at hasc
      exact (List.pairwise_cons.mp hasc).1 p' hp'
    · rintro σ H' ⟨rfl, l, y, rfl, _⟩
      exact q
def sp_need_product (K : PySem.W.Frag) : Sp := fun vs H Q _ => ∃ (v : V) (ps : Pr), vs = [v] ∧ Dp K H v (dP ps) ∧ IsP ps ∧ Q .non H
theorem ok_need_product (T : Txt K mg) : FnOk P w K mg base CX0 4 T.f_need_product.f T.f_need_product.fd ["product"] (sp_need_product K) := by
  have G_is_product_value := ok_is_product_value (P := P) (w := w) (base := base) T
  refine T.f_need_product.F.ok sc_need_product (fun vs H Q E h => ?_) (fun cdv A outer s H vs Q E hr h => ?_)
  · obtain ⟨v, ps, rfl, _⟩ := h
    rfl
  · obtain ⟨v, ps, rfl, hd, hp, q⟩ := h
    refine ⟨_, (pss_one (ps_if (pt_not (pt_val (pe_call G_is_product_value (hr.mono (by decide)) (by rfl) T.f_is_product_value.g T.f_is_product_value.F.kp T.f_is_product_value.b .nil pass0 (pa_cons (pv 0) pa_nil))))
      (pss_one ps_never)
      pss_nil)), ?_⟩
    exact ⟨_, rfl, v, ps, rfl, hd, hp, true, rfl, iteF q⟩
/-! ### step_sum, power_sum -/
def sp_step_sum (K : PySem.W.Frag) : Sp := fun vs H Q _ => ∃ (v : V) (ps : Pr), vs = [v] ∧ Dp K H v (dP ps) ∧ IsP ps ∧ ∀ H', Same H H' → Q (.int (ssum ps)) H'
theorem ok_step_sum (T : Txt K mg) : FnOk P w K mg base CX0 1 T.f_step_sum.f T.f_step_sum.fd ["product"] (sp_step_sum K) := by
  refine T.f_step_sum.F.ok sc_step_sum (fun vs H Q E h => ?_) (fun cdv A outer s H vs Q E hr h => ?_)
  · obtain ⟨v, ps, rfl, _⟩ := h
    rfl
  · obtain ⟨v, ps, rfl, hd, hp, q⟩ := h
    obtain ⟨a, xs, rfl, hS, hl, hA⟩ := of_dpP hd
    have hlen := hp.len
    refine ⟨_, (pss_one (ps_ret (pe_callB (cr_sum rfl) (by rfl) T.m_sum (by decide +kernel) (pa_cons (pe_lc (own := [("d", 1), ("r", 2)]) (g := gTup K 2 (gCons (gName 1) (gCons (gName 2) gNil))) rfl sc_step_sum.nd (pi_tup (pv 0)) (blkOk_by (own := [("d", 1), ("r", 2)]) (N := ["product", "d", "r"]) (sc := defScope s_step_sum) (by decide +kernel)) (fun _ _ _ _ _ => (pg_tup rfl (pgs_cons (pg_name (i := 1) sc_step_sum.nd rfl (.inl rfl) (hf := .inr rfl)) (pgs_cons (pg_name (i := 2) sc_step_sum.nd rfl (.inl rfl) (hf := .inr rfl)) pgs_nil)))) (fun _ _ _ _ _ => pts_nil) (fun _ _ _ _ _ => (pe_op op_mul (pv 1) (pv 2)))) pa_nil)))), ?_⟩
    refine ⟨_, rfl, a, rfl, ⟨_, hS⟩, fun D nD => lc_tup (K := K) (a := a) (xs := xs) (fun i H' => Same H H' ∧ H' D = some (.lst (((ps.take i).map fun p => p.1 * p.2).map V.int))) ⟨same_new nD, upd_same⟩ (fun i H' _ z => same_tup z.1 hS) ?_ ?_⟩
    · rintro i x H' hi ⟨sm, eD⟩
      obtain ⟨p, b, hpi, rfl, hB⟩ := pair_at hA hi
      have hmem : p ∈ ps := List.mem_of_getElem? hpi
      have h1 := hp.lo p hmem
      have h2 := hp.hi p hmem
      refine g_pair (same_tup sm hB) ?_
      refine ⟨rfl, _, rfl, _, rfl, _, _, rfl, rfl, .inl ⟨by omega, by omega⟩, _, eD, ?_, same_mut sm nD, ?_⟩
      · rw [List.length_map, List.length_map, List.length_take]
        exact small1000 (by omega)
      · rw [upd_same, List.take_add_one, hpi, List.map_append, List.map_append]
        rfl
    · rintro H' ⟨sm, eD⟩
      rw [hl, List.take_length] at eD
      exact ⟨D, _, rfl, SqL.of eD, q H' sm⟩
def sp_power_sum (K : PySem.W.Frag) : Sp := fun vs H Q _ => ∃ (v : V) (ps : Pr), vs = [v] ∧ Dp K H v (dP ps) ∧ IsP ps ∧ ∀ H', Same H H' → Q (.int (psum2 ps)) H'
theorem ok_power_sum (T : Txt K mg) : FnOk P w K mg base CX0 1 T.f_power_sum.f T.f_power_sum.fd ["product"] (sp_power_sum K) := by
  refine T.f_power_sum.F.ok sc_power_sum (fun vs H Q E h => ?_) (fun cdv A outer s H vs Q E hr h => ?_)
  · obtain ⟨v, ps, rfl, _⟩ := h
    rfl
  · obtain ⟨v, ps, rfl, hd, hp, q⟩ := h
    obtain ⟨a, xs, rfl, hS, hl, hA⟩ := of_dpP hd
    have hlen := hp.len
    refine ⟨_, (pss_one (ps_ret (pe_callB (cr_sum rfl) (by rfl) T.m_sum (by decide +kernel) (pa_cons (pe_lc (own := [("d", 1), ("r", 2)]) (g := gTup K 2 (gCons (gName 1) (gCons (gName 2) gNil))) rfl sc_power_sum.nd (pi_tup (pv 0)) (blkOk_by (own := [("d", 1), ("r", 2)]) (N := ["product", "d", "r"]) (sc := defScope s_power_sum) (by decide +kernel)) (fun _ _ _ _ _ => (pg_tup rfl (pgs_cons (pg_name (i := 1) sc_power_sum.nd rfl (.inl rfl) (hf := .inr rfl)) (pgs_cons (pg_name (i := 2) sc_power_sum.nd rfl (.inl rfl) (hf := .inr rfl)) pgs_nil)))) (fun _ _ _ _ _ => pts_nil) (fun _ _ _ _ _ => (pv 2))) pa_nil)))), ?_⟩
    refine ⟨_, rfl, a, rfl, ⟨_, hS⟩, fun D nD => lc_tup (K := K) (a := a) (xs := xs) (fun i H' => Same H H' ∧ H' D = some (.lst (((ps.take i).map fun p => p.2).map V.int))) ⟨same_new nD, upd_same⟩ (fun i H' _ z => same_tup z.1 hS) ?_ ?_⟩
    · rintro i x H' hi ⟨sm, eD⟩
      obtain ⟨p, b, hpi, rfl, hB⟩ := pair_at hA hi
      refine g_pair (same_tup sm hB) ?_
      refine ⟨rfl, _, rfl, _, eD, ?_, same_mut sm nD, ?_⟩
      · rw [List.length_map, List.length_map, List.length_take]
        exact small1000 (by omega)
      · rw [upd_same, List.take_add_one, hpi, List.map_append, List.map_append]
        rfl
    · rintro H' ⟨sm, eD⟩
      rw [hl, List.take_length] at eD
      exact ⟨D, _, rfl, SqL.of eD, q H' sm⟩
/-! ### raw_start, raw_weight, start_of, product_weight -/
def sp_start (K : PySem.W.Frag) : Sp := fun vs H Q _ => ∃ (v : V) (ps : Pr), vs = [v] ∧ Dp K H v (dP ps) ∧ IsP ps ∧ ∀ v' H', Same H H' → Dp K H' v' (d2 (nrm (ssum ps) 24).1 (nrm (ssum ps) 24).2) → Q v' H'
def sp_weight (K : PySem.W.Frag) : Sp := fun vs H Q _ => ∃ (v : V) (ps : Pr), vs = [v] ∧ Dp K H v (dP ps) ∧ IsP ps ∧ ∀ v' H', Same H H' → Dp K H' v' (d2 (nrm (psum2 ps) 2).1 (nrm (psum2 ps) 2).2) → Q v' H'
theorem ok_raw_start (T : Txt K mg) : FnOk P w K mg base CX0 2 T.f_raw_start.f T.f_raw_start.fd ["product"] (sp_start K) := by
  have G_normal := ok_normal (P := P) (w := w) (base := base) T
  have G_step_sum := ok_step_sum (P := P) (w := w) (base := base) T
  refine T.f_raw_start.F.ok sc_raw_start (fun vs H Q E h => ?_) (fun cdv A outer s H vs Q E hr h => ?_)
  · obtain ⟨v, ps, rfl, _⟩ := h
    rfl
  · obtain ⟨v, ps, rfl, hd, hp, q⟩ := h
    refine ⟨_, (pss_one (ps_ret (pe_call G_normal (hr.mono (by decide)) (by rfl) T.f_normal.g T.f_normal.F.kp T.f_normal.b .nil pass0 (pa_cons (pe_call G_step_sum (hr.mono (by decide)) (by rfl) T.f_step_sum.g T.f_step_sum.F.kp T.f_step_sum.b .nil pass0 (pa_cons (pv 0) pa_nil)) (pa_cons pe_int pa_nil))))), ?_⟩
    exact ⟨_, rfl, v, ps, rfl, hd, hp, fun H1 s1 => ⟨_, 24, rfl, by decide, by decide, fun v' H' s2 d' => q v' H' (s1.trans s2) d'⟩⟩
theorem ok_raw_weight (T : Txt K mg) : FnOk P w K mg base CX0 2 T.f_raw_weight.f T.f_raw_weight.fd ["product"] (sp_weight K) := by
  have G_normal := ok_normal (P := P) (w := w) (base := base) T
  have G_power_sum := ok_power_sum (P := P) (w := w) (base := base) T
  refine T.f_raw_weight.F.ok sc_raw_weight (fun vs H Q E h => ?_) (fun cdv A outer s H vs Q E hr h => ?_)
  · obtain ⟨v, ps, rfl, _⟩ := h
    rfl
  · obtain ⟨v, ps, rfl, hd, hp, q⟩ := h
    refine ⟨_, (pss_one (ps_ret (pe_call G_normal (hr.mono (by decide)) (by rfl) T.f_normal.g T.f_normal.F.kp T.f_normal.b .nil pass0 (pa_cons (pe_call G_power_sum (hr.mono (by decide)) (by rfl) T.f_power_sum.g T.f_power_sum.F.kp T.f_power_sum.b .nil pass0 (pa_cons (pv 0) pa_nil)) (pa_cons pe_int pa_nil))))), ?_⟩
    exact ⟨_, rfl, v, ps, rfl, hd, hp, fun H1 s1 => ⟨_, 2, rfl, by decide, by decide, fun v' H' s2 d' => q v' H' (s1.trans s2) d'⟩⟩
theorem ok_start_of (T : Txt K mg) : FnOk P w K mg base CX0 5 T.f_start_of.f T.f_start_of.fd ["product"] (sp_start K) := by
  have G_need_product := ok_need_product (P := P) (w := w) (base := base) T
  have G_raw_start := ok_raw_start (P := P) (w := w) (base := base) T
  refine T.f_start_of.F.ok sc_start_of (fun vs H Q E h => ?_) (fun cdv A outer s H vs Q E hr h => ?_)
  · obtain ⟨v, ps, rfl, _⟩ := h
    rfl
  · obtain ⟨v, ps, rfl, hd, hp, q⟩ := h
    refine ⟨_, (pss_cons (ps_expr (pe_call G_need_product (hr.mono (by decide)) (by rfl) T.f_need_product.g T.f_need_product.F.kp T.f_need_product.b .nil pass0 (pa_cons (pv 0) pa_nil)))
    (pss_one (ps_ret (pe_call G_raw_start (hr.mono (by decide)) (by rfl) T.f_raw_start.g T.f_raw_start.F.kp T.f_raw_start.b .nil pass0 (pa_cons (pv 0) pa_nil))))), ?_⟩
    exact ⟨_, rfl, v, ps, rfl, hd, hp, _, rfl, v, ps, rfl, hd, hp, q⟩
theorem ok_product_weight (T : Txt K mg) : FnOk P w K mg base CX0 5 T.f_product_weight.f T.f_product_weight.fd ["product"] (sp_weight K) := by
  have G_need_product := ok_need_product (P := P) (w := w) (base := base) T
  have G_raw_weight := ok_raw_weight (P := P) (w := w) (base := base) T
  refine T.f_product_weight.F.ok sc_product_weight (fun vs H Q E h => ?_) (fun cdv A outer s H vs Q E hr h => ?_)
  · obtain ⟨v, ps, rfl, _⟩ := h
    rfl
  · obtain ⟨v, ps, rfl, hd, hp, q⟩ := h
    refine ⟨_, (pss_cons (ps_expr (pe_call G_need_product (hr.mono (by decide)) (by rfl) T.f_need_product.g T.f_need_product.F.kp T.f_need_product.b .nil pass0 (pa_cons (pv 0) pa_nil)))
    (pss_one (ps_ret (pe_call G_raw_weight (hr.mono (by decide)) (by rfl) T.f_raw_weight.g T.f_raw_weight.F.kp T.f_raw_weight.b .nil pass0 (pa_cons (pv 0) pa_nil))))), ?_⟩
    exact ⟨_, rfl, v, ps, rfl, hd, hp, _, rfl, v, ps, rfl, hd, hp, q⟩
end
end K17
/-! The terms of a product. -/
namespace K17
open PySem PySem.Spec PyProof.Rows L2
/-- a row as a list of the heap -/
def rv (N : Nat) (f : Nat → Int) : List V := (rw_ N f).map V.int
theorem rv_len (N : Nat) (f : Nat → Int) : (rv N f).length = N := by
  unfold rv
  rw [List.length_map, rw_len]
theorem rv_get {N i : Nat} (f : Nat → Int) (h : i < N) : (rv N f)[i]? = some (.int (f i)) := by
  unfold rv
  rw [List.getElem?_map, rw_get f h]
  rfl
theorem rv_set {N j : Nat} (f : Nat → Int) (v : Int) : (rv N f).set j (.int v) = rv N fun i => if i = j then v else f i := by
  unfold rv
  rw [← List.map_set, rw_set]
theorem rv_congr {N : Nat} {f g : Nat → Int} (h : ∀ i, i < N → f i = g i) : rv N f = rv N g := by
  unfold rv
  rw [rw_congr h]
theorem rep_one (k : Nat) (x : V) : (List.replicate k [x]).flatten = List.replicate k x := by
  induction k with
  | zero => rfl
  | succ k ih => rw [List.replicate_succ, List.flatten_cons, ih, List.replicate_succ]; rfl
theorem rv_zero (N : Nat) : (List.replicate N [V.int 0]).flatten = rv N (fun _ => 0) := by
  unfold rv
  rw [rep_one, rw_rep, List.map_replicate]
theorem rv_one {N : Nat} (h : 1 ≤ N) (f : Nat → Int) (hf : f 0 = 1) : [V.int 1] ++ (List.replicate (N - 1) [V.int 0]).flatten = rv N (fun i => if i < 1 then f i else 0) := by
  unfold rv
  rw [rep_one, rw_one h f hf, List.map_cons, List.map_replicate]
  rfl
theorem ix_nat {n j : Nat} (hj : j < n) : ixN n (j : Int) = some j := by
  unfold ixN
  rw [if_pos (by omega), if_pos (by omega)]
  simp
section
variable {P : Program} {w : World} {K : PySem.W.Frag} {mg : Str → Option Value} {base : Heap}
def sp_terms_list (K : PySem.W.Frag) : Sp := fun vs H Q _ => ∃ (v : V) (ps : Pr) (N : Nat), vs = [v, .int (N : Int)] ∧ Dp K H v (dP ps) ∧ IsP ps ∧ 1 ≤ N ∧ N ≤ 30 ∧ ∀ (p : Addr) H', Same H H' → H' p = some (.lst (rv N (tm (cs ps)))) → Q (.ref p) H'
theorem ok_terms_list (T : Txt K mg) : FnOk P w K mg base CX0 2 T.f_terms_list.f T.f_terms_list.fd ["product", "many"] (sp_terms_list K) := by
  have G_divisors_of := ok_divisors_of (P := P) (w := w) (base := base) T
  refine T.f_terms_list.F.ok sc_terms_list (fun vs H Q E h => ?_) (fun cdv A outer s H vs Q E hr h => ?_)
  · obtain ⟨v, ps, N, rfl, _⟩ := h
    rfl
  · obtain ⟨v, ps, N, rfl, hd, hp, hN1, hN2, q⟩ := h
    obtain ⟨a, xs, rfl, hS, hl, hA⟩ := of_dpP hd
    have hlen := hp.len
    have hbd := tm_Bd hp.lo hp.pw hp.len
    refine ⟨_, (pss_cons (ps_set (i := 2) sc_terms_list.nd rfl (.inl rfl) (pe_op op_rep (pe_lst (pa_cons pe_int pa_nil)) (pv 1)))
    (pss_cons (ps_for PassesOwn.never rfl (pi_tup (pv 0)) (pg_tup rfl (pgs_cons (pg_name (i := 3) sc_terms_list.nd rfl (.inl rfl)) (pgs_cons (pg_name (i := 4) sc_terms_list.nd rfl (.inl rfl)) pgs_nil)))
      (pss_one (ps_for PassesOwn.never rfl (pi_range2 rfl T.m_range (pa_cons pe_int (pa_cons (pe_op op_add (pe_op op_fdiv (pe_op op_sub (pv 1) pe_int) (pv 3)) pe_int) pa_nil))) (pg_name (i := 5) sc_terms_list.nd rfl (.inl rfl))
        (pss_one (ps_augS (pv 2) (pe_op op_mul (pv 5) (pv 3)) get_list (pe_op op_mul (pe_op op_mul (pv 4) (pv 3)) (pe_callB (cr_sum rfl) (by rfl) T.m_sum (by decide +kernel) (pa_cons (pe_call G_divisors_of (hr.mono (by decide)) (by rfl) T.f_divisors_of.g T.f_divisors_of.F.kp T.f_divisors_of.b .nil pass0 (pa_cons (pv 5) pa_nil)) pa_nil))) ip_add set_list)))))
    (pss_cons (ps_set (i := 6) sc_terms_list.nd rfl (.inl rfl) (pe_op op_cat (pe_lst (pa_cons pe_int pa_nil)) (pe_op op_rep (pe_lst (pa_cons pe_int pa_nil)) (pe_op op_sub (pv 1) pe_int))))
    (pss_cons (ps_for PassesOwn.never rfl (pi_range2 rfl T.m_range (pa_cons pe_int (pa_cons (pv 1) pa_nil))) (pg_name (i := 7) sc_terms_list.nd rfl (.inl rfl))
      (pss_cons (ps_set (i := 8) sc_terms_list.nd rfl (.inl rfl) pe_int)
      (pss_cons (ps_for PassesOwn.never rfl (pi_range2 rfl T.m_range (pa_cons pe_int (pa_cons (pe_op op_add (pv 7) pe_int) pa_nil))) (pg_name (i := 9) sc_terms_list.nd rfl (.inl rfl))
        (pss_one (ps_aug (i := 8) sc_terms_list.nd rfl (.inl rfl) (pe_op op_mulW (pe_ix ix_list (pv 2) (pv 9) (fun _ _ => rfl)) (pe_ix ix_list (pv 6) (pe_op op_sub (pv 7) (pv 9)) (fun _ _ => rfl))) ip_add)))
      (pss_one (ps_asg (pe_op op_fdiv (pe_un un_neg (pv 8)) (pv 7)) (pg_sub (pv 6) (pv 7) set_list))))))
    (pss_one (ps_ret (pv 6))))))), ?_⟩
    -- sums = [0] * many
    refine ⟨by show 1 ≤ sizeLine; decide, fun l0 n0 => ⟨_, rfl, l0, (N : Int), _, rfl, rfl, upd_same, by omega, by omega, ?_, fun S nS => ?_⟩⟩
    · show 1 * ((N : Int)).toNat ≤ sizeLine
      exact sz1000 (by omega)
    have s0 : Same H (upd H l0 (.lst [.int 0])) := same_new n0
    have nS0 : H S = none := s0.free nS
    -- for d, r in product
    refine ⟨_, rfl, a, rfl, ⟨_, same_tup (same_new nS) (same_tup s0 hS)⟩, for_tup (K := K) (a := a) (xs := xs)
      (fun i σ H' => ∃ y3 y4 y5, σ = [some (.ref a), some (.int (N : Int)), some (.ref S), y3, y4, y5, none, none, none, none] ∧ Same H H' ∧ H' S = some (.lst (rv N (cs (ps.take i)))))
      ⟨none, none, none, rfl, same_new2 s0 nS, ?_⟩ (fun i σ H' _ ⟨_, _, _, _, sm, _⟩ => same_tup sm hS) ?_ ?_⟩
    · rw [upd_same]
      show some (HO.lst (List.replicate ((N : Int)).toNat [V.int 0]).flatten) = _
      rw [show ((N : Int)).toNat = N by omega, rv_zero]
      rfl
    · rintro i x σ H' hi ⟨y3, y4, y5, rfl, sm, eS⟩
      obtain ⟨p, b, hpi, rfl, hB⟩ := pair_at hA hi
      have hmem : p ∈ ps := List.mem_of_getElem? hpi
      have h1 := hp.lo p hmem
      have h2 := hp.hi p hmem
      have h3 := hp.pw p hmem
      have hd0 : 0 < p.1.toNat := by omega
      have ep : ((p.1.toNat : Nat) : Int) = p.1 := by omega
      refine g_pair (same_tup sm hB) ?_
      -- for at in range(1, (many - 1) // d + 1)
      have esz : (((N : Int) - 1) / p.1 + 1 - 1).toNat = sizes p.1.toNat N := by
        have e : ((N : Int) - 1) / p.1 = (((N - 1) / p.1.toNat : Nat) : Int) := by
          rw [Int.natCast_ediv, ep]
          congr 1
          omega
        rw [e]
        unfold sizes
        generalize (N - 1) / p.1.toNat = z
        omega
      have hsz : sizes p.1.toNat N ≤ 29 := sizes_lt hN2
      have hq0 : 0 ≤ ((N : Int) - 1) / p.1 := Int.ediv_nonneg (by omega) (by omega)
      have hq1 : ((N : Int) - 1) / p.1 ≤ (N : Int) - 1 := Int.ediv_le_self _ (by omega)
      refine ⟨_, rfl, _, _, rfl, rfl, _, rfl, _, _, rfl, rfl, ⟨by omega, by omega⟩, _, _, rfl, rfl, 1, _, rfl, ⟨by decide, by decide, by omega, by omega⟩, ?_⟩
      rw [esz]
      refine for_range (lo := 1) (n := sizes p.1.toNat N) (fun k σ H2 => ∃ y5, σ = [some (.ref a), some (.int (N : Int)), some (.ref S), some (.int p.1), some (.int p.2), y5, none, none, none, none] ∧ Same H H2 ∧ H2 S = some (.lst (rv N fun j => cs (ps.take i) j + lpk p k j)))
        ⟨y5, rfl, sm, ?_⟩ ?_ ?_
      · rw [eS]
        congr 2
        refine rv_congr fun j _ => ?_
        rw [lpk_zero]
        omega
      · rintro k σ H2 hk ⟨y5, rfl, sm2, eS2⟩
        have ekd : ((1 : Int) + (k : Int)) * p.1 = (((k + 1) * p.1.toNat : Nat) : Int) := by
          rw [Int.natCast_mul, ep]
          congr 1
          omega
        have hlt : (k + 1) * p.1.toNat < N := by
          have e1 : (k + 1) * p.1.toNat ≤ sizes p.1.toNat N * p.1.toNat := Nat.mul_le_mul (by omega) (Nat.le_refl _)
          have e2 : sizes p.1.toNat N * p.1.toNat ≤ N - 1 := Nat.div_mul_le_self _ _
          omega
        -- sums[at * d] += r * d * sum(divisors_of(at))
        refine ⟨_, rfl, _, rfl, _, rfl, _, _, rfl, rfl, .inl ⟨by omega, by omega⟩, S, _, (k + 1) * p.1.toNat, _, rfl, congrArg V.int ekd, SqL.of eS2, rv_get _ hlt, ?_⟩
        refine ⟨_, rfl, _, rfl, _, _, rfl, rfl, .inl ⟨by omega, by omega⟩, _, rfl, k + 1, ?_, by omega, by omega, fun g H3 ns sm3 eg es => ?_⟩
        · show [V.int (1 + (k : Int))] = _
          rw [show (1 : Int) + (k : Int) = ((k + 1 : Nat) : Int) by omega]
        have eS3 := sm3 _ _ eS2
        have hrd : -(2 ^ 64) < p.2 * p.1 ∧ p.2 * p.1 < 2 ^ 64 := by
          have b1 : (p.2 * p.1).natAbs ≤ 30 * 400 := by
            rw [Int.natAbs_mul]
            exact Nat.mul_le_mul (by omega) (by omega)
          omega
        refine ⟨g, ns, rfl, SqL.of eg, _, _, rfl, rfl, .inl hrd, _, _, rfl, rfl, S, _, _, (k + 1) * p.1.toNat, rfl, congrArg V.int ekd, eS3, ?_, ?_⟩
        · rw [rv_len]
          exact ix_nat hlt
        · refine ⟨_, rfl, same_mut (sm2.trans sm3) nS0, ?_⟩
          rw [upd_same]
          show some (HO.lst ((rv N fun j => cs (ps.take i) j + lpk p k j).set ((k + 1) * p.1.toNat) (.int ((cs (ps.take i) ((k + 1) * p.1.toNat) + lpk p k ((k + 1) * p.1.toNat)) + p.2 * p.1 * ns.sum)))) = _
          rw [rv_set, es, lpk_here hd0]
          congr 2
          refine rv_congr fun j _ => ?_
          rw [lpk_succ hd0]
          by_cases hj : j = (k + 1) * p.1.toNat
          · rw [if_pos hj, if_pos hj, hj]
            omega
          · rw [if_neg hj, if_neg hj]
      · rintro σ H2 ⟨y5, rfl, sm2, eS2⟩
        refine ⟨_, _, _, rfl, sm2, ?_⟩
        rw [eS2, List.take_add_one, hpi]
        congr 2
        refine rv_congr fun j hj => ?_
        show _ = cs (ps.take i ++ [p]) j
        rw [cs_snoc, lpk_all hd0 hj]
    · rintro σ H' ⟨y3, y4, y5, rfl, sm, eS⟩
      rw [hl, List.take_length] at eS
      -- found = [1] + [0] * (many - 1)
      refine ⟨by show 1 ≤ sizeLine; decide, fun l1 n1 => ⟨by show 1 ≤ sizeLine; decide, fun l2 n2 => ?_⟩⟩
      have s1 : Same H' (upd H' l1 (.lst [.int 1])) := same_new n1
      have s2 := same_new2 (o := .lst [.int 0]) s1 n2
      refine ⟨_, rfl, _, _, rfl, rfl, l2, (N : Int) - 1, _, rfl, rfl, upd_same, by omega, by omega, ?_, fun l3 n3 => ?_⟩
      · show 1 * ((N : Int) - 1).toNat ≤ sizeLine
        exact sz1000 (by omega)
      have n12 : l1 ≠ l2 := fun e => by
        rw [← e, upd_same] at n2
        cases n2
      have n13 : l1 ≠ l3 := fun e => by
        rw [← e, upd_ne n12, upd_same] at n3
        cases n3
      refine ⟨l1, l3, [.int 1], _, rfl, rfl, ?_, upd_same, ?_, fun F nF => ?_⟩
      · rw [upd_ne n13, upd_ne n12, upd_same]
      · rw [rep_one, List.length_replicate]
        exact sz1000 (by show 1 + ((N : Int) - 1).toNat ≤ 1000; omega)
      have s3 := same_new2 (o := .lst (List.replicate ((N : Int) - 1).toNat [V.int 0]).flatten) s2 n3
      have s4 := same_new2 (o := .lst ([V.int 1] ++ (List.replicate ((N : Int) - 1).toNat [V.int 0]).flatten)) s3 nF
      have nF' : H' F = none := s3.free nF
      have nF0 : H F = none := sm.free nF'
      have nSF : S ≠ F := ne_of_none eS nF'
      -- for n in range(1, many)
      refine ⟨_, rfl, 1, (N : Int), rfl, ⟨by decide, by decide, by omega, by omega⟩, ?_⟩
      have eN : ((N : Int) - 1).toNat = N - 1 := by omega
      rw [eN] at s3 s4
      rw [eN]
      refine for_range (lo := 1) (n := N - 1) (fun k σ H2 => ∃ y7 y8 y9, σ = [some (.ref a), some (.int (N : Int)), some (.ref S), y3, y4, y5, some (.ref F), y7, y8, y9] ∧ Same H H2 ∧ H2 S = some (.lst (rv N (cs ps))) ∧ H2 F = some (.lst (rv N fun i => if i < k + 1 then tm (cs ps) i else 0)))
        ⟨none, none, none, rfl, sm.trans s4, s4 _ _ eS, ?_⟩ ?_ ?_
      · rw [upd_same, rv_one hN1 (tm (cs ps)) (tm_zero _)]
      · rintro k σ H2 hk ⟨y7, y8, y9, rfl, sm2, eS2, eF2⟩
        -- total = 0; for j in range(1, n + 1)
        refine ⟨_, rfl, _, _, rfl, rfl, 1, _, rfl, ⟨by decide, by decide, by omega, by omega⟩, ?_⟩
        rw [show ((1 : Int) + (k : Int) + 1 - 1).toNat = k + 1 by omega]
        refine for_range (lo := 1) (n := k + 1) (fun m σ H3 => ∃ y9, σ = [some (.ref a), some (.int (N : Int)), some (.ref S), y3, y4, y5, some (.ref F), some (.int (1 + (k : Int))), some (.int (part (cs ps) (tm (cs ps)) (k + 1) m)), y9] ∧ H3 = H2)
          ⟨y9, rfl, rfl⟩ ?_ ?_
        · rintro m σ H3 hm ⟨y9, rfl, rfl⟩
          have e1 : (1 : Int) + (m : Int) = ((m + 1 : Nat) : Int) := by omega
          have e2 : (1 : Int) + (k : Int) - (1 + (m : Int)) = ((k + 1 - (m + 1) : Nat) : Int) := by omega
          have b1 := cs_abs (j := m + 1) (ps := ps) (by omega) hp.lo hp.pw hp.len
          have b2 := hbd (k + 1 - (m + 1)) (by omega)
          refine ⟨_, rfl, _, rfl, _, rfl, S, _, 1 + (m : Int), _, rfl, rfl, SqL.of eS2, at_of (j := m + 1) e1 (rv_get _ (by omega)), ?_⟩
          refine ⟨_, rfl, _, rfl, _, rfl, _, _, rfl, rfl, F, _, 1 + (k : Int) - (1 + (m : Int)), _, rfl, rfl, SqL.of eF2, at_of (j := k + 1 - (m + 1)) e2 (rv_get _ (by omega)), ?_⟩
          have e3 : (if k + 1 - (m + 1) < k + 1 then tm (cs ps) (k + 1 - (m + 1)) else 0) = tm (cs ps) (k + 1 - (m + 1)) := if_pos (by omega)
          refine ⟨_, _, rfl, rfl, ?_, ?_⟩
          · rw [e3]
            exact wide_mul (a := 24) (b := 813) (Nat.lt_of_le_of_lt b1 (Nat.pow_lt_pow_right (by decide) (by decide))) (Nat.lt_of_le_of_lt b2 (Nat.pow_lt_pow_right (by decide) (by decide))) (by decide) (by decide) (by decide)
          · refine ⟨_, _, rfl, rfl, some (.int (1 + (m : Int))), ?_, rfl⟩
            rw [part_succ]
            show [some (V.ref a), some (.int (N : Int)), some (.ref S), y3, y4, y5, some (.ref F), some (.int (1 + (k : Int))), some (.int (part (cs ps) (tm (cs ps)) (k + 1) m + cs ps (m + 1) * (if k + 1 - (m + 1) < k + 1 then tm (cs ps) (k + 1 - (m + 1)) else 0))), _] = _
            rw [e3]
        · rintro σ H3 ⟨y9, rfl, rfl⟩
          -- found[n] = -total // n
          have e1 : (1 : Int) + (k : Int) = ((k + 1 : Nat) : Int) := by omega
          refine ⟨_, rfl, _, rfl, _, rfl, _, _, rfl, rfl, ⟨by omega, by omega⟩, _, rfl, _, rfl, F, _, 1 + (k : Int), k + 1, rfl, rfl, eF2, ?_, ?_⟩
          · rw [rv_len, e1]
            exact ix_nat (by omega)
          · refine ⟨_, _, _, rfl, same_mut sm2 nF0, ?_, ?_⟩
            · rw [upd_ne nSF]
              exact eS2
            · rw [upd_same]
              show some (HO.lst ((rv N fun i => if i < k + 1 then tm (cs ps) i else 0).set (k + 1) (.int (-(part (cs ps) (tm (cs ps)) (k + 1) (k + 1)) / (1 + (k : Int)))))) = _
              rw [e1, ← tm_part, rv_set]
              congr 2
              unfold rv
              rw [rw_snoc (tm (cs ps)) (k + 1) (by omega)]
      · rintro σ H2 ⟨y7, y8, y9, rfl, sm2, eS2, eF2⟩
        refine ⟨_, rfl, q F H2 sm2 ?_⟩
        rw [eF2]
        congr 2
        refine rv_congr fun i hi => ?_
        rw [if_pos (by omega)]
end
end K17
/-! What is made of products. -/
namespace K17
open PySem PySem.Spec PyProof.Rows L2
/-! ### dicts of ints by ints -/
def dk (m : Pr) : List (Key × V) := m.map fun p => (Sum.inl p.1, V.int p.2)
theorem dk_keys (m : Pr) : (dk m).map (·.1) = (m.map (·.1)).map Sum.inl := by
  unfold dk
  rw [List.map_map, List.map_map]
  rfl
theorem key_ne {a b : Int} (h : ¬ a = b) : ¬ (Sum.inl a : Key) = Sum.inl b := fun z => h (Sum.inl.inj z)
theorem dk_val : ∀ (m : Pr) (d : Int), valV (dk m) (Sum.inl d) = (lk m d).map V.int
  | [], _ => rfl
  | p :: m, d => by
    show valV ((Sum.inl p.1, V.int p.2) :: dk m) (Sum.inl d) = _
    rw [lk_cons]
    by_cases h : p.1 = d
    · rw [if_pos h, valV_pos (show (Sum.inl p.1 : Key) = Sum.inl d by rw [h])]
      rfl
    · rw [if_neg h, valV_neg (key_ne h), dk_val m d]
theorem dk_any (m : Pr) (d : Int) : ((dk m).any fun kv => decide (kv.1 = Sum.inl d)) = (m.any fun p => decide (p.1 = d)) := by
  unfold dk
  rw [List.any_map]
  refine congrArg (fun f => m.any f) (funext fun p => ?_)
  show decide ((Sum.inl p.1 : Key) = Sum.inl d) = decide (p.1 = d)
  rw [decide_eq_decide]
  exact ⟨fun z => Sum.inl.inj z, fun z => by rw [z]⟩
theorem dk_put (m : Pr) (d v : Int) : putK (dk m) (Sum.inl d) (V.int v) = dk (pm m d v) := by
  unfold putK pm
  rw [dk_any]
  split
  · unfold dk
    rw [List.map_map, List.map_map]
    refine List.map_congr_left fun p _ => ?_
    show (if (Sum.inl p.1 : Key) = Sum.inl d then ((Sum.inl p.1 : Key), V.int v) else (Sum.inl p.1, V.int p.2)) = ((Sum.inl (if p.1 = d then (p.1, v) else p).1 : Key), V.int (if p.1 = d then (p.1, v) else p).2)
    by_cases h : p.1 = d
    · rw [if_pos h, if_pos (by rw [h])]
    · rw [if_neg h, if_neg (key_ne h)]
  · unfold dk
    rw [List.map_append]
    rfl
theorem dk_len (m : Pr) : (dk m).length = m.length := by
  unfold dk
  rw [List.length_map]
section
variable {P : Program} {w : World} {K : PySem.W.Frag} {mg : Str → Option Value} {base : Heap}
/-! ### product_terms -/
def sp_product_terms (K : PySem.W.Frag) : Sp := fun vs H Q _ => ∃ (v : V) (ps : Pr) (N : Nat), vs = [v, .int (N : Int)] ∧ Dp K H v (dP ps) ∧ IsP ps ∧ 1 ≤ N ∧ N ≤ 30 ∧ ∀ v' H', Same H H' → Dp K H' v' (dB (rw_ N (tm (cs ps)))) → Q v' H'
theorem ok_product_terms (T : Txt K mg) : FnOk P w K mg base CX0 5 T.f_product_terms.f T.f_product_terms.fd ["product", "many"] (sp_product_terms K) := by
  have G_need_product := ok_need_product (P := P) (w := w) (base := base) T
  have G_need_many := ok_need_many (P := P) (w := w) (base := base) T
  have G_beginning_of := ok_beginning_of (P := P) (w := w) (base := base) T
  have G_terms_list := ok_terms_list (P := P) (w := w) (base := base) T
  refine T.f_product_terms.F.ok sc_product_terms (fun vs H Q E h => ?_) (fun cdv A outer s H vs Q E hr h => ?_)
  · obtain ⟨v, ps, N, rfl, _⟩ := h
    rfl
  · obtain ⟨v, ps, N, rfl, hd, hp, hN1, hN2, q⟩ := h
    refine ⟨_, (pss_cons (ps_expr (pe_call G_need_product (hr.mono (by decide)) (by rfl) T.f_need_product.g T.f_need_product.F.kp T.f_need_product.b .nil pass0 (pa_cons (pv 0) pa_nil)))
    (pss_cons (ps_expr (pe_call G_need_many (hr.mono (by decide)) (by rfl) T.f_need_many.g T.f_need_many.F.kp T.f_need_many.b .nil pass0 (pa_cons (pv 1) pa_nil)))
    (pss_one (ps_ret (pe_call G_beginning_of (hr.mono (by decide)) (by rfl) T.f_beginning_of.g T.f_beginning_of.F.kp T.f_beginning_of.b .nil pass0 (pa_cons pe_int (pa_cons (pe_call G_terms_list (hr.mono (by decide)) (by rfl) T.f_terms_list.g T.f_terms_list.F.kp T.f_terms_list.b .nil pass0 (pa_cons (pv 0) (pa_cons (pv 1) pa_nil))) pa_nil))))))), ?_⟩
    refine ⟨_, rfl, v, ps, rfl, hd, hp, _, rfl, (N : Int), rfl, by omega, by omega, _, rfl, _, rfl, v, ps, N, rfl, hd, hp, hN1, hN2, fun p H1 s1 e1 => ?_⟩
    refine ⟨p, _, rfl, SqL.of e1, ?_, fun v' H' s2 d' => q v' H' (s1.trans s2) d'⟩
    rw [rw_len]
    omega
/-! ### spread_pairs, undone_product -/
def sprd (t : Int) (ps : Pr) : Pr := ps.map fun p => (t * p.1, p.2)
def neg (ps : Pr) : Pr := ps.map fun p => (p.1, -p.2)
def sp_spread_pairs (K : PySem.W.Frag) : Sp := fun vs H Q _ => ∃ (v : V) (ps : Pr) (t : Int), vs = [v, .int t] ∧ Dp K H v (dP ps) ∧ IsP ps ∧ 1 ≤ t ∧ t ≤ 5 ∧ ∀ v' H', Same H H' → Dp K H' v' (dP (sprd t ps)) → Q v' H'
theorem ok_spread_pairs (T : Txt K mg) : FnOk P w K mg base CX0 1 T.f_spread_pairs.f T.f_spread_pairs.fd ["product", "t"] (sp_spread_pairs K) := by
  refine T.f_spread_pairs.F.ok sc_spread_pairs (fun vs H Q E h => ?_) (fun cdv A outer s H vs Q E hr h => ?_)
  · obtain ⟨v, ps, t, rfl, _⟩ := h
    rfl
  · obtain ⟨v, ps, t, rfl, hd, hp, ht1, ht5, q⟩ := h
    obtain ⟨a, xs, rfl, hS, hl, hA⟩ := of_dpP hd
    have hlen := hp.len
    refine ⟨_, (pss_one (ps_ret (pe_callTy call_tupU (by rfl) T.m_tuple (by decide +kernel) (pa_cons (pe_lc (own := [("d", 2), ("r", 3)]) (g := gTup K 2 (gCons (gName 2) (gCons (gName 3) gNil))) rfl sc_spread_pairs.nd (pi_tup (pv 0)) (blkOk_by (own := [("d", 2), ("r", 3)]) (N := ["product", "t", "d", "r"]) (sc := defScope s_spread_pairs) (by decide +kernel)) (fun _ _ _ _ _ => (pg_tup rfl (pgs_cons (pg_name (i := 2) sc_spread_pairs.nd rfl (.inl rfl) (hf := .inr rfl)) (pgs_cons (pg_name (i := 3) sc_spread_pairs.nd rfl (.inl rfl) (hf := .inr rfl)) pgs_nil)))) (fun _ _ _ _ _ => pts_nil) (fun _ _ _ _ _ => (pe_tup (pa_cons (pe_op op_mul (pv 1) (pv 2)) (pa_cons (pv 3) pa_nil))))) pa_nil)))), ?_⟩
    refine ⟨_, rfl, a, rfl, ⟨_, hS⟩, fun D nD => lc_tup (K := K) (a := a) (xs := xs) (fun i H' => Same H H' ∧ ∃ acc, H' D = some (.lst acc) ∧ acc.length = i ∧ DpAll K H' acc ((sprd t (ps.take i)).map fun p => d2 p.1 p.2)) ⟨same_new nD, [], upd_same, rfl, .nil⟩ (fun i H' _ z => same_tup z.1 hS) ?_ ?_⟩
    · rintro i x H' hi ⟨sm, acc, eD, el, hacc⟩
      obtain ⟨p, b, hpi, rfl, hB⟩ := pair_at hA hi
      have hil : i < ps.length := (List.getElem?_eq_some_iff.mp hpi).1
      refine g_pair (same_tup sm hB) ?_
      refine ⟨rfl, _, rfl, _, rfl, _, _, rfl, rfl, .inl ⟨by omega, by omega⟩, _, rfl, by show 2 ≤ sizeLine; decide, fun c nc => ?_⟩
      have ncD : D ≠ c := ne_of_none eD nc
      refine ⟨acc, by rw [upd_ne ncD]; exact eD, small1000 (by omega), same_mut (same_new2 sm nc) nD, _, upd_same, by rw [List.length_append, el]; rfl, ?_⟩
      have e : sprd t (ps.take (i + 1)) = sprd t (ps.take i) ++ [(t * p.1, p.2)] := by
        unfold sprd
        rw [List.take_add_one, hpi, List.map_append]
        rfl
      rw [e]
      exact pairs_snoc hacc nc eD
    · rintro H' ⟨sm, acc, eD, el, hacc⟩
      rw [hl, List.take_length] at hacc
      exact ⟨D, _, rfl, .inl (SqL.of eD), fun c H2 s2 hc => q _ H2 (sm.trans s2) (dpP hc (dpa_mono s2 _ _ hacc))⟩
def sp_undone_product (K : PySem.W.Frag) : Sp := fun vs H Q _ => ∃ (v : V) (ps : Pr), vs = [v] ∧ Dp K H v (dP ps) ∧ IsP ps ∧ ∀ v' H', Same H H' → Dp K H' v' (dP (neg ps)) → Q v' H'
theorem ok_undone_product (T : Txt K mg) : FnOk P w K mg base CX0 5 T.f_undone_product.f T.f_undone_product.fd ["product"] (sp_undone_product K) := by
  have G_need_product := ok_need_product (P := P) (w := w) (base := base) T
  refine T.f_undone_product.F.ok sc_undone_product (fun vs H Q E h => ?_) (fun cdv A outer s H vs Q E hr h => ?_)
  · obtain ⟨v, ps, rfl, _⟩ := h
    rfl
  · obtain ⟨v, ps, rfl, hd, hp, q⟩ := h
    obtain ⟨a, xs, rfl, hS, hl, hA⟩ := of_dpP hd
    have hlen := hp.len
    refine ⟨_, (pss_cons (ps_expr (pe_call G_need_product (hr.mono (by decide)) (by rfl) T.f_need_product.g T.f_need_product.F.kp T.f_need_product.b .nil pass0 (pa_cons (pv 0) pa_nil)))
    (pss_one (ps_ret (pe_callTy call_tupU (by rfl) T.m_tuple (by decide +kernel) (pa_cons (pe_lc (own := [("d", 1), ("r", 2)]) (g := gTup K 2 (gCons (gName 1) (gCons (gName 2) gNil))) rfl sc_undone_product.nd (pi_tup (pv 0)) (blkOk_by (own := [("d", 1), ("r", 2)]) (N := ["product", "d", "r"]) (sc := defScope s_undone_product) (by decide +kernel)) (fun _ _ _ _ _ => (pg_tup rfl (pgs_cons (pg_name (i := 1) sc_undone_product.nd rfl (.inl rfl) (hf := .inr rfl)) (pgs_cons (pg_name (i := 2) sc_undone_product.nd rfl (.inl rfl) (hf := .inr rfl)) pgs_nil)))) (fun _ _ _ _ _ => pts_nil) (fun _ _ _ _ _ => (pe_tup (pa_cons (pv 1) (pa_cons (pe_un un_neg (pv 2)) pa_nil))))) pa_nil))))), ?_⟩
    refine ⟨_, rfl, _, ps, rfl, hd, hp, ?_⟩
    refine ⟨_, rfl, a, rfl, ⟨_, hS⟩, fun D nD => lc_tup (K := K) (a := a) (xs := xs) (fun i H' => Same H H' ∧ ∃ acc, H' D = some (.lst acc) ∧ acc.length = i ∧ DpAll K H' acc ((neg (ps.take i)).map fun p => d2 p.1 p.2)) ⟨same_new nD, [], upd_same, rfl, .nil⟩ (fun i H' _ z => same_tup z.1 hS) ?_ ?_⟩
    · rintro i x H' hi ⟨sm, acc, eD, el, hacc⟩
      obtain ⟨p, b, hpi, rfl, hB⟩ := pair_at hA hi
      have hil : i < ps.length := (List.getElem?_eq_some_iff.mp hpi).1
      refine g_pair (same_tup sm hB) ?_
      refine ⟨rfl, _, rfl, _, rfl, _, rfl, by show 2 ≤ sizeLine; decide, fun c nc => ?_⟩
      have ncD : D ≠ c := ne_of_none eD nc
      refine ⟨acc, by rw [upd_ne ncD]; exact eD, small1000 (by omega), same_mut (same_new2 sm nc) nD, _, upd_same, by rw [List.length_append, el]; rfl, ?_⟩
      have e : neg (ps.take (i + 1)) = neg (ps.take i) ++ [(p.1, -p.2)] := by
        unfold neg
        rw [List.take_add_one, hpi, List.map_append]
        rfl
      rw [e]
      exact pairs_snoc hacc nc eD
    · rintro H' ⟨sm, acc, eD, el, hacc⟩
      rw [hl, List.take_length] at hacc
      exact ⟨D, _, rfl, .inl (SqL.of eD), fun c H2 s2 hc => q _ H2 (sm.trans s2) (dpP hc (dpa_mono s2 _ _ hacc))⟩
/-! ### settled, of a list or of a tuple -/
def sp_settled (K : PySem.W.Frag) : Sp := fun vs H Q _ => ∃ (a : Addr) (xs : List V) (ps : Pr), vs = [.ref a] ∧ (SqL K H a xs ∨ SqT K H a xs) ∧ DpAll K H xs (ps.map fun p => d2 p.1 p.2) ∧ IsP ps ∧ ∀ v' H', Same H H' → Dp K H' v' (dP ps) → Q v' H'
theorem any_no (ps : Pr) (f : Int × Int → Bool) (h : ∀ p ∈ ps, f p = false) : (ps.map f).any id = false := by
  rw [List.any_map, List.any_eq_false]
  intro p hp
  show ¬ f p = true
  rw [h p hp]
  decide
theorem ok_settled (T : Txt K mg) : FnOk P w K mg base CX0 1 T.f_settled.f T.f_settled.fd ["pairs"] (sp_settled K) := by
  refine T.f_settled.F.ok sc_settled (fun vs H Q E h => ?_) (fun cdv A outer s H vs Q E hr h => ?_)
  · obtain ⟨a, xs, ps, rfl, _⟩ := h
    rfl
  · obtain ⟨a, xs, ps, rfl, hS, hA, hp, q⟩ := h
    have hl := dpa_len hA
    rw [List.length_map] at hl
    have hlen := hp.len
    have n1 : (ps.map fun p => decide (400 < p.1)).any id = false := any_no ps _ fun p hm => decide_eq_false (by have := hp.hi p hm; omega)
    have n2 : (ps.map fun p => decide (48 < (if p.2 < 0 then -p.2 else p.2))).any id = false := any_no ps _ fun p hm => decide_eq_false (by have := hp.pw p hm; split <;> omega)
    rcases hS with hS | hS
    · refine ⟨_, (pss_cons (ps_if (pt_val (pe_callB (cr_any rfl) (by rfl) T.m_any (by decide +kernel) (pa_cons (pe_lc (own := [("d", 1), ("r", 2)]) (g := gTup K 2 (gCons (gName 1) (gCons (gName 2) gNil))) rfl sc_settled.nd (pi_list (pv 0)) (blkOk_by (own := [("d", 1), ("r", 2)]) (N := ["pairs", "d", "r"]) (sc := defScope s_settled) (by decide +kernel)) (fun _ _ _ _ _ => (pg_tup rfl (pgs_cons (pg_name (i := 1) sc_settled.nd rfl (.inl rfl) (hf := .inr rfl)) (pgs_cons (pg_name (i := 2) sc_settled.nd rfl (.inl rfl) (hf := .inr rfl)) pgs_nil)))) (fun _ _ _ _ _ => pts_nil) (fun _ _ _ _ _ => (pe_cmpR op_gt (pv 1) (pe_glob (v := .int 400) rfl (T.c_MOST_STEP).choose_spec ⟨_, rfl⟩) (nomark _)))) pa_nil)))
      (pss_one ps_never)
      pss_nil)
    (pss_cons (ps_if (pt_val (pe_callB (cr_any rfl) (by rfl) T.m_any (by decide +kernel) (pa_cons (pe_lc (own := [("d", 1), ("r", 2)]) (g := gTup K 2 (gCons (gName 1) (gCons (gName 2) gNil))) rfl sc_settled.nd (pi_list (pv 0)) (blkOk_by (own := [("d", 1), ("r", 2)]) (N := ["pairs", "d", "r"]) (sc := defScope s_settled) (by decide +kernel)) (fun _ _ _ _ _ => (pg_tup rfl (pgs_cons (pg_name (i := 1) sc_settled.nd rfl (.inl rfl) (hf := .inr rfl)) (pgs_cons (pg_name (i := 2) sc_settled.nd rfl (.inl rfl) (hf := .inr rfl)) pgs_nil)))) (fun _ _ _ _ _ => pts_nil) (fun _ _ _ _ _ => (pe_cmpR op_gt (pe_callB call_abs (by rfl) T.m_abs (by decide +kernel) (pa_cons (pv 2) pa_nil)) (pe_glob (v := .int 48) rfl (T.c_MOST_POWER).choose_spec ⟨_, rfl⟩) (nomark _)))) pa_nil)))
      (pss_one ps_never)
      pss_nil)
    (pss_cons (ps_if (pt_cmpR op_gt (pe_callB call_len_seq (by rfl) T.m_len (by decide +kernel) (pa_cons (pv 0) pa_nil)) (pe_glob (v := .int 8) rfl (T.c_MOST_PAIRS).choose_spec ⟨_, rfl⟩) (nomark _))
      (pss_one ps_never)
      pss_nil)
    (pss_one (ps_ret (pe_callTy call_tupU (by rfl) T.m_tuple (by decide +kernel) (pa_cons (pv 0) pa_nil))))))), ?_⟩
      -- any([d > MOST_STEP ..])
      refine ⟨_, rfl, a, rfl, ⟨_, hS⟩, fun D nD => lc_list (K := K) (a := a) (xs := xs) (fun i H' => Same H H' ∧ H' D = some (.lst (((ps.take i).map fun p => decide (400 < p.1)).map V.bl))) ⟨same_new nD, upd_same⟩ (fun i H' _ z => z.1.seq hS) ?_ ?_⟩
      · rintro i x H' hi ⟨sm, eD⟩
        obtain ⟨p, b, hpi, rfl, hB⟩ := pair_at hA hi
        refine g_pair (same_tup sm hB) ?_
        refine ⟨rfl, _, rfl, _, _, rfl, rfl, _, eD, ?_, same_mut sm nD, ?_⟩
        · rw [List.length_map, List.length_map, List.length_take]
          exact small1000 (by omega)
        · rw [upd_same, List.take_add_one, hpi, List.map_append, List.map_append]
          rfl
      · rintro H1 ⟨sm1, eD1⟩
        rw [hl, List.take_length] at eD1
        refine ⟨D, _, rfl, SqL.of eD1, _, rfl, ?_⟩
        rw [n1]
        refine iteF ?_
        -- any([abs(r) > MOST_POWER ..])
        refine ⟨_, rfl, a, rfl, ⟨_, sm1.seq hS⟩, fun D2 nD2 => lc_list (K := K) (a := a) (xs := xs) (fun i H' => Same H1 H' ∧ H' D2 = some (.lst (((ps.take i).map fun p => decide (48 < (if p.2 < 0 then -p.2 else p.2))).map V.bl))) ⟨same_new nD2, upd_same⟩ (fun i H' _ z => (sm1.trans z.1).seq hS) ?_ ?_⟩
        · rintro i x H' hi ⟨sm, eD⟩
          obtain ⟨p, b, hpi, rfl, hB⟩ := pair_at hA hi
          refine g_pair (same_tup (sm1.trans sm) hB) ?_
          refine ⟨rfl, _, rfl, _, rfl, _, _, rfl, rfl, _, eD, ?_, same_mut sm nD2, ?_⟩
          · rw [List.length_map, List.length_map, List.length_take]
            exact small1000 (by omega)
          · rw [upd_same, List.take_add_one, hpi, List.map_append, List.map_append]
            rfl
        · rintro H2 ⟨sm2, eD2⟩
          rw [hl, List.take_length] at eD2
          refine ⟨D2, _, rfl, SqL.of eD2, _, rfl, ?_⟩
          rw [n2]
          refine iteF ?_
          have s2 := sm1.trans sm2
          refine ⟨_, rfl, a, _, rfl, .inl (s2.seq hS), _, _, rfl, rfl, _, rfl, ?_⟩
          rw [decide_eq_false (show ¬ (8 : Int) < ((xs.length : Nat) : Int) by omega)]
          refine iteF ?_
          exact ⟨_, rfl, a, _, rfl, .inl (s2.seq hS), fun c H3 s3 hc => q _ H3 (s2.trans s3) (dpP hc (dpa_mono (s2.trans s3) _ _ hA))⟩
    · refine ⟨_, (pss_cons (ps_if (pt_val (pe_callB (cr_any rfl) (by rfl) T.m_any (by decide +kernel) (pa_cons (pe_lc (own := [("d", 1), ("r", 2)]) (g := gTup K 2 (gCons (gName 1) (gCons (gName 2) gNil))) rfl sc_settled.nd (pi_tup (pv 0)) (blkOk_by (own := [("d", 1), ("r", 2)]) (N := ["pairs", "d", "r"]) (sc := defScope s_settled) (by decide +kernel)) (fun _ _ _ _ _ => (pg_tup rfl (pgs_cons (pg_name (i := 1) sc_settled.nd rfl (.inl rfl) (hf := .inr rfl)) (pgs_cons (pg_name (i := 2) sc_settled.nd rfl (.inl rfl) (hf := .inr rfl)) pgs_nil)))) (fun _ _ _ _ _ => pts_nil) (fun _ _ _ _ _ => (pe_cmpR op_gt (pv 1) (pe_glob (v := .int 400) rfl (T.c_MOST_STEP).choose_spec ⟨_, rfl⟩) (nomark _)))) pa_nil)))
      (pss_one ps_never)
      pss_nil)
    (pss_cons (ps_if (pt_val (pe_callB (cr_any rfl) (by rfl) T.m_any (by decide +kernel) (pa_cons (pe_lc (own := [("d", 1), ("r", 2)]) (g := gTup K 2 (gCons (gName 1) (gCons (gName 2) gNil))) rfl sc_settled.nd (pi_tup (pv 0)) (blkOk_by (own := [("d", 1), ("r", 2)]) (N := ["pairs", "d", "r"]) (sc := defScope s_settled) (by decide +kernel)) (fun _ _ _ _ _ => (pg_tup rfl (pgs_cons (pg_name (i := 1) sc_settled.nd rfl (.inl rfl) (hf := .inr rfl)) (pgs_cons (pg_name (i := 2) sc_settled.nd rfl (.inl rfl) (hf := .inr rfl)) pgs_nil)))) (fun _ _ _ _ _ => pts_nil) (fun _ _ _ _ _ => (pe_cmpR op_gt (pe_callB call_abs (by rfl) T.m_abs (by decide +kernel) (pa_cons (pv 2) pa_nil)) (pe_glob (v := .int 48) rfl (T.c_MOST_POWER).choose_spec ⟨_, rfl⟩) (nomark _)))) pa_nil)))
      (pss_one ps_never)
      pss_nil)
    (pss_cons (ps_if (pt_cmpR op_gt (pe_callB call_len_seq (by rfl) T.m_len (by decide +kernel) (pa_cons (pv 0) pa_nil)) (pe_glob (v := .int 8) rfl (T.c_MOST_PAIRS).choose_spec ⟨_, rfl⟩) (nomark _))
      (pss_one ps_never)
      pss_nil)
    (pss_one (ps_ret (pe_callTy call_tupU (by rfl) T.m_tuple (by decide +kernel) (pa_cons (pv 0) pa_nil))))))), ?_⟩
      refine ⟨_, rfl, a, rfl, ⟨_, hS⟩, fun D nD => lc_tup (K := K) (a := a) (xs := xs) (fun i H' => Same H H' ∧ H' D = some (.lst (((ps.take i).map fun p => decide (400 < p.1)).map V.bl))) ⟨same_new nD, upd_same⟩ (fun i H' _ z => same_tup z.1 hS) ?_ ?_⟩
      · rintro i x H' hi ⟨sm, eD⟩
        obtain ⟨p, b, hpi, rfl, hB⟩ := pair_at hA hi
        refine g_pair (same_tup sm hB) ?_
        refine ⟨rfl, _, rfl, _, _, rfl, rfl, _, eD, ?_, same_mut sm nD, ?_⟩
        · rw [List.length_map, List.length_map, List.length_take]
          exact small1000 (by omega)
        · rw [upd_same, List.take_add_one, hpi, List.map_append, List.map_append]
          rfl
      · rintro H1 ⟨sm1, eD1⟩
        rw [hl, List.take_length] at eD1
        refine ⟨D, _, rfl, SqL.of eD1, _, rfl, ?_⟩
        rw [n1]
        refine iteF ?_
        refine ⟨_, rfl, a, rfl, ⟨_, same_tup sm1 hS⟩, fun D2 nD2 => lc_tup (K := K) (a := a) (xs := xs) (fun i H' => Same H1 H' ∧ H' D2 = some (.lst (((ps.take i).map fun p => decide (48 < (if p.2 < 0 then -p.2 else p.2))).map V.bl))) ⟨same_new nD2, upd_same⟩ (fun i H' _ z => same_tup (sm1.trans z.1) hS) ?_ ?_⟩
        · rintro i x H' hi ⟨sm, eD⟩
          obtain ⟨p, b, hpi, rfl, hB⟩ := pair_at hA hi
          refine g_pair (same_tup (sm1.trans sm) hB) ?_
          refine ⟨rfl, _, rfl, _, rfl, _, _, rfl, rfl, _, eD, ?_, same_mut sm nD2, ?_⟩
          · rw [List.length_map, List.length_map, List.length_take]
            exact small1000 (by omega)
          · rw [upd_same, List.take_add_one, hpi, List.map_append, List.map_append]
            rfl
        · rintro H2 ⟨sm2, eD2⟩
          rw [hl, List.take_length] at eD2
          refine ⟨D2, _, rfl, SqL.of eD2, _, rfl, ?_⟩
          rw [n2]
          refine iteF ?_
          have s2 := sm1.trans sm2
          refine ⟨_, rfl, a, _, rfl, .inr (same_tup s2 hS), _, _, rfl, rfl, _, rfl, ?_⟩
          rw [decide_eq_false (show ¬ (8 : Int) < ((xs.length : Nat) : Int) by omega)]
          refine iteF ?_
          exact ⟨_, rfl, a, _, rfl, .inr (same_tup s2 hS), fun c H3 s3 hc => q _ H3 (s2.trans s3) (dpP hc (dpa_mono (s2.trans s3) _ _ hA))⟩
/-! ### spread_product -/
def sp_spread_product (K : PySem.W.Frag) : Sp := fun vs H Q _ => ∃ (v : V) (ps : Pr) (t : Int), vs = [v, .int t] ∧ Dp K H v (dP ps) ∧ IsP ps ∧ 1 ≤ t ∧ t ≤ 5 ∧ IsP (sprd t ps) ∧ ∀ v' H', Same H H' → Dp K H' v' (dP (sprd t ps)) → Q v' H'
theorem ok_spread_product (T : Txt K mg) : FnOk P w K mg base CX0 5 T.f_spread_product.f T.f_spread_product.fd ["product", "t"] (sp_spread_product K) := by
  have G_need_product := ok_need_product (P := P) (w := w) (base := base) T
  have G_need_from := ok_need_from (P := P) (w := w) (base := base) T
  have G_settled := ok_settled (P := P) (w := w) (base := base) T
  have G_spread_pairs := ok_spread_pairs (P := P) (w := w) (base := base) T
  refine T.f_spread_product.F.ok sc_spread_product (fun vs H Q E h => ?_) (fun cdv A outer s H vs Q E hr h => ?_)
  · obtain ⟨v, ps, t, rfl, _⟩ := h
    rfl
  · obtain ⟨v, ps, t, rfl, hd, hp, ht1, ht5, hp2, q⟩ := h
    refine ⟨_, (pss_cons (ps_expr (pe_call G_need_product (hr.mono (by decide)) (by rfl) T.f_need_product.g T.f_need_product.F.kp T.f_need_product.b .nil pass0 (pa_cons (pv 0) pa_nil)))
    (pss_cons (ps_expr (pe_call G_need_from (hr.mono (by decide)) (by rfl) T.f_need_from.g T.f_need_from.F.kp T.f_need_from.b .nil pass0 (pa_cons (pv 1) (pa_cons pe_int pa_nil))))
    (pss_one (ps_ret (pe_call G_settled (hr.mono (by decide)) (by rfl) T.f_settled.g T.f_settled.F.kp T.f_settled.b .nil pass0 (pa_cons (pe_call G_spread_pairs (hr.mono (by decide)) (by rfl) T.f_spread_pairs.g T.f_spread_pairs.F.kp T.f_spread_pairs.b .nil pass0 (pa_cons (pv 0) (pa_cons (pv 1) pa_nil))) pa_nil)))))), ?_⟩
    refine ⟨_, rfl, v, ps, rfl, hd, hp, _, rfl, t, 1, rfl, ht1, _, rfl, _, rfl, v, ps, t, rfl, hd, hp, ht1, ht5, fun v' H1 s1 d1 => ?_⟩
    obtain ⟨a, xs, rfl, hS, hl, hA⟩ := of_dpP d1
    exact ⟨a, xs, _, rfl, .inr hS, hA, hp2, fun v2 H2 s2 d2 => q v2 H2 (s1.trans s2) d2⟩
/-! ### joined_product -/
def sp_joined_product (K : PySem.W.Frag) : Sp := fun vs H Q _ => ∃ (v v' : V) (ps qs : Pr), vs = [v, v'] ∧ Dp K H v (dP ps) ∧ Dp K H v' (dP qs) ∧ IsP ps ∧ IsP qs ∧ (∀ J, IsJ ps qs J → IsP J) ∧ ∀ v2 H' J, IsJ ps qs J → Same H H' → Dp K H' v2 (dP J) → Q v2 H'
theorem ok_joined_product (T : Txt K mg) : FnOk P w K mg base CX0 5 T.f_joined_product.f T.f_joined_product.fd ["one", "other"] (sp_joined_product K) := by
  have G_need_product := ok_need_product (P := P) (w := w) (base := base) T
  have G_settled := ok_settled (P := P) (w := w) (base := base) T
  refine T.f_joined_product.F.ok sc_joined_product (fun vs H Q E h => ?_) (fun cdv A outer s H vs Q E hr h => ?_)
  · obtain ⟨v, v', ps, qs, rfl, _⟩ := h
    rfl
  · obtain ⟨v, v', ps, qs, rfl, hd, hd', hp, hp', hJ, q⟩ := h
    obtain ⟨a, xs, rfl, hS, hl, hA⟩ := of_dpP hd
    obtain ⟨a', xs', rfl, hS', hl', hA'⟩ := of_dpP hd'
    have hlen := hp.len
    have hlen' := hp'.len
    refine ⟨_, (pss_cons (ps_expr (pe_call G_need_product (hr.mono (by decide)) (by rfl) T.f_need_product.g T.f_need_product.F.kp T.f_need_product.b .nil pass0 (pa_cons (pv 0) pa_nil)))
    (pss_cons (ps_expr (pe_call G_need_product (hr.mono (by decide)) (by rfl) T.f_need_product.g T.f_need_product.F.kp T.f_need_product.b .nil pass0 (pa_cons (pv 1) pa_nil)))
    (pss_cons (ps_set (i := 2) sc_joined_product.nd rfl (.inr rfl) pe_dnewK)
    (pss_cons (ps_for PassesOwn.never rfl (pi_tup (pe_op op_catU (pv 0) (pv 1))) (pg_tup rfl (pgs_cons (pg_name (i := 3) sc_joined_product.nd rfl (.inl rfl)) (pgs_cons (pg_name (i := 4) sc_joined_product.nd rfl (.inl rfl)) pgs_nil)))
      (pss_one (ps_dput (hu_of hr) (pv 2) (pv 3) (pe_op op_add (pe_dget2 (hu_of hr) (pv 2) (pv 3) pe_int ⟨rfl, rfl, rfl, rfl⟩) (pv 4)) rfl)))
    (pss_one (ps_ret (pe_call G_settled (hr.mono (by decide)) (by rfl) T.f_settled.g T.f_settled.F.kp T.f_settled.b .nil pass0 (pa_cons (pe_lc (own := [("d", 3)]) (g := gName 3) rfl sc_joined_product.nd (pi_list (pe_callB (call_sortedDI rfl) (by rfl) T.m_sorted (by decide +kernel) (pa_cons (pv 2) pa_nil))) (blkOk_by (own := [("d", 3)]) (N := ["one", "other", "sums", "d", "r"]) (sc := defScope s_joined_product) (by decide +kernel)) (fun _ _ _ _ _ => (pg_name (i := 3) sc_joined_product.nd rfl (.inl rfl) (hf := .inr rfl))) (fun _ _ _ _ _ => (pts_one (pt_cmpR op_ne (pe_dget (hu_of hr) (pv 2) (pv 3) (fun _ _ => rfl)) pe_int (nomark _)))) (fun _ _ _ _ _ => (pe_tup (pa_cons (pv 3) (pa_cons (pe_dget (hu_of hr) (pv 2) (pv 3) (fun _ _ => rfl)) pa_nil))))) pa_nil)))))))), ?_⟩
    refine ⟨_, rfl, _, ps, rfl, hd, hp, _, rfl, _, qs, rfl, hd', hp', fun S nS => ?_⟩
    have s0 : Same H (upd H S (.dK [])) := same_new nS
    -- for d, r in one + other
    refine ⟨_, rfl, _, rfl, a, a', xs, xs', rfl, rfl, same_tup s0 hS, same_tup s0 hS', sz1000 (by omega), fun c H1 s1 hC => ?_⟩
    have hAA : DpAll K H (xs ++ xs') ((ps ++ qs).map fun p => d2 p.1 p.2) := by
      rw [List.map_append]
      exact dpa_app hA hA'
    have s01 := s0.trans s1
    refine ⟨c, rfl, ⟨_, hC⟩, for_tup (K := K) (a := c) (xs := xs ++ xs') (fun i σ H2 => ∃ y3 y4 m, σ = [some (.ref a), some (.ref a'), some (.ref S), y3, y4] ∧ (∀ b o, b ≠ S → H1 b = some o → H2 b = some o) ∧ H2 S = some (.dK (dk m)) ∧ IsM ((ps ++ qs).take i) m)
      ⟨none, none, [], rfl, fun _ _ _ e => e, s1 _ _ upd_same, IsM.nil⟩ ?_ ?_ ?_⟩
    · rintro i σ H2 _ ⟨_, _, m, _, sb, eS, _⟩
      exact sqT_but hC (s1 _ _ upd_same) sb
    · rintro i x σ H2 hi ⟨y3, y4, m, rfl, sb, eS, hM⟩
      obtain ⟨p, b, hpi, rfl, hB⟩ := pair_at hAA hi
      have s2 : Same H H2 := same_but s01 nS sb
      have hml := hM.len
      rw [List.length_take, List.length_append] at hml
      refine g_pair (same_tup s2 hB) ?_
      -- sums[d] = sums.get(d, 0) + r
      refine ⟨_, rfl, S, rfl, .inl ⟨_, .inl eS⟩, _, rfl, _, DGet.k (k := Sum.inl p.1) eS, _, rfl, lkz m p.1, p.2, ?_, rfl, _, rfl, _, rfl, S, _, rfl, DPut.k (k := Sum.inl p.1) eS (by rw [dk_len]; exact small1000 (by omega)), _, _, addM m p, rfl, ?_, ?_, hM.snoc hpi⟩
      · rw [dk_val]
        unfold lkz
        cases lk m p.1 <;> rfl
      · intro b' o hb e
        rw [upd_ne hb]
        exact sb b' o hb e
      · rw [upd_same]
        show some (HO.dK (putK (dk m) (Sum.inl p.1) (V.int (lkz m p.1 + p.2)))) = _
        rw [dk_put]
        rfl
    · rintro σ H2 ⟨y3, y4, m, rfl, sb, eS, hM⟩
      have s2 : Same H H2 := same_but s01 nS sb
      rw [List.length_append, hl, hl', ← List.length_append, List.take_length] at hM
      have hml := hM.len
      rw [List.length_append] at hml
      -- settled([(d, sums[d]) for d in sorted(sums) if sums[d] != 0])
      refine ⟨_, rfl, S, _, m.map (·.1), rfl, .inl eS, dk_keys m, by rw [List.length_map]; omega, fun ys g hys hso ng => ⟨g, rfl, ⟨_, SqL.of upd_same⟩, fun D nD => ?_⟩⟩
      have s3 : Same H2 (upd H2 g (.lst (ys.map V.int))) := same_new ng
      have hyl : ys.length = m.length := by rw [hys.length_eq, List.length_map]
      refine lc_list (K := K) (a := g) (xs := ys.map V.int) (fun i H' => Same (upd H2 g (.lst (ys.map V.int))) H' ∧ ∃ acc, H' D = some (.lst acc) ∧ acc.length ≤ i ∧ DpAll K H' acc ((jl m (ys.take i)).map fun p => d2 p.1 p.2))
        ⟨same_new nD, [], upd_same, Nat.le_refl _, .nil⟩ (fun i H' _ z => z.1.seq (SqL.of upd_same)) ?_ ?_
      · rintro i x H' hi ⟨sm, acc, eD, hal, hacc⟩
        rw [List.getElem?_map] at hi
        cases hy : ys[i]? with
        | none =>
          rw [hy] at hi
          cases hi
        | some d =>
          rw [hy] at hi
          cases hi
          have hil : i < ys.length := (List.getElem?_eq_some_iff.mp hy).1
          have hdm : d ∈ m.map (·.1) := hys.mem_iff.mp (List.mem_of_getElem? hy)
          have eS' : H' S = some (.dK (dk m)) := sm _ _ (s3 _ _ eS)
          have ev : DGet H' S (V.int d) (some (V.int (lkz m d))) := by
            have := DGet.k (k := Sum.inl d) eS'
            rw [dk_val, lk_some hdm] at this
            exact this
          refine ⟨rfl, _, rfl, _, rfl, S, _, rfl, ev, rfl, _, rfl, ?_⟩
          by_cases hz : lkz m d = 0
          · rw [decide_eq_true (show V.int (lkz m d) = V.int 0 by rw [hz])]
            refine iteF ⟨sm, acc, eD, by omega, ?_⟩
            rw [jl_take m hy, if_neg (fun z => z hz), List.append_nil]
            exact hacc
          · rw [decide_eq_false (show ¬ V.int (lkz m d) = V.int 0 from fun z => hz (V.int.inj z))]
            refine iteT ?_
            refine ⟨_, rfl, _, rfl, _, rfl, S, _, rfl, ev, by show 2 ≤ sizeLine; decide, fun c' nc => ?_⟩
            have ncD : D ≠ c' := ne_of_none eD nc
            refine ⟨acc, by rw [upd_ne ncD]; exact eD, small1000 (by omega), same_mut (same_new2 sm nc) nD, _, upd_same, by rw [List.length_append]; exact Nat.succ_le_succ hal, ?_⟩
            rw [jl_take m hy, if_pos hz]
            exact pairs_snoc hacc nc eD
      · rintro H' ⟨sm, acc, eD, hal, hacc⟩
        rw [List.length_map, List.take_length] at hacc
        have hj := jl_isJ hM hys hso
        refine ⟨D, acc, jl m ys, rfl, .inl (SqL.of eD), hacc, hJ _ hj, fun v2 H3 s4 d4 => ?_⟩
        exact q v2 H3 _ hj ((s2.trans s3).trans (sm.trans s4)) d4
end
end K17
/-! Beginnings: products, powers. -/
namespace K17
open PySem PySem.Spec PyProof.Rows L2
/-- a list or a tuple -/
def SqA (K : PySem.W.Frag) (H : Hp) (a : Addr) (xs : List V) : Prop := SqL K H a xs ∨ SqT K H a xs
def rIxA (K : PySem.W.Frag) : R2 := fun x y H Q => ∃ (p : Addr) (xs : List V) (j : Nat) (v : V), x = .ref p ∧ y = .int (j : Int) ∧ SqA K H p xs ∧ xs[j]? = some v ∧ Q v H
theorem ix_any {X : Cx} : IxR X (rIxA X.K) := by
  intro value slice pins s σ H x y v u Q I rx ry h hs
  obtain ⟨p, xs, j, z, rfl, rfl, hq, he, q⟩ := h
  refine ix_seq value slice pins s σ H _ _ v u Q I rx ry ?_ hs
  rcases hq with hq | hq
  · exact .inl ⟨p, xs, (j : Int), z, rfl, rfl, hq, atI_nat he, q⟩
  · exact .inr (.inl ⟨p, xs, (j : Int), z, rfl, rfl, hq, atI_nat he, q⟩)
section
variable {P : Program} {w : World} {K : PySem.W.Frag} {mg : Str → Option Value} {base : Heap}
theorem same_any {H H' : Hp} {a : Addr} {xs : List V} (e : Same H H') (h : SqA K H a xs) : SqA K H' a xs := h.imp (fun z => e.seq z) fun z => same_tup e z
/-! ### series_product -/
def sp_series_product (K : PySem.W.Frag) : Sp := fun vs H Q _ => ∃ (a b : Addr) (f g : Nat → Int) (N : Nat), vs = [.ref a, .ref b] ∧ SqA K H a (rv N f) ∧ SqA K H b (rv N g) ∧ N ≤ 30 ∧ Bd f 10000 ∧ Bd g 10000 ∧ ∀ (p : Addr) H', Same H H' → H' p = some (.lst (rv N (cv f g))) → Q (.ref p) H'
theorem ok_series_product (T : Txt K mg) : FnOk P w K mg base CX0 1 T.f_series_product.f T.f_series_product.fd ["one", "other"] (sp_series_product K) := by
  refine T.f_series_product.F.ok sc_series_product (fun vs H Q E h => ?_) (fun cdv A outer s H vs Q E hr h => ?_)
  · obtain ⟨a, b, f, g, N, rfl, _⟩ := h
    rfl
  · obtain ⟨a, b, f, g, N, rfl, hA, hB, hN, bf, bg, q⟩ := h
    refine ⟨_, (pss_cons (ps_set (i := 2) sc_series_product.nd rfl (.inl rfl) (pe_callB (call_min2 rfl) (by rfl) T.m_min (by decide +kernel) (pa_cons (pe_callB call_len_seq (by rfl) T.m_len (by decide +kernel) (pa_cons (pv 0) pa_nil)) (pa_cons (pe_callB call_len_seq (by rfl) T.m_len (by decide +kernel) (pa_cons (pv 1) pa_nil)) pa_nil))))
    (pss_cons (ps_set (i := 3) sc_series_product.nd rfl (.inl rfl) (pe_op op_rep (pe_lst (pa_cons pe_int pa_nil)) (pv 2)))
    (pss_cons (ps_for PassesOwn.never rfl (pi_range1 rfl T.m_range (pa_cons (pv 2) pa_nil)) (pg_name (i := 4) sc_series_product.nd rfl (.inl rfl))
      (pss_cons (ps_set (i := 5) sc_series_product.nd rfl (.inl rfl) (pe_ix ix_any (pv 0) (pv 4) (fun _ _ => rfl)))
      (pss_one (ps_if (pt_cmpR op_ne (pv 5) pe_int (nomark _))
        (pss_one (ps_for PassesOwn.never rfl (pi_range1 rfl T.m_range (pa_cons (pe_op op_sub (pv 2) (pv 4)) pa_nil)) (pg_name (i := 6) sc_series_product.nd rfl (.inl rfl))
          (pss_one (ps_augS (pv 3) (pe_op op_add (pv 4) (pv 6)) get_list (pe_op op_mulW (pv 5) (pe_ix ix_any (pv 1) (pv 6) (fun _ _ => rfl))) ip_add set_list))))
        pss_nil))))
    (pss_one (ps_ret (pv 3)))))), ?_⟩
    -- many = min(len(one), len(other)); found = [0] * many
    refine ⟨_, rfl, a, _, rfl, hA, _, rfl, b, _, rfl, hB, _, _, rfl, ?_⟩
    rw [rv_len, rv_len, if_neg (by omega)]
    refine ⟨by show 1 ≤ sizeLine; decide, fun l0 n0 => ⟨_, rfl, l0, (N : Int), _, rfl, rfl, upd_same, by omega, by omega, ?_, fun F nF => ?_⟩⟩
    · show 1 * ((N : Int)).toNat ≤ sizeLine
      exact sz1000 (by omega)
    have s0 : Same H (upd H l0 (.lst [.int 0])) := same_new n0
    have nF0 : H F = none := s0.free nF
    -- for at in range(many)
    refine ⟨_, rfl, (N : Int), rfl, by omega, by omega, ?_⟩
    rw [show ((N : Int)).toNat = N by omega]
    refine for_range (lo := 0) (n := N) (fun i σ H' => ∃ y4 y5 y6, σ = [some (.ref a), some (.ref b), some (.int (N : Int)), some (.ref F), y4, y5, y6] ∧ Same H H' ∧ H' F = some (.lst (rv N (cvp f g i))))
      ⟨none, none, none, rfl, same_new2 s0 nF, ?_⟩ ?_ ?_
    · rw [upd_same, rv_zero]
      rfl
    · rintro i σ H' hi ⟨y4, y5, y6, rfl, sm, eF⟩
      have ei : (0 : Int) + (i : Int) = (i : Int) := by omega
      refine ⟨_, rfl, _, rfl, a, _, i, _, rfl, congrArg V.int ei, same_any sm hA, rv_get f hi, ?_⟩
      refine ⟨_, rfl, rfl, _, rfl, ?_⟩
      by_cases hz : f i = 0
      · rw [decide_eq_true (show V.int (f i) = V.int 0 by rw [hz])]
        refine iteF ⟨_, _, _, rfl, sm, ?_⟩
        rw [eF]
        congr 2
        exact rv_congr fun n _ => (cvp_skip f g hz n).symm
      · rw [decide_eq_false (show ¬ V.int (f i) = V.int 0 from fun z => hz (V.int.inj z))]
        refine iteT ?_
        -- for place in range(many - at)
        refine ⟨_, rfl, _, rfl, _, _, rfl, rfl, _, rfl, by omega, by omega, ?_⟩
        rw [show ((N : Int) - (0 + (i : Int))).toNat = N - i by omega]
        refine for_range (lo := 0) (n := N - i) (fun j σ H2 => ∃ y6, σ = [some (.ref a), some (.ref b), some (.int (N : Int)), some (.ref F), some (.int (0 + (i : Int))), some (.int (f i)), y6] ∧ Same H H2 ∧ H2 F = some (.lst (rv N (cvq f g i j))))
          ⟨y6, rfl, sm, ?_⟩ ?_ ?_
        · rw [eF]
          congr 2
          exact rv_congr fun n _ => (cvq_zero f g i n).symm
        · rintro j σ H2 hj ⟨y6, rfl, sm2, eF2⟩
          have ej : (0 : Int) + (j : Int) = (j : Int) := by omega
          have eij : (0 : Int) + (i : Int) + (0 + (j : Int)) = ((i + j : Nat) : Int) := by omega
          -- found[at + place] += first * other[place]
          refine ⟨_, rfl, _, rfl, _, rfl, _, _, rfl, rfl, F, _, i + j, _, rfl, congrArg V.int eij, SqL.of eF2, rv_get _ (by omega), ?_⟩
          refine ⟨_, rfl, _, rfl, _, rfl, b, _, j, _, rfl, congrArg V.int ej, same_any sm2 hB, rv_get g (by omega), _, _, rfl, rfl, ?_, ?_⟩
          · have b1 := bf i (by omega)
            have b2 := bg j (by omega)
            exact wide_mul (a := 10001) (b := 10001) (Nat.lt_of_le_of_lt b1 (Nat.pow_lt_pow_right (by decide) (by decide))) (Nat.lt_of_le_of_lt b2 (Nat.pow_lt_pow_right (by decide) (by decide))) (by decide) (by decide) (by decide)
          · refine ⟨_, _, rfl, rfl, F, _, _, i + j, rfl, congrArg V.int eij, eF2, ?_, ?_⟩
            · rw [rv_len]
              exact ix_nat (by omega)
            · refine ⟨_, rfl, same_mut sm2 nF0, ?_⟩
              rw [upd_same]
              show some (HO.lst ((rv N (cvq f g i j)).set (i + j) (.int (cvq f g i j (i + j) + f i * g j)))) = _
              rw [rv_set]
              congr 2
              exact rv_congr fun n _ => (cvq_succ f g i j n).symm
        · rintro σ H2 ⟨y6, rfl, sm2, eF2⟩
          refine ⟨_, _, _, rfl, sm2, ?_⟩
          rw [eF2]
          congr 2
          exact rv_congr fun n hn => cvq_all f g hn
    · rintro σ H' ⟨y4, y5, y6, rfl, sm, eF⟩
      refine ⟨_, rfl, q F H' sm ?_⟩
      rw [eF]
      congr 2
      exact rv_congr fun n hn => cvp_all f g hn
/-! ### is_beginning, need_beginnings -/
def sp_is_beginning (K : PySem.W.Frag) : Sp := fun vs H Q _ => ∃ (v : V) (ts : List Int), vs = [v] ∧ Dp K H v (dB ts) ∧ 1 ≤ ts.length ∧ ts.length ≤ 400 ∧ ∀ H', Same H H' → Q (.bl true) H'
theorem ok_is_beginning (T : Txt K mg) : FnOk P w K mg base CX0 2 T.f_is_beginning.f T.f_is_beginning.fd ["thing"] (sp_is_beginning K) := by
  have G_is_integer := ok_is_integer (P := P) (w := w) (base := base) T
  refine T.f_is_beginning.F.ok sc_is_beginning (fun vs H Q E h => ?_) (fun cdv A outer s H vs Q E hr h => ?_)
  · obtain ⟨v, ts, rfl, _⟩ := h
    rfl
  · obtain ⟨v, ts, rfl, hd, h1, h2, q⟩ := h
    obtain ⟨a, t, rfl, hS, hT⟩ := of_dpB hd
    refine ⟨_, (pss_cons (ps_if (PW.pt (pw_or (pt_not (pt_val (pe_callB call_isi (by rfl) T.m_isinstance (by decide +kernel) (pa_cons (pv 0) (pa_cons (pe_bltn (v := .ty "tuple") rfl T.m_tuple (by decide +kernel) rfl) pa_nil))))) (pw_or (pt_cmpR op_ne (pe_callB call_len_seq (by rfl) T.m_len (by decide +kernel) (pa_cons (pv 0) pa_nil)) pe_int (nomark _)) (pw_or (pt_not (pt_val (pe_call G_is_integer (hr.mono (by decide)) (by rfl) T.f_is_integer.g T.f_is_integer.F.kp T.f_is_integer.b .nil pass0 (pa_cons (pe_ix ix_tup (pv 0) pe_int (fun _ _ => rfl)) pa_nil)))) (pw_or1 (pt_cmpR op_lt (pe_ix ix_tup (pv 0) pe_int (fun _ _ => rfl)) pe_int (nomark _)))))))
      (pss_one (ps_ret pe_bl))
      pss_nil)
    (pss_cons (ps_if (PW.pt (pw_or (pt_not (pt_val (pe_callB call_isi (by rfl) T.m_isinstance (by decide +kernel) (pa_cons (pe_ix ix_tup (pv 0) pe_int (fun _ _ => rfl)) (pa_cons (pe_bltn (v := .ty "tuple") rfl T.m_tuple (by decide +kernel) rfl) pa_nil))))) (pw_or1 (pt_not (pt_chain op_le op_le pe_int (pe_callB call_len_seq (by rfl) T.m_len (by decide +kernel) (pa_cons (pe_ix ix_tup (pv 0) pe_int (fun _ _ => rfl)) pa_nil)) (pe_glob (v := .int 400) rfl (T.c_MOST_TERMS).choose_spec ⟨_, rfl⟩))))))
      (pss_one (ps_ret pe_bl))
      pss_nil)
    (pss_one (ps_ret (pe_callB (cr_all rfl) (by rfl) T.m_all (by decide +kernel) (pa_cons (pe_lc (own := [("top", 1)]) (g := gName 1) rfl sc_is_beginning.nd (pi_tup (pe_ix ix_tup (pv 0) pe_int (fun _ _ => rfl))) (blkOk_by (own := [("top", 1)]) (N := ["thing", "top"]) (sc := defScope s_is_beginning) (by decide +kernel)) (fun _ _ _ _ _ => (pg_name (i := 1) sc_is_beginning.nd rfl (.inl rfl) (hf := .inr rfl))) (fun _ _ _ _ _ => pts_nil) (fun _ _ _ _ _ => (pe_call G_is_integer (hr.mono (by decide)) (by rfl) T.f_is_integer.g T.f_is_integer.F.kp T.f_is_integer.b .nil pass0 (pa_cons (pv 1) pa_nil)))) pa_nil)))))), ?_⟩
    refine ⟨_, rfl, _, _, _, _, true, rfl, .ty "tuple", tyx_tup hS, kit_ty (by decide +kernel), true, rfl, iteF ?_⟩
    refine ⟨_, rfl, a, _, rfl, .inr hS, rfl, _, rfl, iteNS rfl ?_⟩
    refine ⟨_, rfl, a, _, 0, _, rfl, rfl, hS, atI_nat (j := 0) rfl, 1, rfl, true, rfl, iteF ?_⟩
    refine ⟨_, rfl, a, _, 0, _, rfl, rfl, hS, atI_nat (j := 0) rfl, _, _, rfl, rfl, _, rfl, ?_⟩
    rw [decide_eq_false (show ¬ (1 : Int) < 1 by decide)]
    refine iteF ?_
    refine ⟨_, rfl, a, _, 1, _, rfl, rfl, hS, atI_nat (j := 1) rfl, _, _, _, _, true, rfl, .ty "tuple", tyx_tup hT, kit_ty (by decide +kernel), true, rfl, iteF ?_⟩
    refine ⟨_, rfl, a, _, 1, _, rfl, rfl, hS, atI_nat (j := 1) rfl, t, _, rfl, .inr hT, _, _, rfl, rfl, _, rfl, ?_⟩
    rw [List.length_map, decide_eq_true (show (1 : Int) ≤ ((ts.length : Nat) : Int) by omega)]
    refine iteT ⟨_, _, rfl, rfl, _, rfl, ?_⟩
    rw [decide_eq_true (show ((ts.length : Nat) : Int) ≤ 400 by omega)]
    refine iteF ?_
    -- all([is_integer(top) for top in thing[1]])
    refine ⟨_, rfl, a, _, 1, _, rfl, rfl, hS, atI_nat (j := 1) rfl, t, rfl, ⟨_, hT⟩, fun D nD => lc_tup (K := K) (a := t) (xs := ts.map V.int) (fun i H' => Same H H' ∧ H' D = some (.lst ((List.replicate i true).map V.bl)) ∧ i ≤ ts.length) ⟨same_new nD, upd_same, Nat.zero_le _⟩ (fun i H' _ z => same_tup z.1 hT) ?_ ?_⟩
    · rintro i x H' hi ⟨sm, eD, hil⟩
      have hlt := (List.getElem?_eq_some_iff.mp hi).1
      rw [List.length_map] at hlt
      rw [List.getElem?_map] at hi
      cases hn : ts[i]? with
      | none =>
        rw [hn] at hi
        cases hi
      | some n =>
        rw [hn] at hi
        cases hi
        refine ⟨rfl, _, rfl, n, rfl, _, eD, ?_, same_mut sm nD, ?_, hlt⟩
        · rw [List.length_map, List.length_replicate]
          exact small1000 (by omega)
        · rw [upd_same, List.replicate_succ', List.map_append]
          rfl
    · rintro H' ⟨sm, eD, _⟩
      refine ⟨D, _, rfl, SqL.of eD, ?_⟩
      have e : (List.replicate (ts.map V.int).length true).all id = true := by
        rw [List.all_eq_true]
        intro x hx
        exact (List.mem_replicate.mp hx).2
      rw [e]
      exact q H' sm
def sp_need_beginnings (K : PySem.W.Frag) : Sp := fun vs H Q _ => ∃ (a : Addr) (xs : List V), vs = [.ref a] ∧ SqT K H a xs ∧ (∀ x ∈ xs, ∃ ts, Dp K H x (dB ts) ∧ 1 ≤ ts.length ∧ ts.length ≤ 400) ∧ ∀ H', Same H H' → Q .non H'
theorem ok_need_beginnings (T : Txt K mg) : FnOk P w K mg base CX0 3 T.f_need_beginnings.f T.f_need_beginnings.fd ["things"] (sp_need_beginnings K) := by
  have G_is_beginning := ok_is_beginning (P := P) (w := w) (base := base) T
  refine T.f_need_beginnings.F.ok sc_need_beginnings (fun vs H Q E h => ?_) (fun cdv A outer s H vs Q E hr h => ?_)
  · obtain ⟨a, xs, rfl, _⟩ := h
    rfl
  · obtain ⟨a, xs, rfl, hS, hx, q⟩ := h
    refine ⟨_, (pss_one (ps_for PassesOwn.never rfl (pi_tup (pv 0)) (pg_name (i := 1) sc_need_beginnings.nd rfl (.inl rfl))
      (pss_one (ps_if (pt_not (pt_val (pe_call G_is_beginning (hr.mono (by decide)) (by rfl) T.f_is_beginning.g T.f_is_beginning.F.kp T.f_is_beginning.b .nil pass0 (pa_cons (pv 1) pa_nil))))
        (pss_one ps_never)
        pss_nil)))), ?_⟩
    refine ⟨_, rfl, a, rfl, ⟨_, hS⟩, for_tup (K := K) (a := a) (xs := xs) (fun i σ H' => ∃ y, σ = [some (.ref a), y] ∧ Same H H') ⟨none, rfl, Same.refl H⟩ (fun i σ H' _ ⟨_, _, sm⟩ => same_tup sm hS) ?_ ?_⟩
    · rintro i x σ H' hi ⟨y, rfl, sm⟩
      obtain ⟨ts, d1, h1, h2⟩ := hx x (List.mem_of_getElem? hi)
      exact ⟨_, rfl, x, ts, rfl, dp_mono sm _ _ d1, h1, h2, fun H2 s2 => ⟨true, rfl, iteF ⟨_, rfl, sm.trans s2⟩⟩⟩
    · rintro σ H' ⟨y, rfl, sm⟩
      exact q H' sm
/-! ### multiplied -/
def sp_multiplied (K : PySem.W.Frag) : Sp := fun vs H Q _ => ∃ (v v' : V) (f g : Nat → Int) (N : Nat), vs = [v, v'] ∧ Dp K H v (dB (rw_ N f)) ∧ Dp K H v' (dB (rw_ N g)) ∧ 1 ≤ N ∧ N ≤ 30 ∧ Bd f 10000 ∧ Bd g 10000 ∧ ∀ v2 H', Same H H' → Dp K H' v2 (dB (rw_ N (cv f g))) → Q v2 H'
theorem ok_multiplied (T : Txt K mg) : FnOk P w K mg base CX0 4 T.f_multiplied.f T.f_multiplied.fd ["one", "other"] (sp_multiplied K) := by
  have G_need_beginnings := ok_need_beginnings (P := P) (w := w) (base := base) T
  have G_beginning_of := ok_beginning_of (P := P) (w := w) (base := base) T
  have G_series_product := ok_series_product (P := P) (w := w) (base := base) T
  refine T.f_multiplied.F.ok sc_multiplied (fun vs H Q E h => ?_) (fun cdv A outer s H vs Q E hr h => ?_)
  · obtain ⟨v, v', f, g, N, rfl, _⟩ := h
    rfl
  · obtain ⟨v, v', f, g, N, rfl, hd, hd', hN1, hN, bf, bg, q⟩ := h
    obtain ⟨a, t, rfl, hS, hT⟩ := of_dpB hd
    obtain ⟨a', t', rfl, hS', hT'⟩ := of_dpB hd'
    refine ⟨_, (pss_cons (ps_expr (pe_call G_need_beginnings (hr.mono (by decide)) (by rfl) T.f_need_beginnings.g T.f_need_beginnings.F.kp T.f_need_beginnings.b .nil pass0 (pa_cons (pe_tup (pa_cons (pv 0) (pa_cons (pv 1) pa_nil))) pa_nil)))
    (pss_one (ps_ret (pe_call G_beginning_of (hr.mono (by decide)) (by rfl) T.f_beginning_of.g T.f_beginning_of.F.kp T.f_beginning_of.b .nil pass0 (pa_cons (pe_op op_mul (pe_ix ix_tup (pv 0) pe_int (fun _ _ => rfl)) (pe_ix ix_tup (pv 1) pe_int (fun _ _ => rfl))) (pa_cons (pe_call G_series_product (hr.mono (by decide)) (by rfl) T.f_series_product.g T.f_series_product.F.kp T.f_series_product.b .nil pass0 (pa_cons (pe_ix ix_tup (pv 0) pe_int (fun _ _ => rfl)) (pa_cons (pe_ix ix_tup (pv 1) pe_int (fun _ _ => rfl)) pa_nil))) pa_nil)))))), ?_⟩
    refine ⟨_, rfl, _, rfl, by show 2 ≤ sizeLine; decide, fun c nc => ⟨c, _, rfl, SqT.of upd_same, ?_, fun H1 s1 => ?_⟩⟩
    · have s0 : Same H (upd H c (.tup [.ref a, .ref a'])) := same_new nc
      intro x hx
      rcases List.mem_cons.mp hx with rfl | hx
      · exact ⟨_, dp_mono s0 _ _ hd, by rw [rw_len]; exact hN1, by rw [rw_len]; omega⟩
      · obtain rfl := List.mem_singleton.mp hx
        exact ⟨_, dp_mono s0 _ _ hd', by rw [rw_len]; exact hN1, by rw [rw_len]; omega⟩
    have s2 := (same_new nc).trans s1
    refine ⟨_, rfl, a, _, 0, _, rfl, rfl, same_tup s2 hS, atI_nat (j := 0) rfl, _, rfl, a', _, 0, _, rfl, rfl, same_tup s2 hS', atI_nat (j := 0) rfl, _, _, rfl, rfl, .inl ⟨by decide, by decide⟩, ?_⟩
    refine ⟨_, rfl, a, _, 1, _, rfl, rfl, same_tup s2 hS, atI_nat (j := 1) rfl, _, rfl, a', _, 1, _, rfl, rfl, same_tup s2 hS', atI_nat (j := 1) rfl, t, t', f, g, N, rfl, .inr (same_tup s2 hT), .inr (same_tup s2 hT'), hN, bf, bg, fun p H2 s3 e => ?_⟩
    refine ⟨p, _, rfl, SqL.of e, ?_, fun v2 H3 s4 d4 => q v2 H3 ((s2.trans s3).trans s4) d4⟩
    rw [rw_len]
    omega
end
end K17
/-! Beginnings: powers, spread, every. -/
namespace K17
open PySem PySem.Spec PyProof.Rows L2
section
variable {P : Program} {w : World} {K : PySem.W.Frag} {mg : Str → Option Value} {base : Heap}
/-! ### series_power with the exponent 1 -/
theorem one_row (N : Nat) (h : 1 ≤ N) : [V.int 1] ++ (List.replicate (N - 1) [V.int 0]).flatten = rv N one := by
  rw [rv_one h one rfl]
  refine rv_congr fun i _ => ?_
  show (if i < 1 then (if i = 0 then (1 : Int) else 0) else 0) = if i = 0 then 1 else 0
  by_cases h : i = 0
  · rw [if_pos (by omega)]
  · rw [if_neg (by omega), if_neg h]
def sp_series_power (K : PySem.W.Frag) : Sp := fun vs H Q _ => ∃ (a : Addr) (g : Nat → Int) (N : Nat), vs = [.ref a, .int 1] ∧ SqT K H a (rv N g) ∧ 1 ≤ N ∧ N ≤ 30 ∧ Bd g 10000 ∧ ∀ (p : Addr) H', Same H H' → H' p = some (.lst (rv N g)) → Q (.ref p) H'
theorem ok_series_power (T : Txt K mg) : FnOk P w K mg base CX0 2 T.f_series_power.f T.f_series_power.fd ["tops", "k"] (sp_series_power K) := by
  have G_series_product := ok_series_product (P := P) (w := w) (base := base) T
  refine T.f_series_power.F.ok sc_series_power (fun vs H Q E h => ?_) (fun cdv A outer s H vs Q E hr h => ?_)
  · obtain ⟨a, g, N, rfl, _⟩ := h
    rfl
  · obtain ⟨a, g, N, rfl, hS, hN1, hN, bg, q⟩ := h
    refine ⟨_, (pss_cons (ps_set (i := 2) sc_series_power.nd rfl (.inl rfl) (pe_op op_cat (pe_lst (pa_cons pe_int pa_nil)) (pe_op op_rep (pe_lst (pa_cons pe_int pa_nil)) (pe_op op_sub (pe_callB call_len_seq (by rfl) T.m_len (by decide +kernel) (pa_cons (pv 0) pa_nil)) pe_int))))
    (pss_cons (ps_set (i := 3) sc_series_power.nd rfl (.inl rfl) (pe_callTy call_list_of (by rfl) T.m_list (by decide +kernel) (pa_cons (pv 0) pa_nil)))
    (pss_cons (ps_while PassesOwn.never (pt_cmpR op_gt (pv 1) pe_int (nomark _))
      (pss_cons (ps_if (pt_cmpR op_eq (pe_op op_mod (pv 1) pe_int) pe_int (nomark _))
        (pss_one (ps_set (i := 2) sc_series_power.nd rfl (.inl rfl) (pe_call G_series_product (hr.mono (by decide)) (by rfl) T.f_series_product.g T.f_series_product.F.kp T.f_series_product.b .nil pass0 (pa_cons (pv 2) (pa_cons (pv 3) pa_nil)))))
        pss_nil)
      (pss_cons (ps_set (i := 1) sc_series_power.nd rfl (.inl rfl) (pe_op op_fdiv (pv 1) pe_int))
      (pss_one (ps_if (pt_cmpR op_gt (pv 1) pe_int (nomark _))
        (pss_one (ps_set (i := 3) sc_series_power.nd rfl (.inl rfl) (pe_call G_series_product (hr.mono (by decide)) (by rfl) T.f_series_product.g T.f_series_product.F.kp T.f_series_product.b .nil pass0 (pa_cons (pv 3) (pa_cons (pv 3) pa_nil)))))
        pss_nil)))))
    (pss_one (ps_ret (pv 2)))))), ?_⟩
    -- found = [1] + [0] * (len(tops) - 1)
    refine ⟨by show 1 ≤ sizeLine; decide, fun l1 n1 => ⟨by show 1 ≤ sizeLine; decide, fun l2 n2 => ?_⟩⟩
    have s1 : Same H (upd H l1 (.lst [.int 1])) := same_new n1
    have s2 := same_new2 (o := .lst [.int 0]) s1 n2
    refine ⟨_, rfl, a, _, rfl, .inr (same_tup s2 hS), _, _, rfl, rfl, ?_⟩
    rw [rv_len]
    have eN : ((N : Int) - 1).toNat = N - 1 := by omega
    refine ⟨l2, (N : Int) - 1, _, rfl, rfl, upd_same, by omega, by omega, ?_, fun l3 n3 => ?_⟩
    · show 1 * ((N : Int) - 1).toNat ≤ sizeLine
      exact sz1000 (by omega)
    rw [eN]
    have n12 : l1 ≠ l2 := fun e => by
      rw [← e, upd_same] at n2
      cases n2
    have n13 : l1 ≠ l3 := fun e => by
      rw [← e, upd_ne n12, upd_same] at n3
      cases n3
    refine ⟨l1, l3, [.int 1], _, rfl, rfl, ?_, upd_same, ?_, fun F nF => ?_⟩
    · rw [upd_ne n13, upd_ne n12, upd_same]
    · rw [rep_one, List.length_replicate]
      exact sz1000 (by show 1 + (N - 1) ≤ 1000; omega)
    rw [one_row N hN1]
    have s3 := same_new2 (o := .lst (List.replicate (N - 1) [V.int 0]).flatten) s2 n3
    have s4 := same_new2 (o := .lst (rv N one)) s3 nF
    -- square = list(tops)
    refine ⟨_, rfl, a, _, rfl, .inr (same_tup s4 hS), fun S nS => ?_⟩
    have s5 := same_new2 (o := .lst (rv N g)) s4 nS
    have nFS : F ≠ S := fun e => by
      rw [← e, upd_same] at nS
      cases nS
    have eF : (upd (upd (upd (upd (upd H l1 (.lst [.int 1])) l2 (.lst [.int 0])) l3 (.lst (List.replicate (N - 1) [V.int 0]).flatten)) F (.lst (rv N one))) S (.lst (rv N g))) F = some (.lst (rv N one)) := by
      rw [upd_ne nFS, upd_same]
    -- while k > 0
    refine ⟨fun m σ H' => Same H H' ∧ ((m = 1 ∧ σ = [some (.ref a), some (.int 1), some (.ref F), some (.ref S)] ∧ H' F = some (.lst (rv N one)) ∧ H' S = some (.lst (rv N g))) ∨
        (m = 0 ∧ ∃ R, σ = [some (.ref a), some (.int 0), some (.ref R), some (.ref S)] ∧ H' R = some (.lst (rv N g)))), ⟨1, s5, .inl ⟨rfl, rfl, eF, upd_same⟩⟩, ?_⟩
    rintro m σ H' ⟨sm, ⟨rfl, rfl, eF', eS'⟩ | ⟨rfl, R, rfl, eR⟩⟩
    · refine ⟨_, rfl, _, _, rfl, rfl, _, rfl, iteT ⟨fun σ H2 => Same H H2 ∧ ∃ R, σ = [some (.ref a), some (.int 0), some (.ref R), some (.ref S)] ∧ H2 R = some (.lst (rv N g)), ?_, ?_⟩⟩
      · rintro σ H2 ⟨sm2, R, rfl, eR⟩
        exact ⟨0, by decide, sm2, .inr ⟨rfl, R, rfl, eR⟩⟩
      · refine ⟨_, rfl, _, _, rfl, rfl, by show (0 : Int) < 2; decide, rfl, _, rfl, ?_⟩
        rw [decide_eq_true (show V.int (1 % 2) = V.int 1 from rfl)]
        refine iteT ⟨_, rfl, _, rfl, F, S, one, g, N, rfl, .inl (SqL.of eF'), .inl (SqL.of eS'), hN, one_Bd.mono (by decide), bg, fun R H2 s6 eR => ?_⟩
        have eR2 : rv N (cv one g) = rv N g := rv_congr fun n _ => cv_one_left n g
        rw [eR2] at eR
        refine ⟨_, rfl, _, _, rfl, rfl, ⟨by decide, by decide⟩, ?_⟩
        refine ⟨_, rfl, _, _, rfl, rfl, _, rfl, ?_⟩
        rw [decide_eq_false (show ¬ (0 : Int) < 1 / 2 by decide)]
        exact iteF ⟨sm.trans s6, R, rfl, eR⟩
    · refine ⟨_, rfl, _, _, rfl, rfl, _, rfl, ?_⟩
      rw [decide_eq_false (show ¬ (0 : Int) < 0 by decide)]
      exact iteF ⟨_, rfl, q R H' sm eR⟩
/-! ### series_inverse of a row that begins with 1 -/
def sp_series_inverse (K : PySem.W.Frag) : Sp := fun vs H Q _ => ∃ (a : Addr) (f g : Nat → Int) (N : Nat), vs = [.ref a] ∧ SqT K H a (rv N f) ∧ 1 ≤ N ∧ N ≤ 30 ∧ Bd f 10000 ∧ Bd g 10000 ∧ f 0 = 1 ∧ g 0 = 1 ∧ (∀ n, n + 1 < N → cv f g (n + 1) = 0) ∧ ∀ (p : Addr) H', Same H H' → H' p = some (.lst (rv N g)) → Q (.ref p) H'
theorem rv_snoc (k : Nat) (g : Nat → Int) : rv k g ++ [V.int (g k)] = rv (k + 1) g := by
  unfold rv rw_
  rw [List.range_succ, List.map_append, List.map_append]
  rfl
theorem ok_series_inverse (T : Txt K mg) : FnOk P w K mg base CX0 1 T.f_series_inverse.f T.f_series_inverse.fd ["tops"] (sp_series_inverse K) := by
  refine T.f_series_inverse.F.ok sc_series_inverse (fun vs H Q E h => ?_) (fun cdv A outer s H vs Q E hr h => ?_)
  · obtain ⟨a, f, g, N, rfl, _⟩ := h
    rfl
  · obtain ⟨a, f, g, N, rfl, hS, hN1, hN, bf, bg, f0, g0, hi, q⟩ := h
    refine ⟨_, (pss_cons (ps_par (i := 1) (j := 2) rfl sc_series_inverse.nd rfl rfl (by decide) rfl rfl (pa_cons (pe_ix ix_tup (pv 0) pe_int (fun _ _ => rfl)) (pa_cons (pe_lst (pa_cons pe_int pa_nil)) pa_nil)) (by rfl))
    (pss_cons (ps_for PassesOwn.never rfl (pi_range2 rfl T.m_range (pa_cons pe_int (pa_cons (pe_callB call_len_seq (by rfl) T.m_len (by decide +kernel) (pa_cons (pv 0) pa_nil)) pa_nil))) (pg_name (i := 3) sc_series_inverse.nd rfl (.inl rfl))
      (pss_cons (ps_asg (pe_tup (pa_cons pe_int (pa_cons pe_int pa_nil))) (pg_tup rfl (pgs_cons (pg_name (i := 4) sc_series_inverse.nd rfl (.inl rfl)) (pgs_cons (pg_name (i := 5) sc_series_inverse.nd rfl (.inl rfl)) pgs_nil))))
      (pss_cons (ps_for PassesOwn.never rfl (pi_range2 rfl T.m_range (pa_cons pe_int (pa_cons (pe_op op_add (pv 3) pe_int) pa_nil))) (pg_name (i := 6) sc_series_inverse.nd rfl (.inl rfl))
        (pss_cons (ps_aug (i := 4) sc_series_inverse.nd rfl (.inl rfl) (pe_op op_mul (pe_op op_mulW (pe_ix ix_tup (pv 0) (pv 6) (fun _ _ => rfl)) (pe_ix ix_list (pv 2) (pe_op op_sub (pv 3) (pv 6)) (fun _ _ => rfl))) (pv 5)) ip_add)
        (pss_one (ps_set (i := 5) sc_series_inverse.nd rfl (.inl rfl) (pe_op op_mul (pv 5) (pv 1))))))
      (pss_one (ps_expr (pe_bm PySem.F.plainAttrs_list PySem.F.slot_list_append PySem.F.type_list_append mt_append (pv 2) (pa_cons (pe_un un_neg (pv 4)) pa_nil)))))))
    (pss_one (ps_ret (pv 2))))), ?_⟩
    -- first, found = (tops[0], [1])
    refine ⟨_, rfl, a, _, 0, _, rfl, rfl, hS, atI_nat (j := 0) (rv_get f (by omega)), by show 1 ≤ sizeLine; decide, fun F nF => ⟨_, _, rfl, ?_⟩⟩
    rw [f0]
    have s1 : Same H (upd H F (.lst [.int 1])) := same_new nF
    -- for at in range(1, len(tops))
    refine ⟨_, rfl, a, _, rfl, .inr (same_tup s1 hS), ?_⟩
    rw [rv_len]
    refine ⟨1, (N : Int), rfl, ⟨by decide, by decide, by omega, by omega⟩, ?_⟩
    rw [show ((N : Int) - 1).toNat = N - 1 by omega]
    refine for_range (lo := 1) (n := N - 1) (fun k σ H' => ∃ y3 y4 y5 y6, σ = [some (.ref a), some (.int 1), some (.ref F), y3, y4, y5, y6] ∧ Same H H' ∧ H' F = some (.lst (rv (k + 1) g)))
      ⟨none, none, none, none, rfl, s1, ?_⟩ ?_ ?_
    · rw [upd_same, ← g0]
      rfl
    · rintro k σ H' hk ⟨y3, y4, y5, y6, rfl, sm, eF⟩
      -- total, scale = 0, 1
      refine ⟨by show 2 ≤ sizeLine; decide, fun c nc => ⟨c, _, rfl, SqT.of upd_same, rfl, _, _, rfl, _, _, rfl, rfl, ?_⟩⟩
      have sm := same_new2 (o := .tup [.int 0, .int 1]) sm nc
      have eF : (upd H' c (.tup [.int 0, .int 1])) F = some (.lst (rv (k + 1) g)) := by
        rw [upd_ne (ne_of_none eF nc)]
        exact eF
      generalize (upd H' c (.tup [.int 0, .int 1])) = H' at sm eF ⊢
      -- for step in range(1, at + 1)
      refine ⟨_, rfl, _, _, rfl, rfl, 1, _, rfl, ⟨by decide, by decide, by omega, by omega⟩, ?_⟩
      rw [show ((1 : Int) + (k : Int) + 1 - 1).toNat = k + 1 by omega]
      refine for_range (lo := 1) (n := k + 1) (fun m σ H2 => ∃ y6, σ = [some (.ref a), some (.int 1), some (.ref F), some (.int (1 + (k : Int))), some (.int (part f g (k + 1) m)), some (.int 1), y6] ∧ H2 = H') ⟨y6, rfl, rfl⟩ ?_ ?_
      · rintro m σ H2 hm ⟨y6, rfl, rfl⟩
        have e1 : (1 : Int) + (m : Int) = ((m + 1 : Nat) : Int) := by omega
        have e2 : (1 : Int) + (k : Int) - (1 + (m : Int)) = ((k + 1 - (m + 1) : Nat) : Int) := by omega
        have b1 := bf (m + 1) (by omega)
        have b2 := bg (k + 1 - (m + 1)) (by omega)
        refine ⟨_, rfl, _, rfl, _, rfl, a, _, 1 + (m : Int), _, rfl, rfl, same_tup sm hS, at_of (j := m + 1) e1 (rv_get f (by omega)), ?_⟩
        refine ⟨_, rfl, _, rfl, _, rfl, _, _, rfl, rfl, F, _, 1 + (k : Int) - (1 + (m : Int)), _, rfl, rfl, SqL.of eF, at_of (j := k + 1 - (m + 1)) e2 (rv_get g (by omega)), ?_⟩
        refine ⟨_, _, rfl, rfl, wide_mul (a := 10001) (b := 10001) (Nat.lt_of_le_of_lt b1 (Nat.pow_lt_pow_right (by decide) (by decide))) (Nat.lt_of_le_of_lt b2 (Nat.pow_lt_pow_right (by decide) (by decide))) (by decide) (by decide) (by decide), ?_⟩
        refine ⟨_, rfl, _, _, rfl, rfl, .inr ⟨by decide, by decide⟩, _, _, rfl, rfl, ?_⟩
        refine ⟨_, rfl, _, rfl, _, _, rfl, rfl, .inl ⟨by decide, by decide⟩, some (.int (1 + (m : Int))), ?_, rfl⟩
        rw [part_succ]
        show [some (V.ref a), some (.int 1), some (.ref F), some (.int (1 + (k : Int))), some (.int (part f g (k + 1) m + f (m + 1) * g (k + 1 - (m + 1)) * 1)), some (.int (1 * 1)), _] = _
        rw [Int.mul_one, Int.mul_one]
      · rintro σ H2 ⟨y6, rfl, rfl⟩
        -- found.append(-total)
        refine ⟨_, rfl, .inl ⟨rfl, _, SqL.of eF⟩, _, rfl, _, rfl, F, _, _, rfl, rfl, eF, ?_, ?_⟩
        · rw [rv_len]
          exact small1000 (by omega)
        · refine ⟨_, _, _, _, rfl, same_mut sm nF, ?_⟩
          rw [upd_same]
          show some (HO.lst (rv (k + 1) g ++ [V.int (-(part f g (k + 1) (k + 1)))])) = _
          rw [inv_at f0 (hi k (by omega)), rv_snoc]
    · rintro σ H' ⟨y3, y4, y5, y6, rfl, sm, eF⟩
      refine ⟨_, rfl, q F H' sm ?_⟩
      rw [eF, show N - 1 + 1 = N by omega]
/-! ### power with the exponent -1 -/
def sp_power (K : PySem.W.Frag) : Sp := fun vs H Q _ => ∃ (v : V) (f g : Nat → Int) (N : Nat), vs = [v, .int (-1)] ∧ Dp K H v (dB (rw_ N f)) ∧ 1 ≤ N ∧ N ≤ 30 ∧ Bd f 10000 ∧ Bd g 10000 ∧ f 0 = 1 ∧ g 0 = 1 ∧ (∀ n, n + 1 < N → cv f g (n + 1) = 0) ∧ ∀ v' H', Same H H' → Dp K H' v' (dB (rw_ N g)) → Q v' H'
theorem ok_power (T : Txt K mg) : FnOk P w K mg base CX0 4 T.f_power.f T.f_power.fd ["beginning", "k"] (sp_power K) := by
  have G_need_beginnings := ok_need_beginnings (P := P) (w := w) (base := base) T
  have G_is_integer := ok_is_integer (P := P) (w := w) (base := base) T
  have G_beginning_of := ok_beginning_of (P := P) (w := w) (base := base) T
  have G_series_power := ok_series_power (P := P) (w := w) (base := base) T
  have G_power_of := ok_power_of (P := P) (w := w) (base := base) T
  have G_series_inverse := ok_series_inverse (P := P) (w := w) (base := base) T
  refine T.f_power.F.ok sc_power (fun vs H Q E h => ?_) (fun cdv A outer s H vs Q E hr h => ?_)
  · obtain ⟨v, f, g, N, rfl, _⟩ := h
    rfl
  · obtain ⟨v, f, g, N, rfl, hd, hN1, hN, bf, bg, f0, g0, hi, q⟩ := h
    obtain ⟨a, t, rfl, hS, hT⟩ := of_dpB hd
    refine ⟨_, (pss_cons (ps_expr (pe_call G_need_beginnings (hr.mono (by decide)) (by rfl) T.f_need_beginnings.g T.f_need_beginnings.F.kp T.f_need_beginnings.b .nil pass0 (pa_cons (pe_tup (pa_cons (pv 0) pa_nil)) pa_nil)))
    (pss_cons (ps_if (pt_not (pt_val (pe_call G_is_integer (hr.mono (by decide)) (by rfl) T.f_is_integer.g T.f_is_integer.F.kp T.f_is_integer.b .nil pass0 (pa_cons (pv 1) pa_nil))))
      (pss_one ps_never)
      pss_nil)
    (pss_cons (ps_asg (pv 0) (pg_tup rfl (pgs_cons (pg_name (i := 2) sc_power.nd rfl (.inr rfl)) (pgs_cons (pg_name (i := 3) sc_power.nd rfl (.inl rfl)) pgs_nil))))
    (pss_cons (ps_if (pt_cmpR op_ge (pv 1) pe_int (nomark _))
      (pss_one (ps_ret (pe_call G_beginning_of (hr.mono (by decide)) (by rfl) T.f_beginning_of.g T.f_beginning_of.F.kp T.f_beginning_of.b .nil pass0 (pa_cons (pe_call G_power_of (hr.mono (by decide)) (by rfl) T.f_power_of.g T.f_power_of.F.kp T.f_power_of.b .nil pass0 (pa_cons (pv 2) (pa_cons (pv 1) pa_nil))) (pa_cons (pe_call G_series_power (hr.mono (by decide)) (by rfl) T.f_series_power.g T.f_series_power.F.kp T.f_series_power.b .nil pass0 (pa_cons (pv 3) (pa_cons (pv 1) pa_nil))) pa_nil)))))
      pss_nil)
    (pss_cons (ps_if (pt_cmpR op_eq (pe_ix ix_tup (pv 3) pe_int (fun _ _ => rfl)) pe_int (nomark _))
      (pss_one ps_never)
      pss_nil)
    (pss_cons (ps_asg (pe_tup (pa_cons (pe_ix ix_tup (pv 3) pe_int (fun _ _ => rfl)) (pa_cons (pe_callB call_len_seq (by rfl) T.m_len (by decide +kernel) (pa_cons (pv 3) pa_nil)) pa_nil))) (pg_tup rfl (pgs_cons (pg_name (i := 4) sc_power.nd rfl (.inr rfl)) (pgs_cons (pg_name (i := 5) sc_power.nd rfl (.inr rfl)) pgs_nil))))
    (pss_cons (ps_setLc (i := 6) (own := [("at", 7), ("number", 8)]) (g := gTup K 2 (gCons (gName 7) (gCons (gName 8) gNil))) rfl sc_power.nd rfl rfl (sw_true rfl rfl rfl (by decide +kernel)) (pi_enum rfl T.m_enumerate (pa_cons (pe_call G_series_inverse (hr.mono (by decide)) (by rfl) T.f_series_inverse.g T.f_series_inverse.F.kp T.f_series_inverse.b .nil pass0 (pa_cons (pv 3) pa_nil)) pa_nil)) (blkOk_by (own := [("at", 7), ("number", 8)]) (N := ["beginning", "k", "bottom", "tops", "first", "many", "found", "at", "number", "lead", "sign", "inverse"]) (sc := defScope s_power) (by decide +kernel)) (fun _ _ _ _ _ => (pg_tup rfl (pgs_cons (pg_name (i := 7) sc_power.nd rfl (.inl rfl) (hf := .inr rfl)) (pgs_cons (pg_name (i := 8) sc_power.nd rfl (.inl rfl) (hf := .inr rfl)) pgs_nil)))) (fun _ _ _ _ _ => pts_nil) (fun _ _ _ _ _ => (pe_op op_mul (pv 8) (pe_call G_power_of (hr.mono (by decide)) (by rfl) T.f_power_of.g T.f_power_of.F.kp T.f_power_of.b .nil pass0 (pa_cons (pv 4) (pa_cons (pe_op op_sub (pe_op op_sub (pv 5) pe_int) (pv 7)) pa_nil))))))
    (pss_cons (ps_set (i := 9) sc_power.nd rfl (.inl rfl) (pe_call G_power_of (hr.mono (by decide)) (by rfl) T.f_power_of.g T.f_power_of.F.kp T.f_power_of.b .nil pass0 (pa_cons (pv 4) (pa_cons (pv 5) pa_nil))))
    (pss_cons (ps_set (i := 10) sc_power.nd rfl (.inr rfl) (pe_ifExp (pt_cmpR op_lt (pv 9) pe_int (nomark _)) (pe_un un_neg pe_int) pe_int))
    (pss_cons (ps_set (i := 11) sc_power.nd rfl (.inl rfl) (pe_call G_beginning_of (hr.mono (by decide)) (by rfl) T.f_beginning_of.g T.f_beginning_of.F.kp T.f_beginning_of.b .nil pass0 (pa_cons (pe_op op_mul (pv 10) (pv 9)) (pa_cons (pe_lc (own := [("number", 8)]) (g := gName 8) rfl sc_power.nd (pi_list (pv 6)) (blkOk_by (own := [("number", 8)]) (N := ["beginning", "k", "bottom", "tops", "first", "many", "found", "at", "number", "lead", "sign", "inverse"]) (sc := defScope s_power) (by decide +kernel)) (fun _ _ _ _ _ => (pg_name (i := 8) sc_power.nd rfl (.inl rfl) (hf := .inr rfl))) (fun _ _ _ _ _ => pts_nil) (fun _ _ _ _ _ => (pe_op op_mul (pe_op op_mul (pv 10) (pv 2)) (pv 8)))) pa_nil))))
    (pss_one (ps_ret (pe_call G_beginning_of (hr.mono (by decide)) (by rfl) T.f_beginning_of.g T.f_beginning_of.F.kp T.f_beginning_of.b .nil pass0 (pa_cons (pe_call G_power_of (hr.mono (by decide)) (by rfl) T.f_power_of.g T.f_power_of.F.kp T.f_power_of.b .nil pass0 (pa_cons (pe_ix ix_tup (pv 11) pe_int (fun _ _ => rfl)) (pa_cons (pe_un un_neg (pv 1)) pa_nil))) (pa_cons (pe_call G_series_power (hr.mono (by decide)) (by rfl) T.f_series_power.g T.f_series_power.F.kp T.f_series_power.b .nil pass0 (pa_cons (pe_ix ix_tup (pv 11) pe_int (fun _ _ => rfl)) (pa_cons (pe_un un_neg (pv 1)) pa_nil))) pa_nil))))))))))))))), ?_⟩
    -- need_beginnings((beginning,))
    refine ⟨_, rfl, by show 1 ≤ sizeLine; decide, fun c nc => ⟨c, _, rfl, SqT.of upd_same, ?_, fun H1 s1 => ?_⟩⟩
    · intro x hx
      obtain rfl := List.mem_singleton.mp hx
      exact ⟨_, dp_mono (same_new nc) _ _ hd, by rw [rw_len]; exact hN1, by rw [rw_len]; omega⟩
    have s2 := (same_new nc).trans s1
    generalize upd H c (.tup [.ref a]) = Hc at s1
    -- if not is_integer(k); bottom, tops = beginning; if k >= 0
    refine ⟨_, rfl, -1, rfl, true, rfl, iteF ?_⟩
    refine ⟨_, rfl, a, _, rfl, same_tup s2 hS, rfl, _, _, rfl, _, _, rfl, rfl, ?_⟩
    refine ⟨_, rfl, _, _, rfl, rfl, _, rfl, ?_⟩
    rw [decide_eq_false (show ¬ (0 : Int) ≤ -1 by decide)]
    refine iteF ?_
    -- if tops[0] == 0
    have hT : SqT K H t (rv N f) := hT
    have hT1 := same_tup s2 hT
    have hT0 : (rv N f)[0]? = some (.int 1) := by rw [rv_get f (by omega), f0]
    refine ⟨_, rfl, t, _, 0, _, rfl, rfl, hT1, atI_nat (j := 0) hT0, rfl, _, rfl, ?_⟩
    rw [decide_eq_false (show ¬ V.int 1 = V.int 0 from fun z => by cases z)]
    refine iteF ?_
    -- first, many = (tops[0], len(tops))
    refine ⟨_, rfl, t, _, 0, _, rfl, rfl, hT1, atI_nat (j := 0) hT0, _, rfl, t, _, rfl, .inr hT1, by show 2 ≤ sizeLine; decide, fun c2 nc2 => ⟨c2, _, rfl, SqT.of upd_same, rfl, _, _, rfl, _, _, rfl, rfl, ?_⟩⟩
    have s3 := same_new2 (o := .tup [.int 1, .int (((rv N f).length : Nat) : Int)]) s2 nc2
    generalize upd H1 c2 (.tup [.int 1, .int (((rv N f).length : Nat) : Int)]) = H2 at s3 ⊢
    -- found = [number * power_of(first, many - 1 - at) for at, number in enumerate(series_inverse(tops))]
    refine ⟨_, rfl, t, f, g, N, rfl, same_tup s3 hT, hN1, hN, bf, bg, f0, g0, hi, fun R H3 s4 eR => ⟨R, _, rfl, SqL.of eR, fun D nD => ?_⟩⟩
    refine lc_it (n := (rv N g).length) (walk_enum (K := K) (a := R) (xs := rv N g)) (fun i H' => Same H3 H' ∧ H' D = some (.lst (rv i g))) ⟨same_new nD, upd_same⟩ (fun i H' _ z => z.1.seq (SqL.of eR)) ?_ ?_
    · rintro i x H' H'' hil ⟨sm, eD⟩ ⟨T, u1, u2, rfl, nT, rfl, e1, e2⟩
      rw [rv_len] at hil
      have e2' : (rv N g)[i]? = some u2 := e2
      rw [rv_get g hil] at e2'
      cases e1
      cases e2'
      have eD2 : (upd H' T (.tup [.int ((i : Nat) : Int), .int (g i)])) D = some (.lst (rv i g)) := by
        rw [upd_ne (ne_of_none eD nT)]
        exact eD
      refine g_pair (SqT.of upd_same) ?_
      refine ⟨rfl, _, rfl, _, rfl, _, rfl, _, _, rfl, rfl, _, rfl, _, _, rfl, rfl, _, rfl, _, _, rfl, rfl, .inr ⟨by decide, by decide⟩, _, eD2, ?_, same_mut (same_new2 sm nT) nD, ?_⟩
      · rw [rv_len]
        exact small1000 (by omega)
      · rw [upd_same]
        show some (HO.lst (rv i g ++ [V.int (g i * 1)])) = _
        rw [Int.mul_one, rv_snoc]
    · rintro H4 ⟨sm, eD⟩
      rw [rv_len] at eD
      have s5 := (s3.trans s4).trans sm
      -- lead = power_of(first, many); sign = -1 if lead < 0 else 1
      refine ⟨_, rfl, _, rfl, _, rfl, ?_⟩
      refine ⟨_, rfl, _, _, rfl, rfl, _, rfl, ?_⟩
      rw [decide_eq_false (show ¬ (1 : Int) < 0 by decide)]
      refine iteF ?_
      -- inverse = beginning_of(sign * lead, [sign * bottom * number for number in found])
      refine ⟨_, rfl, _, rfl, _, _, rfl, rfl, .inl ⟨by decide, by decide⟩, ?_⟩
      refine ⟨_, rfl, D, rfl, ⟨_, SqL.of eD⟩, fun D2 nD2 => lc_list (K := K) (a := D) (xs := rv N g) (fun i H' => Same H4 H' ∧ H' D2 = some (.lst (rv i g))) ⟨same_new nD2, upd_same⟩ (fun i H' _ z => z.1.seq (SqL.of eD)) ?_ ?_⟩
      · rintro i x H' hi' ⟨sm2, eD2⟩
        have hil := (List.getElem?_eq_some_iff.mp hi').1
        rw [rv_len] at hil
        rw [rv_get g hil] at hi'
        cases hi'
        refine ⟨rfl, _, rfl, _, rfl, _, _, rfl, rfl, .inl ⟨by decide, by decide⟩, _, rfl, _, _, rfl, rfl, .inl ⟨by decide, by decide⟩, _, eD2, ?_, same_mut sm2 nD2, ?_⟩
        · rw [rv_len]
          exact small1000 (by omega)
        · rw [upd_same]
          show some (HO.lst (rv i g ++ [V.int (1 * 1 * g i)])) = _
          rw [Int.one_mul, Int.one_mul, rv_snoc]
      · rintro H5 ⟨sm2, eD2⟩
        rw [rv_len] at eD2
        refine ⟨D2, rw_ N g, rfl, SqL.of eD2, by rw [rw_len]; omega, fun v1 H6 s6 d1 => ?_⟩
        obtain ⟨a1, t1, rfl, hS1, hT1'⟩ := of_dpB d1
        have s7 := (s5.trans sm2).trans s6
        -- return beginning_of(power_of(inverse[0], -k), series_power(inverse[1], -k))
        refine ⟨_, rfl, a1, _, 0, _, rfl, rfl, hS1, atI_nat (j := 0) rfl, _, rfl, _, rfl, _, rfl, ?_⟩
        refine ⟨_, rfl, a1, _, 1, _, rfl, rfl, hS1, atI_nat (j := 1) rfl, _, rfl, _, rfl, t1, g, N, rfl, hT1', hN1, hN, bg, fun p H7 s8 e8 => ?_⟩
        exact ⟨p, rw_ N g, rfl, SqL.of e8, by rw [rw_len]; omega, fun v2 H8 s9 d2 => q v2 H8 ((s7.trans s8).trans s9) d2⟩
/-! ### spread, every -/
def sp_spread (K : PySem.W.Frag) : Sp := fun vs H Q _ => ∃ (v : V) (f : Nat → Int) (N d : Nat), vs = [v, .int (d : Int)] ∧ Dp K H v (dB (rw_ N f)) ∧ 1 ≤ N ∧ N ≤ 30 ∧ 1 ≤ d ∧ d ≤ 5 ∧ ∀ v' H', Same H H' → Dp K H' v' (dB (rw_ N (spr d f))) → Q v' H'
theorem ok_spread (T : Txt K mg) : FnOk P w K mg base CX0 4 T.f_spread.f T.f_spread.fd ["beginning", "d"] (sp_spread K) := by
  have G_need_beginnings := ok_need_beginnings (P := P) (w := w) (base := base) T
  have G_need_from := ok_need_from (P := P) (w := w) (base := base) T
  have G_beginning_of := ok_beginning_of (P := P) (w := w) (base := base) T
  refine T.f_spread.F.ok sc_spread (fun vs H Q E h => ?_) (fun cdv A outer s H vs Q E hr h => ?_)
  · obtain ⟨v, f, N, d, rfl, _⟩ := h
    rfl
  · obtain ⟨v, f, N, d, rfl, hd, hN1, hN, hd1, hd5, q⟩ := h
    obtain ⟨a, t, rfl, hS, hT⟩ := of_dpB hd
    refine ⟨_, (pss_cons (ps_expr (pe_call G_need_beginnings (hr.mono (by decide)) (by rfl) T.f_need_beginnings.g T.f_need_beginnings.F.kp T.f_need_beginnings.b .nil pass0 (pa_cons (pe_tup (pa_cons (pv 0) pa_nil)) pa_nil)))
    (pss_cons (ps_expr (pe_call G_need_from (hr.mono (by decide)) (by rfl) T.f_need_from.g T.f_need_from.F.kp T.f_need_from.b .nil pass0 (pa_cons (pv 1) (pa_cons pe_int pa_nil))))
    (pss_cons (ps_set (i := 2) sc_spread.nd rfl (.inr rfl) (pe_ix ix_tup (pv 0) pe_int (fun _ _ => rfl)))
    (pss_one (ps_ret (pe_call G_beginning_of (hr.mono (by decide)) (by rfl) T.f_beginning_of.g T.f_beginning_of.F.kp T.f_beginning_of.b .nil pass0 (pa_cons (pe_ix ix_tup (pv 0) pe_int (fun _ _ => rfl)) (pa_cons (pe_lc (own := [("n", 3)]) (g := gName 3) rfl sc_spread.nd (pi_range1 rfl T.m_range (pa_cons (pe_callB call_len_seq (by rfl) T.m_len (by decide +kernel) (pa_cons (pv 2) pa_nil)) pa_nil)) (blkOk_by (own := [("n", 3)]) (N := ["beginning", "d", "tops", "n"]) (sc := defScope s_spread) (by decide +kernel)) (fun _ _ _ _ _ => (pg_name (i := 3) sc_spread.nd rfl (.inl rfl) (hf := .inr rfl))) (fun _ _ _ _ _ => pts_nil) (fun _ _ _ _ _ => (pe_ifExp (pt_cmpR op_eq (pe_op op_mod (pv 3) (pv 1)) pe_int (nomark _)) (pe_ix (r := rIxT K) ix_tup (pv 2) (pe_op op_fdiv (pv 3) (pv 1)) (fun _ _ => rfl)) pe_int))) pa_nil)))))))), ?_⟩
    refine ⟨_, rfl, by show 1 ≤ sizeLine; decide, fun c nc => ⟨c, _, rfl, SqT.of upd_same, ?_, fun H1 s1 => ?_⟩⟩
    · intro x hx
      obtain rfl := List.mem_singleton.mp hx
      exact ⟨_, dp_mono (same_new nc) _ _ hd, by rw [rw_len]; exact hN1, by rw [rw_len]; omega⟩
    have s2 := (same_new nc).trans s1
    have hT : SqT K H t (rv N f) := hT
    have hT2 := same_tup s2 hT
    refine ⟨_, rfl, (d : Int), 1, rfl, by omega, ?_⟩
    refine ⟨_, rfl, a, _, 1, _, rfl, rfl, same_tup s2 hS, atI_nat (j := 1) rfl, ?_⟩
    refine ⟨_, rfl, a, _, 0, _, rfl, rfl, same_tup s2 hS, atI_nat (j := 0) rfl, ?_⟩
    refine ⟨_, rfl, t, _, rfl, .inr hT2, ?_⟩
    rw [rv_len]
    refine ⟨(N : Int), rfl, by omega, by omega, fun D nD => ?_⟩
    rw [show ((N : Int)).toNat = N by omega]
    refine lc_range (lo := 0) (n := N) (fun i H' => Same H1 H' ∧ H' D = some (.lst (rv i (spr d f)))) ⟨same_new nD, upd_same⟩ ?_ ?_
    · rintro i H' hi ⟨sm, eD⟩
      have ei : (0 : Int) + (i : Int) = (i : Int) := by omega
      have em : ((0 : Int) + (i : Int)) % (d : Int) = ((i % d : Nat) : Int) := by rw [ei]; omega
      have eq : ((0 : Int) + (i : Int)) / (d : Int) = ((i / d : Nat) : Int) := by rw [ei, Int.natCast_ediv]
      refine ⟨rfl, _, rfl, _, rfl, _, _, rfl, rfl, by show (0 : Int) < (d : Int); omega, rfl, _, rfl, ?_⟩
      have hidx : i / d < N := Nat.lt_of_le_of_lt (Nat.div_le_self _ _) hi
      by_cases hz : i % d = 0
      · rw [decide_eq_true (show V.int (((0 : Int) + (i : Int)) % (d : Int)) = V.int 0 by rw [em, hz]; rfl)]
        refine iteT ⟨_, rfl, _, rfl, _, rfl, _, _, rfl, rfl, ⟨by omega, by omega⟩, t, _, _, _, rfl, rfl, same_tup sm hT2, at_of (j := i / d) eq (rv_get f hidx), _, eD, ?_, same_mut sm nD, ?_⟩
        · rw [rv_len]
          exact small1000 (by omega)
        · have e : f (i / d) = spr d f i := by
            unfold spr
            rw [if_pos hz]
          rw [upd_same, e, rv_snoc]
      · rw [decide_eq_false (show ¬ V.int (((0 : Int) + (i : Int)) % (d : Int)) = V.int 0 by rw [em]; intro z; exact hz (by have := V.int.inj z; omega))]
        refine iteF ⟨_, eD, ?_, same_mut sm nD, ?_⟩
        · rw [rv_len]
          exact small1000 (by omega)
        · have e : 0 = spr d f i := by
            unfold spr
            rw [if_neg hz]
          rw [upd_same, e, rv_snoc]
    · rintro H' ⟨sm, eD⟩
      exact ⟨D, rw_ N (spr d f), rfl, SqL.of eD, by rw [rw_len]; omega, fun v2 H8 s9 d2 => q v2 H8 ((s2.trans sm).trans s9) d2⟩
/-- how many multiples of d lie below N -/
def cdiv (N d : Nat) : Nat := (N + d - 1) / d
def sp_every (K : PySem.W.Frag) : Sp := fun vs H Q _ => ∃ (v : V) (f : Nat → Int) (N d : Nat), vs = [v, .int (d : Int)] ∧ Dp K H v (dB (rw_ N f)) ∧ 1 ≤ N ∧ N ≤ 30 ∧ 1 ≤ d ∧ d ≤ 5 ∧ ∀ v' H', Same H H' → Dp K H' v' (dB (rw_ (cdiv N d) fun i => f (i * d))) → Q v' H'
theorem ok_every (T : Txt K mg) : FnOk P w K mg base CX0 4 T.f_every.f T.f_every.fd ["beginning", "d"] (sp_every K) := by
  have G_need_beginnings := ok_need_beginnings (P := P) (w := w) (base := base) T
  have G_need_from := ok_need_from (P := P) (w := w) (base := base) T
  have G_beginning_of := ok_beginning_of (P := P) (w := w) (base := base) T
  refine T.f_every.F.ok sc_every (fun vs H Q E h => ?_) (fun cdv A outer s H vs Q E hr h => ?_)
  · obtain ⟨v, f, N, d, rfl, _⟩ := h
    rfl
  · obtain ⟨v, f, N, d, rfl, hd, hN1, hN, hd1, hd5, q⟩ := h
    obtain ⟨a, t, rfl, hS, hT⟩ := of_dpB hd
    refine ⟨_, (pss_cons (ps_expr (pe_call G_need_beginnings (hr.mono (by decide)) (by rfl) T.f_need_beginnings.g T.f_need_beginnings.F.kp T.f_need_beginnings.b .nil pass0 (pa_cons (pe_tup (pa_cons (pv 0) pa_nil)) pa_nil)))
    (pss_cons (ps_expr (pe_call G_need_from (hr.mono (by decide)) (by rfl) T.f_need_from.g T.f_need_from.F.kp T.f_need_from.b .nil pass0 (pa_cons (pv 1) (pa_cons pe_int pa_nil))))
    (pss_cons (ps_set (i := 2) sc_every.nd rfl (.inr rfl) (pe_ix ix_tup (pv 0) pe_int (fun _ _ => rfl)))
    (pss_one (ps_ret (pe_call G_beginning_of (hr.mono (by decide)) (by rfl) T.f_beginning_of.g T.f_beginning_of.F.kp T.f_beginning_of.b .nil pass0 (pa_cons (pe_ix ix_tup (pv 0) pe_int (fun _ _ => rfl)) (pa_cons (pe_lc (own := [("n", 3)]) (g := gName 3) rfl sc_every.nd (pi_range3 rfl T.m_range (pa_cons pe_int (pa_cons (pe_callB call_len_seq (by rfl) T.m_len (by decide +kernel) (pa_cons (pv 2) pa_nil)) (pa_cons (pv 1) pa_nil)))) (blkOk_by (own := [("n", 3)]) (N := ["beginning", "d", "tops", "n"]) (sc := defScope s_every) (by decide +kernel)) (fun _ _ _ _ _ => (pg_name (i := 3) sc_every.nd rfl (.inl rfl) (hf := .inr rfl))) (fun _ _ _ _ _ => pts_nil) (fun _ _ _ _ _ => (pe_ix (r := rIxT K) ix_tup (pv 2) (pv 3) (fun _ _ => rfl)))) pa_nil)))))))), ?_⟩
    refine ⟨_, rfl, by show 1 ≤ sizeLine; decide, fun c nc => ⟨c, _, rfl, SqT.of upd_same, ?_, fun H1 s1 => ?_⟩⟩
    · intro x hx
      obtain rfl := List.mem_singleton.mp hx
      exact ⟨_, dp_mono (same_new nc) _ _ hd, by rw [rw_len]; exact hN1, by rw [rw_len]; omega⟩
    have s2 := (same_new nc).trans s1
    have hT : SqT K H t (rv N f) := hT
    have hT2 := same_tup s2 hT
    refine ⟨_, rfl, (d : Int), 1, rfl, by omega, ?_⟩
    refine ⟨_, rfl, a, _, 1, _, rfl, rfl, same_tup s2 hS, atI_nat (j := 1) rfl, ?_⟩
    refine ⟨_, rfl, a, _, 0, _, rfl, rfl, same_tup s2 hS, atI_nat (j := 0) rfl, ?_⟩
    refine ⟨_, rfl, t, _, rfl, .inr hT2, _, rfl, ?_⟩
    rw [rv_len]
    refine ⟨0, (N : Int), (d : Int), cdiv N d, rfl, ?_, fun D nD => ?_⟩
    · refine rgC_pos ⟨by decide, by decide⟩ ⟨by omega, by omega⟩ ⟨by omega, by omega⟩ (.inl ⟨by omega, ?_⟩)
      have e1 : cdiv N d = (N - 1) / d + 1 := by
        unfold cdiv
        rw [show N + d - 1 = (N - 1) + d by omega, Nat.add_div_right _ (by omega)]
      have e2 : ((N : Int) - 0 - 1) / (d : Int) = (((N - 1) / d : Nat) : Int) := by
        rw [Int.natCast_ediv]
        congr 1
        omega
      rw [e1, e2]
      rfl
    refine lc_it (n := cdiv N d) walk_rangeC (fun i H' => Same H1 H' ∧ H' D = some (.lst (rv i fun i => f (i * d)))) ⟨same_new nD, upd_same⟩ (fun _ _ _ _ => trivial) ?_ ?_
    · rintro i x H' H'' hi ⟨sm, eD⟩ ⟨rfl, rfl⟩
      have ei : (0 : Int) + ((i : Nat) : Int) * (d : Int) = ((i * d : Nat) : Int) := by
        rw [Int.natCast_mul]
        omega
      have hlt : i * d < N := by
        have h1 : (i + 1) * d ≤ cdiv N d * d := Nat.mul_le_mul hi (Nat.le_refl _)
        have h2 : cdiv N d * d ≤ N + d - 1 := Nat.div_mul_le_self _ _
        rw [Nat.succ_mul] at h1
        omega
      have hl : cdiv N d ≤ N + d - 1 := Nat.div_le_self _ _
      refine ⟨rfl, _, rfl, _, rfl, t, _, _, _, rfl, rfl, same_tup sm hT2, at_of (j := i * d) ei (rv_get f hlt), _, eD, ?_, same_mut sm nD, ?_⟩
      · rw [rv_len]
        exact small1000 (by omega)
      · rw [upd_same, rv_snoc i fun i => f (i * d)]
    · rintro H' ⟨sm, eD⟩
      have hl : cdiv N d ≤ N + d - 1 := Nat.div_le_self _ _
      exact ⟨D, rw_ (cdiv N d) fun i => f (i * d), rfl, SqL.of eD, by rw [rw_len]; omega, fun v2 H8 s9 d2 => q v2 H8 ((s2.trans sm).trans s9) d2⟩
end
end K17
/-! The law's deck and what is drawn from it; its own greatest common divisor. -/
namespace K17
open PySem PySem.Spec PyProof.Rows L2
/-- the deck -/
def dck (L : Addr) (m n : Int) : List (Key × V) := [(Sum.inr "left", .ref L), (Sum.inr "mixed", .int m), (Sum.inr "draws", .int n)]
def Deck (H : Hp) (D L : Addr) : Prop := ∃ (m n : Int) (ns : List Int), H D = some (.dK (dck L m n)) ∧ H L = some (.lst (ns.map V.int)) ∧ ns.length ≤ 100
/-- all but the deck stands -/
def Kp (D L : Addr) (H H' : Hp) : Prop := ∀ b o, b ≠ D → b ≠ L → H b = some o → H' b = some o
theorem Kp.refl {D L : Addr} (H : Hp) : Kp D L H H := fun _ _ _ _ e => e
theorem Kp.trans {D L : Addr} {H1 H2 H3 : Hp} (h1 : Kp D L H1 H2) (h2 : Kp D L H2 H3) : Kp D L H1 H3 := fun b o x y e => h2 b o x y (h1 b o x y e)
theorem Kp.of {D L : Addr} {H1 H2 : Hp} (h : Same H1 H2) : Kp D L H1 H2 := fun b o _ _ e => h b o e
theorem Deck.same {D L : Addr} {H1 H2 : Hp} (h : Deck H1 D L) (e : Same H1 H2) : Deck H2 D L := by
  obtain ⟨m, n, ns, h1, h2, h3⟩ := h
  exact ⟨m, n, ns, e _ _ h1, e _ _ h2, h3⟩
theorem Deck.ne {D L : Addr} {H : Hp} {m n : Int} {ys : List V} (h1 : H D = some (.dK (dck L m n))) (h2 : H L = some (.lst ys)) : D ≠ L := by
  rintro rfl
  rw [h1] at h2
  cases h2
section
variable {K : PySem.W.Frag} {D L a : Addr} {H H' : Hp} {xs : List V}
theorem sqT_kp (hD : Deck H D L) (k : Kp D L H H') (h : SqT K H a xs) : SqT K H' a xs := by
  obtain ⟨m, n, ns, h1, h2, h3⟩ := hD
  rcases h with (h | ⟨ob, h⟩) | h
  · exact .inl (.inl (k _ _ (ne_of h h1 (by intro z; cases z)) (ne_of h h2 (by intro z; cases z)) h))
  · exact .inl (.inr ⟨ob, k _ _ (ne_of h h1 (by intro z; cases z)) (ne_of h h2 (by intro z; cases z)) h⟩)
  · exact .inr h
theorem pairs_kp (hD : Deck H D L) (k : Kp D L H H') : ∀ {xs : List V} {ps : Pr}, DpAll K H xs (ps.map fun p => d2 p.1 p.2) → DpAll K H' xs (ps.map fun p => d2 p.1 p.2)
  | _, [], h => by
    cases h
    exact .nil
  | _, p :: ps, h => by
    cases h with
    | cons h1 h2 =>
      obtain ⟨b, rfl, hb⟩ := of_dp2 h1
      exact .cons (dp2 (sqT_kp hD k hb)) (pairs_kp hD k h2)
theorem dpP_kp {v : V} {ps : Pr} (hD : Deck H D L) (k : Kp D L H H') (h : Dp K H v (dP ps)) : Dp K H' v (dP ps) := by
  obtain ⟨a, xs, rfl, hS, hl, hA⟩ := of_dpP h
  exact dpP (sqT_kp hD k hS) (pairs_kp hD k hA)
theorem lay_ints : ∀ ns : List Int, PyData.canLayAll0 (dI ns) = true
  | [] => rfl
  | n :: ns => lay_ints ns
theorem depth_ints : ∀ ns : List Int, PyData.depthAll (dI ns) = 0
  | [] => rfl
  | n :: ns => by
    show max 0 (PyData.depthAll (dI ns)) = 0
    rw [depth_ints ns]
    rfl
theorem shaped_ints (ns : List Int) : SeqAt.shaped (.list (dI ns)) = true := by
  unfold SeqAt.shaped
  rw [show (PyData.list (dI ns)).canLay0 = PyData.canLayAll0 (dI ns) from rfl, lay_ints, show (PyData.list (dI ns)).depth = PyData.depthAll (dI ns) + 1 from rfl, depth_ints]
  rfl
end
section
variable {P : Program} {w : World} {K : PySem.W.Frag} {mg : Str → Option Value} {base : Heap}
/-! ### _law_deck -/
def sp_law_deck (K : PySem.W.Frag) : Sp := fun vs H Q _ => ∃ (a : Addr) (ns : List Int), vs = [.ref a] ∧ SqL K H a (ns.map V.int) ∧ ns.length ≤ 63 ∧ ∀ D L H', Same H H' → Deck H' D L → Q (.ref D) H'
theorem ok_law_deck (T : Txt K mg) : FnOk P w K mg base CX0 1 T.f_law_deck.f T.f_law_deck.fd ["_law_script"] (sp_law_deck K) := by
  refine T.f_law_deck.F.ok sc_law_deck (fun vs H Q E h => ?_) (fun cdv A outer s H vs Q E hr h => ?_)
  · obtain ⟨a, ns, rfl, _⟩ := h
    rfl
  · obtain ⟨a, ns, rfl, hS, hl, q⟩ := h
    refine ⟨_, (pss_cons (ps_set (i := 1) sc_law_deck.nd rfl (.inl rfl) pe_int)
    (pss_cons (ps_for PassesOwn.never rfl (pi_list (pe_slice sl_list (pv 0) po_none (po_some pe_int))) (pg_name (i := 2) sc_law_deck.nd rfl (.inl rfl))
      (pss_one (ps_set (i := 1) sc_law_deck.nd rfl (.inl rfl) (pe_op op_mod (pe_callTy call_int1 (by rfl) T.m_int (by decide +kernel) (pa_cons (pe_op op_add (pe_op op_add (pe_op op_mul (pv 1) pe_int) (pe_op op_mod (pe_callTy call_int1 (by rfl) T.m_int (by decide +kernel) (pa_cons (pv 2) pa_nil)) pe_int)) pe_int) pa_nil)) pe_int))))
    (pss_one (ps_ret (pe_disp (pps_cons pe_str (pe_revL (pe_callTy call_list_of (by rfl) T.m_list (by decide +kernel) (pa_cons (pe_slice sl_list (pv 0) po_none (po_some pe_int)) pa_nil))) (pps_cons pe_str (pv 1) (pps_cons pe_str pe_int pps_nil))) (by rfl) (by rfl) (fun z => by cases z) (by decide)))))), ?_⟩
    refine ⟨_, rfl, ?_⟩
    -- the loop over _law_script[:63]
    refine ⟨_, rfl, a, _, rfl, hS, fun p np => ?_⟩
    have ec : cutV (ns.map V.int) none (some 63) = (ns.take 63).map V.int := by
      show cutV _ none (some ((63 : Nat) : Int)) = _
      rw [cut_take _ 63, List.map_take]
    rw [ec]
    have s1 : Same H (upd H p (.lst ((ns.take 63).map V.int))) := same_new np
    have ep : (upd H p (.lst ((ns.take 63).map V.int))) p = some (.lst ((ns.take 63).map V.int)) := upd_same
    generalize (upd H p (.lst ((ns.take 63).map V.int))) = H1 at s1 ep ⊢
    refine ⟨p, rfl, ⟨_, SqL.of ep⟩, for_list (K := K) (a := p) (xs := (ns.take 63).map V.int) (fun i σ H' => ∃ (m : Int) (y : Option V), σ = [some (.ref a), some (.int m), y] ∧ H' = H1) ⟨_, none, rfl, rfl⟩ (fun i σ H' _ z => by obtain ⟨m, y, _, rfl⟩ := z; exact SqL.of ep) ?_ ?_⟩
    · rintro i x σ H' hi ⟨m, y, rfl, rfl⟩
      rw [List.getElem?_map] at hi
      cases hn : (ns.take 63)[i]? with
      | none =>
        rw [hn] at hi
        cases hi
      | some c =>
        rw [hn] at hi
        cases hi
        refine ⟨_, rfl, _, _, rfl, rfl, .inr ⟨by decide, by decide⟩, ?_⟩
        refine ⟨_, rfl, .inl ⟨c, rfl, ?_⟩⟩
        refine ⟨_, _, rfl, rfl, by show (0 : Int) < 2147483629; decide, _, _, rfl, rfl, ?_⟩
        refine ⟨_, _, rfl, rfl, .inl ⟨_, rfl, ?_⟩⟩
        exact ⟨_, _, rfl, rfl, by show (0 : Int) < 2147483587; decide, _, _, rfl, rfl⟩
    · rintro σ H' ⟨m, y, rfl, rfl⟩
      -- the display
      intro D nD
      have s2 : Same H (upd H' D (.dK [])) := same_new2 s1 nD
      have eD : (upd H' D (.dK [])) D = some (.dK []) := upd_same
      have s3 : Same H' (upd H' D (.dK [])) := same_new nD
      refine ⟨_, rfl, _, rfl, a, _, rfl, s2.seq hS, fun p1 np1 => ?_⟩
      rw [ec]
      have eD1 : (upd (upd H' D (.dK [])) p1 (.lst ((ns.take 63).map V.int))) D = some (.dK []) := same_new np1 _ _ eD
      have s4 := same_new2 (o := .lst ((ns.take 63).map V.int)) s2 np1
      have ep1 : (upd (upd H' D (.dK [])) p1 (.lst ((ns.take 63).map V.int))) p1 = some (.lst ((ns.take 63).map V.int)) := upd_same
      generalize (upd (upd H' D (.dK [])) p1 (.lst ((ns.take 63).map V.int))) = H2 at eD1 s4 ep1 ⊢
      refine ⟨p1, _, rfl, .inl (SqL.of ep1), fun p2 np2 => ?_⟩
      have eD2 := same_new (o := .lst ((ns.take 63).map V.int)) np2 _ _ eD1
      have s5 := same_new2 (o := .lst ((ns.take 63).map V.int)) s4 np2
      have ep2 : (upd H2 p2 (.lst ((ns.take 63).map V.int))) p2 = some (.lst ((ns.take 63).map V.int)) := upd_same
      generalize (upd H2 p2 (.lst ((ns.take 63).map V.int))) = H3 at eD2 s5 ep2 ⊢
      refine ⟨p2, _, rfl, SqL.of ep2, fun L nL => ?_⟩
      have eD3 := same_new (o := .lst ((ns.take 63).map V.int).reverse) nL _ _ eD2
      have s6 := same_new2 (o := .lst ((ns.take 63).map V.int).reverse) s5 nL
      have eL : (upd H3 L (.lst ((ns.take 63).map V.int).reverse)) L = some (.lst ((ns.take 63).map V.int).reverse) := upd_same
      generalize (upd H3 L (.lst ((ns.take 63).map V.int).reverse)) = H4 at eD3 s6 eL ⊢
      refine ⟨_, rfl, eD3, dck L m 0, rfl, by show 3 ≤ 15; decide, ?_⟩
      have hnD : H D = none := s1.free nD
      refine q D L _ (same_mut s6 hnD) ⟨m, 0, (ns.take 63).reverse, ?_, ?_, ?_⟩
      · rw [upd_same]
        rfl
      · rw [upd_ne (ne_of eL eD3 (by intro z; cases z)), eL, List.map_reverse]
      · rw [List.length_reverse, List.length_take]
        omega
/-! ### _law_draw -/
theorem dck_left (L : Addr) (m n : Int) : valV (dck L m n) (Sum.inr "left") = some (.ref L) := by rfl
theorem dck_mixed (L : Addr) (m n : Int) : valV (dck L m n) (Sum.inr "mixed") = some (.int m) := by rfl
theorem dck_draws (L : Addr) (m n : Int) : valV (dck L m n) (Sum.inr "draws") = some (.int n) := by rfl
theorem dck_put (L : Addr) (m n k : Int) : putK (dck L m n) (Sum.inr "draws") (.int k) = dck L m k := by rfl
def sp_law_draw : Sp := fun vs H Q _ => ∃ (D L : Addr) (many : Int), vs = [.ref D, .int many] ∧ Deck H D L ∧ 1 ≤ many ∧ many ≤ 1000 ∧ ∀ r H', 0 ≤ r → r < many → Kp D L H H' → Deck H' D L → Q (.int r) H'
theorem ok_law_draw (T : Txt K mg) : FnOk P w K mg base CX0 1 T.f_law_draw.f T.f_law_draw.fd ["_law_deck_here", "_law_many"] sp_law_draw := by
  refine T.f_law_draw.F.ok sc_law_draw (fun vs H Q E h => ?_) (fun cdv A outer s H vs Q E hr h => ?_)
  · obtain ⟨D, L, many, rfl, _⟩ := h
    rfl
  · obtain ⟨D, L, many, rfl, ⟨m, n, ns, eD, eL, hl⟩, hm1, hm2, q⟩ := h
    have hm0 : 0 < many := by omega
    have hne : D ≠ L := Deck.ne eD eL
    refine ⟨_, (pss_cons (ps_dput (hu_of hr) (pv 0) pe_str (pe_op op_add (pe_dget (hu_of hr) (pv 0) pe_str (fun _ _ => rfl)) pe_int) rfl)
    (pss_cons (ps_set (i := 2) sc_law_draw.nd rfl (.inl rfl) (pe_op op_add (pe_dget (hu_of hr) (pv 0) pe_str (fun _ _ => rfl)) (pe_op op_mul pe_int (pe_dget (hu_of hr) (pv 0) pe_str (fun _ _ => rfl)))))
    (pss_cons (ps_if (pt_cmpR (op_neD hr.units) (pe_dget (hu_of hr) (pv 0) pe_str (fun _ _ => rfl)) (pe_lst pa_nil) (nomark _))
      (pss_cons (ps_set (i := 3) sc_law_draw.nd rfl (.inl rfl) (pe_bm0 PySem.F.plainAttrs_list PySem.F.slot_list_pop PySem.F.type_list_pop mt_pop (pe_dget (hu_of hr) (pv 0) pe_str (fun _ _ => rfl))))
      (pss_cons (ps_if (pt_cmpR op_ge (pv 3) (pe_op op_pow pe_int pe_int) (nomark _))
        (pss_cons (ps_expr (pe_bm PySem.F.plainAttrs_list PySem.F.slot_list_append PySem.F.type_list_append mt_append (pe_dget (hu_of hr) (pv 0) pe_str (fun _ _ => rfl)) (pa_cons (pe_op op_fdiv (pv 3) (pe_callB (call_max2 rfl) (by rfl) T.m_max (by decide +kernel) (pa_cons pe_int (pa_cons (pv 1) pa_nil)))) pa_nil)))
        (pss_one (ps_ret (pe_op op_mod (pe_callTy call_int1 (by rfl) T.m_int (by decide +kernel) (pa_cons (pv 3) pa_nil)) (pv 1)))))
        pss_nil)
      (pss_one (ps_set (i := 2) sc_law_draw.nd rfl (.inl rfl) (pe_op op_add (pv 2) (pe_op op_mod (pe_callTy call_int1 (by rfl) T.m_int (by decide +kernel) (pa_cons (pv 3) pa_nil)) pe_int))))))
      pss_nil)
    (pss_cons (ps_set (i := 2) sc_law_draw.nd rfl (.inl rfl) (pe_op op_mod (pe_callTy call_int1 (by rfl) T.m_int (by decide +kernel) (pa_cons (pe_op op_add (pe_op op_mul (pv 2) pe_int) pe_int) pa_nil)) pe_int))
    (pss_cons (ps_set (i := 2) sc_law_draw.nd rfl (.inl rfl) (pe_op op_mod (pe_callTy call_int1 (by rfl) T.m_int (by decide +kernel) (pa_cons (pe_op op_add (pe_op op_add (pe_op op_mul (pv 2) (pv 2)) (pe_op op_mul pe_int (pe_dget (hu_of hr) (pv 0) pe_str (fun _ _ => rfl)))) pe_int) pa_nil)) pe_int))
    (pss_cons (ps_set (i := 2) sc_law_draw.nd rfl (.inl rfl) (pe_op op_mod (pe_callTy call_int1 (by rfl) T.m_int (by decide +kernel) (pa_cons (pe_op op_mul (pv 2) pe_int) pa_nil)) pe_int))
    (pss_one (ps_ret (pe_op op_mod (pe_callTy call_int1 (by rfl) T.m_int (by decide +kernel) (pa_cons (pe_op op_fdiv (pv 2) pe_int) pa_nil)) (pv 1)))))))))), ?_⟩
    -- draws
    have g0 : DGet H D (.str "draws") (some (.int n)) := DGet.k (k := Sum.inr "draws") eD
    refine ⟨_, rfl, D, _, rfl, g0, _, _, rfl, rfl, _, rfl, D, _, rfl, DPut.k (k := Sum.inr "draws") eD (by show 3 < sizeLine; decide), ?_⟩
    rw [dck_put]
    have k0 : Kp D L H (upd H D (.dK (dck L m (n + 1)))) := fun b o h1 _ e => by
      rw [upd_ne h1]
      exact e
    have eD0 : (upd H D (.dK (dck L m (n + 1)))) D = some (.dK (dck L m (n + 1))) := upd_same
    have eL0 : (upd H D (.dK (dck L m (n + 1)))) L = some (.lst (ns.map V.int)) := by
      rw [upd_ne hne.symm]
      exact eL
    generalize (upd H D (.dK (dck L m (n + 1)))) = H0 at k0 eD0 eL0 ⊢
    -- figure
    have gM : DGet H0 D (.str "mixed") (some (.int m)) := DGet.k (k := Sum.inr "mixed") eD0
    have gN : DGet H0 D (.str "draws") (some (.int (n + 1))) := DGet.k (k := Sum.inr "draws") eD0
    have gL : DGet H0 D (.str "left") (some (.ref L)) := DGet.k (k := Sum.inr "left") eD0
    refine ⟨_, rfl, D, _, rfl, gM, _, rfl, D, _, rfl, gN, _, _, rfl, rfl, .inl ⟨by decide, by decide⟩, _, _, rfl, rfl, ?_⟩
    -- if left != []
    refine ⟨_, rfl, D, _, rfl, gL, by show 0 ≤ sizeLine; decide, fun c nc => ?_⟩
    have k1 : Kp D L H (upd H0 c (.lst [])) := k0.trans (.of (same_new nc))
    have eD1 := same_new (o := .lst []) nc _ _ eD0
    have eL1 := same_new (o := .lst []) nc _ _ eL0
    have ec : (upd H0 c (.lst [])) c = some (.lst []) := upd_same
    generalize (upd H0 c (.lst [])) = H1 at k1 eD1 eL1 ec ⊢
    refine ⟨.list (dI ns), .list [], .lst (SqL.of eL1) (dpI ns), .lst (SqL.of ec) .nil, shaped_ints ns, by decide, _, rfl, ?_⟩
    have gL1 : DGet H1 D (.str "left") (some (.ref L)) := DGet.k (k := Sum.inr "left") eD1
    have gD : DGet H1 D (.str "draws") (some (.int (n + 1))) := DGet.k (k := Sum.inr "draws") eD1
    by_cases hn : ns = []
    · subst hn
      refine iteF ?_
      have d1 : Deck H1 D L := ⟨m, n + 1, [], eD1, eL1, hl⟩
      refine ⟨_, rfl, _, _, rfl, rfl, .inr ⟨by decide, by decide⟩, _, _, rfl, rfl, .inl ⟨_, rfl, ?_⟩⟩
      refine ⟨_, _, rfl, rfl, by show (0 : Int) < 2147483563; decide, ?_⟩
      generalize hf : ((m + 60013 * (n + 1)) * 40014 + 91) % 2147483563 = f2
      have f0 : 0 ≤ f2 := by omega
      have f1 : f2 < 2147483563 := by omega
      refine ⟨_, rfl, _, rfl, _, _, rfl, rfl, .inl ⟨by omega, by omega⟩, _, rfl, D, _, rfl, (gD : DGet H1 D (.str "draws") (some (.int (n + 1)))), ?_⟩
      refine ⟨_, _, rfl, rfl, .inl ⟨by decide, by decide⟩, _, _, rfl, rfl, _, _, rfl, rfl, .inl ⟨_, rfl, ?_⟩⟩
      refine ⟨_, _, rfl, rfl, by show (0 : Int) < 2147483399; decide, ?_⟩
      refine ⟨_, rfl, _, _, rfl, rfl, .inr ⟨by decide, by decide⟩, .inl ⟨_, rfl, ?_⟩⟩
      refine ⟨_, _, rfl, rfl, by show (0 : Int) < 2147483647; decide, ?_⟩
      refine ⟨_, rfl, _, _, rfl, rfl, ⟨by decide, by decide⟩, .inl ⟨_, rfl, _, rfl, _, _, rfl, rfl, hm0, ?_⟩⟩
      exact q _ _ (Int.emod_nonneg _ (by omega)) (Int.emod_lt_of_pos _ hm0) k1 d1
    · have hlen : 0 < ns.length := List.length_pos_iff.mpr hn
      have hnb : (!PyData.eqv (.list (dI ns)) (.list [])) = true := by
        cases ns with
        | nil => exact absurd rfl hn
        | cons a r => rfl
      rw [hnb]
      refine iteT ?_
      -- cell = left.pop()
      obtain ⟨cell, hc⟩ : ∃ cell, ns[ns.length - 1]? = some cell := ⟨_, List.getElem?_eq_getElem (by omega)⟩
      refine ⟨_, rfl, D, _, rfl, gL1, .inl ⟨rfl, _, SqL.of eL1⟩, L, _, .int cell, rfl, rfl, eL1, ?_, ?_⟩
      · rw [List.length_map, List.getElem?_map, hc]
        rfl
      have k2 : Kp D L H (upd H1 L (.lst (ns.map V.int).dropLast)) := fun b o h1 h2 e => by
        rw [upd_ne h2]
        exact k1 b o h1 h2 e
      have eD2 : (upd H1 L (.lst (ns.map V.int).dropLast)) D = some (.dK (dck L m (n + 1))) := by
        rw [upd_ne hne]
        exact eD1
      have eL2 : (upd H1 L (.lst (ns.map V.int).dropLast)) L = some (.lst (ns.dropLast.map V.int)) := by
        rw [upd_same, List.map_dropLast]
      have hdl : ns.dropLast.length < 100 := by
        rw [List.length_dropLast]
        omega
      clear eL1 eD1 k1 gL1 gD ec
      generalize (upd H1 L (.lst (ns.map V.int).dropLast)) = H1 at k2 eD2 eL2 ⊢
      have gL1 : DGet H1 D (.str "left") (some (.ref L)) := DGet.k (k := Sum.inr "left") eD2
      have gD : DGet H1 D (.str "draws") (some (.int (n + 1))) := DGet.k (k := Sum.inr "draws") eD2
      -- if cell >= 10 ** 18
      refine ⟨_, rfl, _, _, rfl, rfl, ⟨by decide, by decide, by decide⟩, _, _, rfl, rfl, _, rfl, ?_⟩
      refine ite2 (fun _ => ?_) (fun _ => ?_)
      · have hmx : (0 : Int) < (if many > 2 then many else 2) ∧ (if many > 2 then many else 2) < 1073741824 := by
          split <;> omega
        refine ⟨_, rfl, D, _, rfl, gL1, .inl ⟨rfl, _, SqL.of eL2⟩, _, rfl, _, rfl, _, _, rfl, _, _, rfl, rfl, hmx, L, _, _, rfl, rfl, eL2, by rw [List.length_map]; exact small1000 (by omega), ?_⟩
        refine ⟨_, rfl, .inl ⟨_, rfl, _, rfl, _, _, rfl, rfl, hm0, ?_⟩⟩
        refine q _ _ (Int.emod_nonneg _ (by omega)) (Int.emod_lt_of_pos _ hm0) (fun b o h1 h2 e => ?_) ⟨m, n + 1, ns.dropLast ++ [cell / (if many > 2 then many else 2)], ?_, ?_, ?_⟩
        · rw [upd_ne h2]
          exact k2 b o h1 h2 e
        · rw [upd_ne hne]
          exact eD2
        · rw [upd_same, List.map_append]
          rfl
        · rw [List.length_append]
          exact hdl
      · refine ⟨_, rfl, _, rfl, .inl ⟨_, rfl, _, _, rfl, rfl, by show (0 : Int) < 2147483629; decide, _, _, rfl, rfl, ?_⟩⟩
        have d1 : Deck H1 D L := ⟨m, n + 1, ns.dropLast, eD2, eL2, Nat.le_of_lt hdl⟩
        have k1 := k2
        refine ⟨_, rfl, _, _, rfl, rfl, .inr ⟨by decide, by decide⟩, _, _, rfl, rfl, .inl ⟨_, rfl, ?_⟩⟩
        refine ⟨_, _, rfl, rfl, by show (0 : Int) < 2147483563; decide, ?_⟩
        generalize hf : (((m + 60013 * (n + 1)) + cell % 2147483629) * 40014 + 91) % 2147483563 = f2
        have f0 : 0 ≤ f2 := by omega
        have f1 : f2 < 2147483563 := by omega
        refine ⟨_, rfl, _, rfl, _, _, rfl, rfl, .inl ⟨by omega, by omega⟩, _, rfl, D, _, rfl, (gD : DGet H1 D (.str "draws") (some (.int (n + 1)))), ?_⟩
        refine ⟨_, _, rfl, rfl, .inl ⟨by decide, by decide⟩, _, _, rfl, rfl, _, _, rfl, rfl, .inl ⟨_, rfl, ?_⟩⟩
        refine ⟨_, _, rfl, rfl, by show (0 : Int) < 2147483399; decide, ?_⟩
        refine ⟨_, rfl, _, _, rfl, rfl, .inr ⟨by decide, by decide⟩, .inl ⟨_, rfl, ?_⟩⟩
        refine ⟨_, _, rfl, rfl, by show (0 : Int) < 2147483647; decide, ?_⟩
        refine ⟨_, rfl, _, _, rfl, rfl, ⟨by decide, by decide⟩, .inl ⟨_, rfl, _, rfl, _, _, rfl, rfl, hm0, ?_⟩⟩
        exact q _ _ (Int.emod_nonneg _ (by omega)) (Int.emod_lt_of_pos _ hm0) k1 d1
/-! ### _law_pick -/
def sp_law_pick (K : PySem.W.Frag) : Sp := fun vs H Q _ => ∃ (D L a : Addr) (ns : List Int), vs = [.ref D, .ref a] ∧ Deck H D L ∧ SqT K H a (ns.map V.int) ∧ 1 ≤ ns.length ∧ ns.length ≤ 100 ∧ ∀ x H', x ∈ ns → Kp D L H H' → Deck H' D L → Q (.int x) H'
theorem ok_law_pick (T : Txt K mg) : FnOk P w K mg base CX0 2 T.f_law_pick.f T.f_law_pick.fd ["_law_deck_here", "_law_some"] (sp_law_pick K) := by
  have G__law_draw := ok_law_draw (P := P) (w := w) (base := base) T
  refine T.f_law_pick.F.ok sc_law_pick (fun vs H Q E h => ?_) (fun cdv A outer s H vs Q E hr h => ?_)
  · obtain ⟨D, L, a, ns, rfl, _⟩ := h
    rfl
  · obtain ⟨D, L, a, ns, rfl, hD, hS, h1, h2, q⟩ := h
    refine ⟨_, (pss_one (ps_ret (pe_ix ix_tup (pv 1) (pe_call G__law_draw (hr.mono (by decide)) (by rfl) T.f_law_draw.g T.f_law_draw.F.kp T.f_law_draw.b .nil pass0 (pa_cons (pv 0) (pa_cons (pe_callB call_len_seq (by rfl) T.m_len (by decide +kernel) (pa_cons (pv 1) pa_nil)) pa_nil))) (fun _ _ => rfl)))), ?_⟩
    refine ⟨_, rfl, _, rfl, _, rfl, a, _, rfl, .inr hS, D, L, _, rfl, hD, ?_, ?_, fun r H1 r0 r1 k1 d1 => ?_⟩
    · rw [List.length_map]
      omega
    · rw [List.length_map]
      omega
    rw [List.length_map] at r1
    obtain ⟨j, rfl⟩ : ∃ j : Nat, r = (j : Int) := ⟨r.toNat, by omega⟩
    have hj : j < ns.length := by omega
    refine ⟨a, _, _, .int ns[j], rfl, rfl, sqT_kp hD k1 hS, atI_nat (j := j) ?_, q _ _ (List.getElem_mem hj) k1 d1⟩
    rw [List.getElem?_map, List.getElem?_eq_getElem hj]
    rfl
/-! ### _law_divisor, _law_least -/
def sp_law_divisor : Sp := fun vs H Q _ => ∃ a b : Int, vs = [.int a, .int b] ∧ Q (.int ((Nat.gcd a.natAbs b.natAbs : Nat) : Int)) H
theorem abs_if (a : Int) : (if a < 0 then -a else a) = ((a.natAbs : Nat) : Int) := by
  split <;> omega
theorem ok_law_divisor (T : Txt K mg) : FnOk P w K mg base CX0 1 T.f_law_divisor.f T.f_law_divisor.fd ["_law_one", "_law_other"] sp_law_divisor := by
  refine T.f_law_divisor.F.ok sc_law_divisor (fun vs H Q E h => ?_) (fun cdv A outer s H vs Q E hr h => ?_)
  · obtain ⟨a, b, rfl, _⟩ := h
    rfl
  · obtain ⟨a, b, rfl, q⟩ := h
    refine ⟨_, (pss_cons (ps_par (i := 0) (j := 1) rfl sc_law_divisor.nd rfl rfl (by decide) rfl rfl (pa_cons (pe_callB call_abs (by rfl) T.m_abs (by decide +kernel) (pa_cons (pv 0) pa_nil)) (pa_cons (pe_callB call_abs (by rfl) T.m_abs (by decide +kernel) (pa_cons (pv 1) pa_nil)) pa_nil)) (by rfl))
    (pss_cons (ps_while PassesOwn.never (pt_cmpR op_gt (pv 1) pe_int (nomark _))
      (pss_one (ps_par (i := 0) (j := 1) rfl sc_law_divisor.nd rfl rfl (by decide) rfl rfl (pa_cons (pv 1) (pa_cons (pe_op op_mod (pe_callTy call_int1 (by rfl) T.m_int (by decide +kernel) (pa_cons (pv 0) pa_nil)) (pv 1)) pa_nil)) (by rfl))))
    (pss_one (ps_ret (pv 0))))), ?_⟩
    refine ⟨_, rfl, a, rfl, _, rfl, b, rfl, _, _, rfl, ?_⟩
    rw [abs_if, abs_if]
    refine ⟨fun k σ H' => ∃ x y : Nat, σ = [some (.int (x : Int)), some (.int (y : Int))] ∧ H' = H ∧ Nat.gcd x y = Nat.gcd a.natAbs b.natAbs ∧ k = y, ⟨_, a.natAbs, b.natAbs, rfl, rfl, rfl, rfl⟩, ?_⟩
    rintro k σ H' ⟨x, y, rfl, rfl, hg, rfl⟩
    refine ⟨_, rfl, _, _, rfl, rfl, _, rfl, ?_⟩
    by_cases hy : 0 < k
    · rw [decide_eq_true (show (0 : Int) < (k : Int) by omega)]
      refine iteT ⟨fun σ H2 => σ = [some (.int (k : Int)), some (.int ((x % k : Nat) : Int))] ∧ H2 = H', ?_, ?_⟩
      · rintro σ H2 ⟨rfl, rfl⟩
        refine ⟨x % k, Nat.mod_lt _ hy, k, x % k, rfl, rfl, ?_, rfl⟩
        rw [← hg, Nat.gcd_comm x k, Nat.gcd_rec k x, Nat.gcd_comm]
      · refine ⟨_, rfl, _, rfl, .inl ⟨_, rfl, _, rfl, _, _, rfl, rfl, by show (0 : Int) < (k : Int); omega, _, _, rfl, ?_, rfl⟩⟩
        rw [Int.natCast_emod]
        rfl
    · rw [decide_eq_false (show ¬ (0 : Int) < (k : Int) by omega)]
      obtain rfl : k = 0 := by omega
      rw [Nat.gcd_zero_right] at hg
      subst hg
      exact iteF ⟨_, rfl, q⟩
def sp_law_least (K : PySem.W.Frag) : Sp := fun vs H Q _ => ∃ a b : Int, vs = [.int a, .int b] ∧ 0 < b ∧ b < 1000000 ∧ ∀ v H', Same H H' → Dp K H' v (d2 (nrm a b).1 (nrm a b).2) → Q v H'
theorem ok_law_least (T : Txt K mg) : FnOk P w K mg base CX0 2 T.f_law_least.f T.f_law_least.fd ["_law_top", "_law_bottom"] (sp_law_least K) := by
  have G__law_divisor := ok_law_divisor (P := P) (w := w) (base := base) T
  refine T.f_law_least.F.ok sc_law_least (fun vs H Q E h => ?_) (fun cdv A outer s H vs Q E hr h => ?_)
  · obtain ⟨a, b, rfl, _⟩ := h
    rfl
  · obtain ⟨a, b, rfl, h1, h2, q⟩ := h
    have g1 := gcd_pos (a := a) h1
    have g2 := gcd_le (a := a) h1
    refine ⟨_, (pss_cons (ps_set (i := 2) sc_law_least.nd rfl (.inl rfl) (pe_callB (call_max2 rfl) (by rfl) T.m_max (by decide +kernel) (pa_cons pe_int (pa_cons (pe_call G__law_divisor (hr.mono (by decide)) (by rfl) T.f_law_divisor.g T.f_law_divisor.F.kp T.f_law_divisor.b .nil pass0 (pa_cons (pv 0) (pa_cons (pv 1) pa_nil))) pa_nil))))
    (pss_one (ps_ret (pe_tup (pa_cons (pe_op op_fdiv (pv 0) (pv 2)) (pa_cons (pe_op op_fdiv (pv 1) (pv 2)) pa_nil)))))), ?_⟩
    refine ⟨_, rfl, _, rfl, a, b, rfl, 1, _, rfl, ?_⟩
    have e : (if ((Nat.gcd a.natAbs b.natAbs : Nat) : Int) > 1 then ((Nat.gcd a.natAbs b.natAbs : Nat) : Int) else 1) = ((Nat.gcd a.natAbs b.natAbs : Nat) : Int) := by
      split <;> omega
    rw [e]
    refine ⟨_, rfl, _, rfl, _, _, rfl, rfl, ⟨g1, by omega⟩, _, rfl, _, rfl, _, _, rfl, rfl, ⟨g1, by omega⟩, by show 2 ≤ sizeLine; decide, fun p hp => ?_⟩
    exact q _ _ (same_new hp) (dp2 (SqT.of upd_same))
end
end K17
/-! Plain mathematics of the laws: fractions in lowest terms, terms of joined, undone, spread products; how long the shown text may be. -/
namespace K17
open PySem PySem.Spec PyProof.Rows L2
/-! ### fractions -/
theorem nrm_scale {k a b : Int} (hk : 0 < k) : nrm (k * a) (k * b) = nrm a b := by
  unfold nrm
  have e : ((Nat.gcd (k * a).natAbs (k * b).natAbs : Nat) : Int) = k * ((Nat.gcd a.natAbs b.natAbs : Nat) : Int) := by
    rw [Int.natAbs_mul, Int.natAbs_mul, Nat.gcd_mul_left, Int.natCast_mul]
    congr 1
    omega
  rw [e, Int.mul_ediv_mul_of_pos _ _ hk, Int.mul_ediv_mul_of_pos _ _ hk]
theorem nrm_eq {a b a' b' : Int} (hb : 0 < b) (hb' : 0 < b') (h : a * b' = a' * b) : nrm a b = nrm a' b' := by
  rw [← nrm_scale (a := a) (b := b) hb', ← nrm_scale (a := a') (b := b') hb, Int.mul_comm b' a, Int.mul_comm b a', h, Int.mul_comm b' b]
theorem nrm_cross {a b : Int} (hb : 0 < b) : (nrm a b).1 * b = a * (nrm a b).2 ∧ 0 < (nrm a b).2 ∧ (nrm a b).2 ≤ b := by
  have g1 := gcd_pos (a := a) hb
  have d1 : ((Nat.gcd a.natAbs b.natAbs : Nat) : Int) ∣ a := Int.ofNat_dvd_left.mpr (Nat.gcd_dvd_left _ _)
  have d2 : ((Nat.gcd a.natAbs b.natAbs : Nat) : Int) ∣ b := Int.ofNat_dvd_left.mpr (Nat.gcd_dvd_right _ _)
  unfold nrm
  generalize ((Nat.gcd a.natAbs b.natAbs : Nat) : Int) = g at g1 d1 d2 ⊢
  obtain ⟨x, rfl⟩ := d1
  obtain ⟨y, rfl⟩ := d2
  show (g * x / g) * (g * y) = g * x * (g * y / g) ∧ 0 < g * y / g ∧ g * y / g ≤ g * y
  rw [Int.mul_ediv_cancel_left _ (by omega), Int.mul_ediv_cancel_left _ (by omega)]
  have hy : 0 < y := Int.pos_of_mul_pos_right hb g1
  refine ⟨by rw [← Int.mul_assoc, Int.mul_comm x g], hy, ?_⟩
  have := Int.mul_le_mul_of_nonneg_right (show 1 ≤ g by omega) (Int.le_of_lt hy)
  omega
theorem nrm_add {x y b : Int} (hb : 0 < b) : nrm ((nrm x b).1 * (nrm y b).2 + (nrm y b).1 * (nrm x b).2) ((nrm x b).2 * (nrm y b).2) = nrm (x + y) b := by
  obtain ⟨h1, h2, _⟩ := nrm_cross (a := x) hb
  obtain ⟨h3, h4, _⟩ := nrm_cross (a := y) hb
  refine nrm_eq (Int.mul_pos h2 h4) hb ?_
  generalize (nrm x b).1 = s0 at h1 ⊢
  generalize (nrm x b).2 = s1 at h1 h2 ⊢
  generalize (nrm y b).1 = p0 at h3 ⊢
  generalize (nrm y b).2 = p1 at h3 h4 ⊢
  rw [Int.add_mul, Int.add_mul, Int.mul_right_comm s0, h1, Int.mul_right_comm p0, h3, Int.mul_assoc, Int.mul_assoc, Int.mul_comm p1 s1]
theorem nrm_times {x b t : Int} (hb : 0 < b) : nrm ((nrm x b).1 * t) (nrm x b).2 = nrm (t * x) b := by
  obtain ⟨h1, h2, _⟩ := nrm_cross (a := x) hb
  refine nrm_eq h2 hb ?_
  rw [Int.mul_right_comm, h1, Int.mul_right_comm, Int.mul_comm x t]
/-! ### logarithmic terms of products -/
def ph (j : Nat) (d : Int) : Int := if j = 0 then 0 else if j % d.toNat = 0 then d * sg (j / d.toNat) else 0
theorem lp_ph (p : Int × Int) (j : Nat) : lp p j = ph j p.1 * p.2 := by
  unfold lp ph
  split
  · omega
  · split
    · rw [Int.mul_comm p.2 p.1, Int.mul_right_comm]
    · omega
theorem cs_lin (ps : Pr) (j : Nat) : cs ps j = lin (ph j) ps := by
  unfold cs lin
  congr 1
  exact List.map_congr_left fun p _ => lp_ph p j
theorem cs_joined {ps qs J : Pr} (h : IsJ ps qs J) (j : Nat) : cs J j = cs ps j + cs qs j := by
  rw [cs_lin, cs_lin, cs_lin, h.lin]
theorem tm_joined {ps qs J : Pr} (h1 : ∀ p ∈ ps, 1 ≤ p.1) (h2 : ∀ p ∈ qs, 1 ≤ p.1) (h3 : ∀ p ∈ J, 1 ≤ p.1) (h : IsJ ps qs J) (n : Nat) : cv (tm (cs ps)) (tm (cs qs)) n = tm (cs J) n :=
  LD.uniq ((LD.terms h1 (n + 1)).mul (LD.terms h2 (n + 1))) ((LD.terms h3 (n + 1)).congr (fun _ _ => rfl) fun j _ => cs_joined h j) (by show cs ps 0 + cs qs 0 = 0; rw [cs_zero, cs_zero]; rfl) (by rw [cv_zero, tm_zero, tm_zero, tm_zero]; rfl) n (by omega)
theorem lin_neg (φ : Int → Int) : ∀ ps : Pr, lin φ (neg ps) = - lin φ ps
  | [] => rfl
  | p :: ps => by
    show lin φ ((p.1, -p.2) :: neg ps) = _
    rw [lin_cons, lin_cons, lin_neg φ ps]
    show φ p.1 * -p.2 + -lin φ ps = _
    rw [Int.mul_neg]
    omega
theorem lo_neg {ps : Pr} (h : ∀ p ∈ ps, 1 ≤ p.1) : ∀ p ∈ neg ps, 1 ≤ p.1 := by
  intro p hp
  obtain ⟨q, hq, rfl⟩ := List.mem_map.mp hp
  exact h q hq
theorem tm_undone {ps : Pr} (h1 : ∀ p ∈ ps, 1 ≤ p.1) (n : Nat) : cv (tm (cs ps)) (tm (cs (neg ps))) n = one n :=
  LD.uniq ((LD.terms h1 (n + 1)).mul (LD.terms (lo_neg h1) (n + 1))) ((LD.one (n + 1)).congr (fun _ _ => rfl) fun j _ => by
    show (0 : Int) = cs ps j + cs (neg ps) j
    rw [cs_lin, cs_lin, lin_neg]
    omega) (by show cs ps 0 + cs (neg ps) 0 = 0; rw [cs_zero, cs_zero]; rfl) (by rw [cv_zero, tm_zero, tm_zero]; rfl) n (by omega)
theorem lp_sprd {t : Nat} (ht : 0 < t) (p : Int × Int) (n : Nat) : lp ((t : Int) * p.1, p.2) n = (t : Int) * spr t (lp p) n := by
  have e : ((t : Int) * p.1).toNat = t * p.1.toNat := by
    rcases Int.le_total 0 p.1 with h | h
    · obtain ⟨k, hk⟩ : ∃ k : Nat, p.1 = (k : Int) := ⟨p.1.toNat, by omega⟩
      rw [hk, ← Int.natCast_mul]
      rfl
    · rw [Int.toNat_of_nonpos h, Int.toNat_of_nonpos (Int.mul_nonpos_of_nonneg_of_nonpos (by omega) h)]
      rfl
  unfold spr lp
  show (if n = 0 then (0 : Int) else if n % ((t : Int) * p.1).toNat = 0 then p.2 * ((t : Int) * p.1) * sg (n / ((t : Int) * p.1).toNat) else 0) = _
  rw [e]
  by_cases h0 : n = 0
  · subst h0
    rw [if_pos rfl, if_pos (Nat.zero_mod _), Nat.zero_div, if_pos rfl, Int.mul_zero]
  · rw [if_neg h0]
    by_cases h1 : n % t = 0
    · obtain ⟨m, rfl⟩ := Nat.dvd_of_mod_eq_zero h1
      have hm : m ≠ 0 := by
        rintro rfl
        exact h0 (Nat.mul_zero _)
      rw [if_pos h1, Nat.mul_div_cancel_left m ht, if_neg hm, Nat.mul_mod_mul_left, Nat.mul_div_mul_left m p.1.toNat ht]
      by_cases h2 : m % p.1.toNat = 0
      · rw [if_pos (by rw [h2, Nat.mul_zero]), if_pos h2, Int.mul_left_comm p.2, Int.mul_assoc, Int.mul_assoc]
      · rw [if_neg h2, if_neg, Int.mul_zero]
        intro z
        rcases Nat.mul_eq_zero.mp z with z | z
        · omega
        · exact h2 z
    · rw [if_neg h1, if_neg, Int.mul_zero]
      intro z
      exact h1 (Nat.mod_eq_zero_of_dvd (Nat.dvd_trans (Nat.dvd_mul_right t p.1.toNat) (Nat.dvd_of_mod_eq_zero z)))
theorem cs_sprd {t : Nat} (ht : 0 < t) : ∀ (ps : Pr) (n : Nat), cs (sprd (t : Int) ps) n = (t : Int) * spr t (cs ps) n
  | [], n => by
    show (0 : Int) = _
    unfold spr
    split
    · rw [cs_nil]
      omega
    · omega
  | p :: ps, n => by
    show cs (((t : Int) * p.1, p.2) :: sprd (t : Int) ps) n = _
    rw [cs_cons, cs_sprd ht ps n, lp_sprd ht]
    unfold spr
    split
    · rw [cs_cons, Int.mul_add]
    · omega
theorem lo_sprd {t : Nat} (ht : 0 < t) {ps : Pr} (h : ∀ p ∈ ps, 1 ≤ p.1) : ∀ p ∈ sprd (t : Int) ps, 1 ≤ p.1 := by
  intro p hp
  obtain ⟨q, hq, rfl⟩ := List.mem_map.mp hp
  have := Int.mul_pos (show (0 : Int) < t by omega) (show (0 : Int) < q.1 by have := h q hq; omega)
  show (1 : Int) ≤ t * q.1
  omega
theorem tm_sprd {t : Nat} (ht : 0 < t) {ps : Pr} (h : ∀ p ∈ ps, 1 ≤ p.1) (n : Nat) : tm (cs (sprd (t : Int) ps)) n = spr t (tm (cs ps)) n :=
  LD.uniq (LD.terms (lo_sprd ht h) (n + 1)) ((LD.spr t ht fun M => LD.terms h M).congr (fun _ _ => rfl) fun j _ => (cs_sprd ht ps j).symm) (cs_zero _) (by rw [tm_zero, spr_zero, tm_zero]) n (by omega)
theorem spr_at {t : Nat} (ht : 0 < t) (f : Nat → Int) (i : Nat) : spr t f (i * t) = f i := by
  unfold spr
  rw [if_pos (Nat.mul_mod_left i t), Nat.mul_div_cancel i ht]
/-! ### starts and weights -/
theorem ssum_lin (ps : Pr) : ssum ps = lin (fun d => d) ps := rfl
theorem psum2_lin (ps : Pr) : psum2 ps = lin (fun _ => 1) ps := by
  unfold psum2 lin
  congr 1
  exact List.map_congr_left fun p _ => (Int.one_mul _).symm
theorem ssum_joined {ps qs J : Pr} (h : IsJ ps qs J) : ssum J = ssum ps + ssum qs := by
  rw [ssum_lin, ssum_lin, ssum_lin, h.lin]
theorem psum2_joined {ps qs J : Pr} (h : IsJ ps qs J) : psum2 J = psum2 ps + psum2 qs := by
  rw [psum2_lin, psum2_lin, psum2_lin, h.lin]
theorem ssum_sprd (t : Int) : ∀ ps : Pr, ssum (sprd t ps) = t * ssum ps
  | [] => by
    show (0 : Int) = t * 0
    omega
  | p :: ps => by
    show ssum ((t * p.1, p.2) :: sprd t ps) = _
    rw [ssum_lin, ssum_lin, lin_cons, lin_cons, ← ssum_lin, ← ssum_lin, ssum_sprd t ps, Int.mul_add, Int.mul_assoc]
theorem psum2_sprd (t : Int) (ps : Pr) : psum2 (sprd t ps) = psum2 ps := by
  unfold psum2 sprd
  rw [List.map_map]
  rfl
/-! ### products made of products -/
theorem IsP.neg {ps : Pr} (h : IsP ps) : IsP (neg ps) := by
  refine ⟨?_, lo_neg h.lo, fun p hp => ?_, fun p hp => ?_, fun p hp => ?_, ?_⟩
  · unfold K17.neg
    rw [List.pairwise_map]
    exact h.asc
  · obtain ⟨q, hq, rfl⟩ := List.mem_map.mp hp
    exact h.hi q hq
  · obtain ⟨q, hq, rfl⟩ := List.mem_map.mp hp
    have := h.nz q hq
    show -q.2 ≠ 0
    omega
  · obtain ⟨q, hq, rfl⟩ := List.mem_map.mp hp
    have := h.pw q hq
    show -30 ≤ -q.2 ∧ -q.2 ≤ 30
    omega
  · unfold K17.neg
    rw [List.length_map]
    exact h.len
theorem neg_neg_ : ∀ ps : Pr, neg (neg ps) = ps
  | [] => rfl
  | p :: ps => by
    show (p.1, - -p.2) :: neg (neg ps) = _
    rw [neg_neg_ ps, Int.neg_neg]
theorem IsP.sprd {ps : Pr} (h : IsP ps) {t : Nat} (ht : 0 < t) (hh : ∀ p ∈ ps, p.1 * (t : Int) ≤ 400) : IsP (sprd (t : Int) ps) := by
  refine ⟨?_, lo_sprd ht h.lo, fun p hp => ?_, fun p hp => ?_, fun p hp => ?_, ?_⟩
  · unfold K17.sprd
    rw [List.pairwise_map]
    exact h.asc.imp fun {a b} z => Int.mul_lt_mul_of_pos_left z (by omega)
  · obtain ⟨q, hq, rfl⟩ := List.mem_map.mp hp
    have := hh q hq
    rw [Int.mul_comm] at this
    exact this
  · obtain ⟨q, hq, rfl⟩ := List.mem_map.mp hp
    exact h.nz q hq
  · obtain ⟨q, hq, rfl⟩ := List.mem_map.mp hp
    exact h.pw q hq
  · unfold K17.sprd
    rw [List.length_map]
    exact h.len
theorem coef_mem : ∀ {l : Pr} {d : Int}, coef l d ≠ 0 → ∃ p ∈ l, p.1 = d
  | [], d, h => absurd rfl h
  | p :: l, d, h => by
    by_cases e : p.1 = d
    · exact ⟨p, List.mem_cons_self, e⟩
    · have h' : coef l d ≠ 0 := by
        intro z
        apply h
        unfold coef at z ⊢
        rw [lin_cons, z, if_neg e]
        omega
      obtain ⟨q, hq, eq⟩ := coef_mem h'
      exact ⟨q, List.mem_cons_of_mem _ hq, eq⟩
theorem IsJ.isP {ps qs J : Pr} (hp : IsP ps) (hq : IsP qs) (h : IsJ ps qs J) (hl : J.length ≤ 8) (hw : ∀ p ∈ J, -30 ≤ p.2 ∧ p.2 ≤ 30) : IsP J := by
  have k : ∀ p ∈ J, (∃ q ∈ ps, q.1 = p.1) ∨ (∃ q ∈ qs, q.1 = p.1) := by
    intro p hm
    obtain ⟨q, h1, h2⟩ := coef_mem (l := ps ++ qs) (d := p.1) (by
      have := (h.mem p.1 p.2).mp hm
      rw [← this.1]
      exact this.2)
    rcases List.mem_append.mp h1 with h1 | h1
    · exact .inl ⟨q, h1, h2⟩
    · exact .inr ⟨q, h1, h2⟩
  refine ⟨h.asc, fun p hm => ?_, fun p hm => ?_, fun p hm => ((h.mem p.1 p.2).mp hm).2, hw, hl⟩
  · rcases k p hm with ⟨q, h1, h2⟩ | ⟨q, h1, h2⟩
    · rw [← h2]
      exact hp.lo q h1
    · rw [← h2]
      exact hq.lo q h1
  · rcases k p hm with ⟨q, h1, h2⟩ | ⟨q, h1, h2⟩
    · rw [← h2]
      exact hp.hi q h1
    · rw [← h2]
      exact hq.hi q h1
theorem IsJ.undone (ps : Pr) : IsJ ps (neg ps) [] := by
  refine ⟨List.Pairwise.nil, fun d c => ⟨fun z => absurd z List.not_mem_nil, fun ⟨h1, h2⟩ => ?_⟩, fun φ => ?_⟩
  · refine absurd ?_ h2
    rw [h1]
    unfold coef
    rw [lin_append, lin_neg]
    omega
  · rw [lin_neg, lin_nil]
    omega
theorem IsP.nil : IsP [] := ⟨List.Pairwise.nil, fun _ z => absurd z List.not_mem_nil, fun _ z => absurd z List.not_mem_nil, fun _ z => absurd z List.not_mem_nil, fun _ z => absurd z List.not_mem_nil, Nat.zero_le _⟩
theorem IsP.bd {ps : Pr} (h : IsP ps) : Bd (tm (cs ps)) 812 := tm_Bd h.lo h.pw h.len
/-! ### what is shown -/
structure Okd (d : PyData) (n e : Nat) : Prop where
  s : d.showable = true
  h : d.hasDict = false
  e : d.depth ≤ e
  l : d.shown.length ≤ n
structure OkA (ds : List PyData) (n e : Nat) : Prop where
  s : PyData.showableAll ds = true
  h : PyData.hasDictAll ds = false
  e : PyData.depthAll ds ≤ e
  l : ((PyData.shownAll ds).map (·.length)).sum + 2 * ds.length ≤ n
theorem shownAll_len : ∀ ds : List PyData, (PyData.shownAll ds).length = ds.length
  | [] => rfl
  | d :: ds => by
    show (PyData.shownAll ds).length + 1 = _
    rw [shownAll_len ds]
    rfl
theorem OkA.nil (e : Nat) : OkA [] 0 e := ⟨rfl, rfl, Nat.zero_le _, Nat.le_refl _⟩
theorem OkA.cons {d : PyData} {ds : List PyData} {n m e : Nat} (h : Okd d n e) (t : OkA ds m e) : OkA (d :: ds) (n + 2 + m) e := by
  refine ⟨?_, ?_, ?_, ?_⟩
  · show (d.showable && PyData.showableAll ds) = true
    rw [h.s, t.s]
    rfl
  · show (d.hasDict || PyData.hasDictAll ds) = false
    rw [h.h, t.h]
    rfl
  · show max d.depth (PyData.depthAll ds) ≤ e
    have := h.e
    have := t.e
    omega
  · have h1 := h.l
    have h2 := t.l
    show (d.shown.length :: (PyData.shownAll ds).map (·.length)).sum + 2 * (ds.length + 1) ≤ _
    rw [List.sum_cons]
    omega
theorem OkA.lst {ds : List PyData} {n e : Nat} (t : OkA ds n e) : Okd (.list ds) (n + 3) (e + 1) := by
  refine ⟨t.s, t.h, Nat.succ_le_succ t.e, ?_⟩
  have h := listText_len_le (PyData.shownAll ds)
  rw [shownAll_len] at h
  have := t.l
  show (listText (PyData.shownAll ds)).length ≤ _
  omega
theorem OkA.tup {ds : List PyData} {n e : Nat} (t : OkA ds n e) : Okd (.tuple ds) (n + 3) (e + 1) := by
  refine ⟨t.s, t.h, Nat.succ_le_succ t.e, ?_⟩
  have h := tupleText_len_le (PyData.shownAll ds)
  rw [shownAll_len] at h
  have := t.l
  show (tupleText (PyData.shownAll ds)).length ≤ _
  omega
theorem Okd.int {i : Int} (h : i.natAbs ≤ 2 ^ 900) (e : Nat) : Okd (.int i) 1001 e := by
  have hl : i.natAbs.log2 < 1000 := PySem.Flt.log2_lt_of (by decide) (Nat.lt_of_le_of_lt h (Nat.pow_lt_pow_right (by decide) (by decide)))
  refine ⟨?_, rfl, Nat.zero_le _, ?_⟩
  · show decide (i.natAbs.log2 < 1920) = true
    exact decide_eq_true (by omega)
  · have := int_text_length_le (a := i) (k := 1000) (by decide) hl
    show (Str.ofString (toString i)).length ≤ _
    rw [PySem.ofString_length]
    exact this
theorem Okd.mono {d : PyData} {n m e f : Nat} (h : Okd d n e) (hn : n ≤ m) (he : e ≤ f) : Okd d m f := ⟨h.s, h.h, Nat.le_trans h.e he, Nat.le_trans h.l hn⟩
theorem OkA.ints (e : Nat) : ∀ {ns : List Int}, (∀ n ∈ ns, n.natAbs ≤ 2 ^ 900) → OkA (dI ns) (1003 * ns.length) e
  | [], _ => OkA.nil e
  | n :: ns, h => by
    have := OkA.cons (Okd.int (h n List.mem_cons_self) e) (OkA.ints e fun m hm => h m (List.mem_cons_of_mem _ hm))
    rw [List.length_cons, Nat.mul_succ]
    rw [show 1003 * ns.length + 1003 = 1001 + 2 + 1003 * ns.length by omega]
    exact this
theorem small900 {i : Int} (h : i.natAbs ≤ 1000000) : i.natAbs ≤ 2 ^ 900 := Nat.le_trans h (Nat.le_trans (show 1000000 ≤ 2 ^ 20 by decide) (Nat.pow_le_pow_right (by decide) (by decide)))
theorem Okd.d2 {x y : Int} (h1 : x.natAbs ≤ 1000000) (h2 : y.natAbs ≤ 1000000) : Okd (K17.d2 x y) 2010 1 :=
  (OkA.cons (Okd.int (small900 h1) 0) (OkA.cons (Okd.int (small900 h2) 0) (OkA.nil 0))).tup.mono (by decide) (Nat.le_refl _)
theorem Okd.dB {f : Nat → Int} {N : Nat} (h : Bd f 900) (hN : N ≤ 30) : Okd (K17.dB (rw_ N f)) 40000 2 := by
  have h1 : ∀ n ∈ rw_ N f, n.natAbs ≤ 2 ^ 900 := by
    intro n hn
    obtain ⟨i, hi, rfl⟩ := List.mem_map.mp hn
    exact h i (by have := List.mem_range.mp hi; omega)
  have a := (OkA.ints 0 h1).tup
  rw [rw_len] at a
  have := (OkA.cons (Okd.int (i := 1) (by decide +kernel) 1) (OkA.cons a (OkA.nil 1))).tup
  exact this.mono (by omega) (Nat.le_refl _)
theorem OkA.pairs : ∀ {ps : Pr}, (∀ p ∈ ps, 1 ≤ p.1) → (∀ p ∈ ps, p.1 ≤ 400) → (∀ p ∈ ps, -30 ≤ p.2 ∧ p.2 ≤ 30) → OkA (ps.map fun p => K17.d2 p.1 p.2) (2012 * ps.length) 1
  | [], _, _, _ => OkA.nil 1
  | p :: ps, h0, h1, h2 => by
    have a0 := h0 p List.mem_cons_self
    have a1 := h1 p List.mem_cons_self
    have a2 := h2 p List.mem_cons_self
    have := OkA.cons (Okd.d2 (x := p.1) (y := p.2) (by omega) (by omega)) (OkA.pairs (fun q hq => h0 q (List.mem_cons_of_mem _ hq)) (fun q hq => h1 q (List.mem_cons_of_mem _ hq)) fun q hq => h2 q (List.mem_cons_of_mem _ hq))
    rw [List.length_cons, Nat.mul_succ]
    rw [show 2012 * ps.length + 2012 = 2010 + 2 + 2012 * ps.length by omega]
    exact this
theorem Okd.dP {ps : Pr} (h : IsP ps) : Okd (K17.dP ps) 40000 2 := by
  have := h.len
  exact (OkA.pairs h.lo h.hi h.pw).tup.mono (by omega) (Nat.le_refl _)
theorem Okd.list2 {d e : PyData} (h1 : Okd d 40000 2) (h2 : Okd e 40000 2) : Okd (.list [d, e]) 200000 3 := (OkA.cons h1 (OkA.cons h2 (OkA.nil 2))).lst.mono (by decide) (Nat.le_refl _)
theorem Okd.list3 {d e f : PyData} (h1 : Okd d 40000 2) (h2 : Okd e 40000 2) (h3 : Okd f 40000 2) : Okd (.list [d, e, f]) 200000 3 := (OkA.cons h1 (OkA.cons h2 (OkA.cons h3 (OkA.nil 2)))).lst.mono (by decide) (Nat.le_refl _)
theorem Okd.list4 {d e f g : PyData} (h1 : Okd d 40000 2) (h2 : Okd e 40000 2) (h3 : Okd f 40000 2) (h4 : Okd g 40000 2) : Okd (.list [d, e, f, g]) 200000 3 := (OkA.cons h1 (OkA.cons h2 (OkA.cons h3 (OkA.cons h4 (OkA.nil 2))))).lst.mono (by decide) (Nat.le_refl _)
/-! ### sizes of starts and weights -/
theorem sum_abs (B : Int) (f : Int × Int → Int) : ∀ (ps : Pr), (∀ p ∈ ps, -B ≤ f p ∧ f p ≤ B) → 0 ≤ B → -(B * ps.length) ≤ (ps.map f).sum ∧ (ps.map f).sum ≤ B * ps.length
  | [], _, _ => by simp
  | p :: ps, h, hB => by
    have h1 := h p List.mem_cons_self
    have h2 := sum_abs B f ps (fun q hq => h q (List.mem_cons_of_mem _ hq)) hB
    rw [List.map_cons, List.sum_cons, List.length_cons, Int.natCast_succ, Int.mul_add, Int.mul_one]
    omega
theorem nrm_small {a b : Int} (hb : 0 < b) (hb2 : b ≤ 1000000) (ha : a.natAbs ≤ 1000000) : (nrm a b).1.natAbs ≤ 1000000 ∧ (nrm a b).2.natAbs ≤ 1000000 := by
  obtain ⟨h1, h2, h3⟩ := nrm_cross (a := a) hb
  refine ⟨?_, by omega⟩
  unfold nrm
  exact Nat.le_trans (Int.natAbs_ediv_le_natAbs _ _) ha
theorem IsP.ssum {ps : Pr} (h : IsP ps) : (ssum ps).natAbs ≤ 96000 := by
  have h1 := sum_abs 12000 (fun p => p.1 * p.2) ps (fun p hp => by
    have a := h.lo p hp
    have b := h.hi p hp
    have c := h.pw p hp
    have u : p.1 * p.2 ≤ p.1 * 30 := Int.mul_le_mul_of_nonneg_left c.2 (by omega)
    have v : p.1 * -30 ≤ p.1 * p.2 := Int.mul_le_mul_of_nonneg_left c.1 (by omega)
    show -12000 ≤ p.1 * p.2 ∧ p.1 * p.2 ≤ 12000
    omega) (by decide)
  have := h.len
  unfold K17.ssum
  omega
theorem IsP.psum {ps : Pr} (h : IsP ps) : (psum2 ps).natAbs ≤ 240 := by
  have h1 := sum_abs 30 (fun p => p.2) ps (fun p hp => h.pw p hp) (by decide)
  have := h.len
  unfold K17.psum2
  omega
theorem Okd.start {ps : Pr} (h : IsP ps) : Okd (K17.d2 (nrm (ssum ps) 24).1 (nrm (ssum ps) 24).2) 40000 2 := by
  have hs := h.ssum
  have := nrm_small (a := ssum ps) (b := 24) (by decide) (by decide) (by omega)
  exact (Okd.d2 this.1 this.2).mono (by decide) (by decide)
theorem Okd.weight {ps : Pr} (h : IsP ps) : Okd (K17.d2 (nrm (psum2 ps) 2).1 (nrm (psum2 ps) 2).2) 40000 2 := by
  have hs := h.psum
  have := nrm_small (a := psum2 ps) (b := 2) (by decide) (by decide) (by omega)
  exact (Okd.d2 this.1 this.2).mono (by decide) (by decide)
theorem rw_take {N M : Nat} (h : M ≤ N) (f : Nat → Int) : (rw_ N f).take M = rw_ M f := by
  unfold rw_
  rw [← List.map_take, List.take_range, Nat.min_eq_left h]
end K17
/-! Plain mathematics of one factor multiplied in, as the law does it. -/
namespace K17
open PySem PySem.Spec PyProof.Rows L2
/-- the places and coefficients of one factor that lie below N, of its first k -/
def sm (s : Nat) (b : Sr) (N : Nat) : Nat → Pr
  | 0 => []
  | k + 1 => sm s b N k ++ (if s * k < N ∧ b k ≠ 0 then [(((s * k : Nat) : Int), b k)] else [])
theorem sm_len (s : Nat) (b : Sr) (N : Nat) : ∀ k, (sm s b N k).length ≤ k
  | 0 => Nat.le_refl _
  | k + 1 => by
    have := sm_len s b N k
    show (sm s b N k ++ _).length ≤ _
    rw [List.length_append]
    split
    · exact Nat.succ_le_succ this
    · exact Nat.le_succ_of_le this
theorem sm_mem {s : Nat} {b : Sr} {N : Nat} : ∀ {k : Nat} {p : Int × Int}, p ∈ sm s b N k → ∃ i : Nat, i < k ∧ s * i < N ∧ p = (((s * i : Nat) : Int), b i)
  | 0, _, h => absurd h List.not_mem_nil
  | k + 1, p, h => by
    rcases List.mem_append.mp (show p ∈ sm s b N k ++ _ from h) with h | h
    · obtain ⟨i, h1, h2, h3⟩ := sm_mem h
      exact ⟨i, by omega, h2, h3⟩
    · split at h
      · rename_i hc
        exact ⟨k, by omega, hc.1, List.mem_singleton.mp h⟩
      · exact absurd h List.not_mem_nil
/-- what the pairs give to the term n -/
def fl (G : Sr) (n : Nat) (l : Pr) : List Int := (l.filter fun p => decide (p.1 ≤ (n : Int))).map fun p => p.2 * G (n - p.1.toNat)
theorem fl_append (G : Sr) (n : Nat) (l l' : Pr) : fl G n (l ++ l') = fl G n l ++ fl G n l' := by
  unfold fl
  rw [List.filter_append, List.map_append]
theorem fl_one (G : Sr) (n : Nat) (p : Int × Int) : fl G n [p] = if p.1 ≤ (n : Int) then [p.2 * G (n - p.1.toNat)] else [] := by
  unfold fl
  rw [List.filter_cons]
  by_cases h : p.1 ≤ (n : Int)
  · rw [if_pos h, if_pos (decide_eq_true h)]
    rfl
  · rw [if_neg h, if_neg (by rw [decide_eq_false h]; decide)]
    rfl
theorem fl_take (G : Sr) (n : Nat) {l : Pr} {j : Nat} {p : Int × Int} (h : l[j]? = some p) : fl G n (l.take (j + 1)) = fl G n (l.take j) ++ (if p.1 ≤ (n : Int) then [p.2 * G (n - p.1.toNat)] else []) := by
  rw [List.take_add_one, h, fl_append]
  show _ ++ fl G n [p] = _
  rw [fl_one]
theorem fl_len (G : Sr) (n : Nat) (l : Pr) : (fl G n l).length ≤ l.length := by
  unfold fl
  rw [List.length_map]
  exact List.length_filter_le _ _
theorem cvp_zeros (f g : Nat → Int) (i n : Nat) : ∀ k, (∀ j, j < k → f (i + j) = 0) → cvp f g (i + k) n = cvp f g i n
  | 0, _ => rfl
  | k + 1, h => by
    rw [← Nat.add_assoc, cvp_skip f g (h k (by omega)) n, cvp_zeros f g i n k fun j hj => h j (by omega)]
theorem fl_sum {s : Nat} (hs : 0 < s) (b G : Sr) {N n : Nat} (hn : n < N) : ∀ k, (fl G n (sm s b N k)).sum = cvp (spr s b) G (s * k) n
  | 0 => by
    rw [Nat.mul_zero]
    rfl
  | k + 1 => by
    have e1 : cvp (spr s b) G (s * (k + 1)) n = cvp (spr s b) G (s * k + 1) n := by
      rw [show s * (k + 1) = (s * k + 1) + (s - 1) by rw [Nat.mul_succ]; omega]
      refine cvp_zeros _ _ _ _ _ fun j hj => ?_
      unfold spr
      rw [if_neg]
      rw [Nat.add_assoc, Nat.mul_add_mod, Nat.mod_eq_of_lt (by omega)]
      omega
    have e2 : spr s b (s * k) = b k := by
      rw [Nat.mul_comm]
      exact spr_at hs b k
    rw [e1, cvp_succ, ← fl_sum hs b G hn k, e2]
    show (fl G n (sm s b N k ++ _)).sum = _
    rw [fl_append, List.sum_append]
    congr 1
    by_cases h1 : s * k < N ∧ b k ≠ 0
    · rw [if_pos h1, fl_one]
      by_cases h2 : s * k ≤ n
      · rw [if_pos h2, if_pos (show ((s * k : Nat) : Int) ≤ (n : Int) by omega)]
        show [b k * G (n - (((s * k : Nat) : Int)).toNat)].sum = _
        rw [Int.toNat_natCast]
        simp
      · rw [if_neg h2, if_neg (show ¬ ((s * k : Nat) : Int) ≤ (n : Int) by omega)]
        rfl
    · rw [if_neg h1]
      show (0 : Int) = _
      by_cases h2 : s * k ≤ n
      · have : b k = 0 := Classical.byContradiction fun z => h1 ⟨by omega, z⟩
        rw [if_pos h2, this, Int.zero_mul]
      · rw [if_neg h2]
theorem fl_all {s : Nat} (hs : 0 < s) (r : Int) (G : Sr) {N n : Nat} (hn : n < N) : (fl G n (sm s (bn r) N N)).sum = mul1 G s r n := by
  rw [fl_sum hs _ _ hn, cvp_all _ _ (N := s * N) (Nat.lt_of_lt_of_le hn (Nat.le_mul_of_pos_left N hs)), cv_comm]
  rfl
theorem mulAll_snoc {N : Nat} : ∀ (ps : Pr) (p : Int × Int) (F : Sr), mulAll N (ps ++ [p]) F = mulK p.1.toNat p.2 (sizes p.1.toNat N) (mulAll N ps F)
  | [], _, _ => rfl
  | q :: ps, p, F => by
    show mulAll N (ps ++ [p]) _ = _
    rw [mulAll_snoc ps p]
    rfl
theorem mulAll_take {N i : Nat} {ps : Pr} {p : Int × Int} (h : ps[i]? = some p) (F : Sr) : mulAll N (ps.take (i + 1)) F = mulK p.1.toNat p.2 (sizes p.1.toNat N) (mulAll N (ps.take i) F) := by
  rw [List.take_add_one, h]
  exact mulAll_snoc _ _ _
theorem mulAt_Bd {N i m : Nat} (hN : N ≤ 30) {ps : Pr} {p : Int × Int} (hp : IsP ps) (h : ps[i]? = some p) (hm : m ≤ 29) : Bd (mulK p.1.toNat p.2 m (mulAll N (ps.take i) one)) 50000 := by
  have h1 : Bd (mulAll N (ps.take i) one) (0 + 5220 * (ps.take i).length) := mulAll_Bd hN (fun q hq => hp.pw q (List.mem_of_mem_take hq)) one_Bd
  have h2 := mulK_Bd (d := p.1.toNat) (hp.pw p (List.mem_of_getElem? h)) h1 m
  refine h2.mono ?_
  have := hp.len
  have : (ps.take i).length ≤ ps.length := List.length_take_le' i ps
  omega
end K17
/-! The law's own terms: all factors multiplied out. -/
namespace K17
open PySem PySem.Spec PyProof.Rows L2
section
variable {P : Program} {w : World} {K : PySem.W.Frag} {mg : Str → Option Value} {base : Heap}
def lt_sc : Scope := { kind := .function, names := [(".0", .local), ("_law_n", .cell), ("sum", .globalImplicit), ("_law_found", .cell), ("_law_some", .cell)], isGenerator := false, isCoroutine := false }
def lt_in : Scope := { kind := .function, names := [(".0", .local), ("_law_far", .local), ("_law_x", .local), ("_law_found", .free), ("_law_n", .free)], isGenerator := false, isCoroutine := false }
theorem lt_ok : BlkOk ["_law_product_here", "_law_many", "_law_found", "_law_d", "_law_r", "_law_factor", "_law_i", "_law_size", "_law_some", "_law_x", "_law_n", "_law_far"] lt_sc lt_in [("_law_far", 11), ("_law_x", 9)] := blkOk_by (by decide +kernel)
def sp_law_terms (K : PySem.W.Frag) : Sp := fun vs H Q _ => ∃ (v : V) (ps : Pr) (N : Nat), vs = [v, .int (N : Int)] ∧ Dp K H v (dP ps) ∧ IsP ps ∧ 1 ≤ N ∧ N ≤ 30 ∧ ∀ (p : Addr) H', Same H H' → H' p = some (.lst (rv N (tm (cs ps)))) → Q (.ref p) H'
theorem ok_law_terms (T : Txt K mg) : FnOk P w K mg base CX0 1 T.f_law_terms.f T.f_law_terms.fd ["_law_product_here", "_law_many"] (sp_law_terms K) := by
  refine T.f_law_terms.F.ok sc_law_terms (fun vs H Q E h => ?_) (fun cdv A outer s H vs Q E hr h => ?_)
  · obtain ⟨v, ps, N, rfl, _⟩ := h
    rfl
  · obtain ⟨v, ps, N, rfl, hd, hp, hN1, hN2, q⟩ := h
    obtain ⟨a, xs, rfl, hS, hl, hA⟩ := of_dpP hd
    have hlen := hp.len
    refine ⟨_, (pss_cons (ps_set (i := 2) sc_law_terms.nd rfl (.inr rfl) (pe_op op_cat (pe_lst (pa_cons pe_int pa_nil)) (pe_op op_rep (pe_lst (pa_cons pe_int pa_nil)) (pe_op op_sub (pv 1) pe_int))))
    (pss_cons (ps_for PassesOwn.never rfl (pi_tup (pv 0)) (pg_tup rfl (pgs_cons (pg_name (i := 3) sc_law_terms.nd rfl (.inl rfl)) (pgs_cons (pg_name (i := 4) sc_law_terms.nd rfl (.inl rfl)) pgs_nil)))
      (pss_cons (ps_set (i := 5) sc_law_terms.nd rfl (.inl rfl) (pe_lst (pa_cons pe_int pa_nil)))
      (pss_cons (ps_for PassesOwn.never rfl (pi_range2 rfl T.m_range (pa_cons pe_int (pa_cons (pv 1) pa_nil))) (pg_name (i := 6) sc_law_terms.nd rfl (.inl rfl))
        (pss_one (ps_expr (pe_bm PySem.F.plainAttrs_list PySem.F.slot_list_append PySem.F.type_list_append mt_append (pv 5) (pa_cons (pe_op op_fdiv (pe_op op_mul (pe_ix ix_list (pv 5) (pe_un un_neg pe_int) (fun _ _ => rfl)) (pe_op op_sub (pe_op op_sub (pv 6) pe_int) (pv 4))) (pv 6)) pa_nil)))))
      (pss_one (ps_for PassesOwn.never rfl (pi_range3 rfl T.m_range (pa_cons (pv 3) (pa_cons (pv 1) (pa_cons (pv 3) pa_nil)))) (pg_name (i := 7) sc_law_terms.nd rfl (.inr rfl))
        (pss_cons (ps_set (i := 8) sc_law_terms.nd rfl (.inr rfl) (pe_lc (own := [("_law_i", 6), ("_law_x", 9)]) (g := gTup K 2 (gCons (gName 6) (gCons (gName 9) gNil))) rfl sc_law_terms.nd (pi_enum rfl T.m_enumerate (pa_cons (pv 5) pa_nil)) (blkOk_by (own := [("_law_i", 6), ("_law_x", 9)]) (N := ["_law_product_here", "_law_many", "_law_found", "_law_d", "_law_r", "_law_factor", "_law_i", "_law_size", "_law_some", "_law_x", "_law_n", "_law_far"]) (sc := defScope s_law_terms) (by decide +kernel)) (fun _ _ _ _ _ => (pg_tup rfl (pgs_cons (pg_name (i := 6) sc_law_terms.nd rfl (.inl rfl) (hf := .inr rfl)) (pgs_cons (pg_name (i := 9) sc_law_terms.nd rfl (.inl rfl) (hf := .inr rfl)) pgs_nil)))) (fun _ _ _ _ _ => (pts_one (PW.pt (pw_and (pt_cmpR op_lt (pe_op op_mul (pv 7) (pv 6)) (pv 1) (nomark _)) (pw_and1 (pt_cmpR op_ne (pv 9) pe_int (nomark _))))))) (fun _ _ _ _ _ => (pe_tup (pa_cons (pe_op op_mul (pv 7) (pv 6)) (pa_cons (pv 9) pa_nil))))))
        (pss_one (ps_set (i := 2) sc_law_terms.nd rfl (.inr rfl) (pe_lc (own := [("_law_n", 10)]) (g := gName 10) rfl sc_law_terms.nd (pi_range1 rfl T.m_range (pa_cons (pv 1) pa_nil)) (blkOk_by (own := [("_law_n", 10)]) (N := ["_law_product_here", "_law_many", "_law_found", "_law_d", "_law_r", "_law_factor", "_law_i", "_law_size", "_law_some", "_law_x", "_law_n", "_law_far"]) (sc := defScope s_law_terms) (by decide +kernel)) (fun _ _ _ _ _ => (pg_name (i := 10) sc_law_terms.nd rfl (.inr rfl) (hf := .inl rfl))) (fun _ _ _ _ _ => pts_nil) (fun _ _ _ _ _ => (pe_callB (id := "sum") (r := rSum K) (cr_sum rfl) (by rfl) T.m_sum (by decide +kernel) (pa_cons (pe_lc (own := [("_law_far", 11), ("_law_x", 9)]) (wi := iList K (tVar 8)) (tt := tTest (tOp (rI0 fun i j => .bl (decide (i ≤ j))) (tVar 11) (tVar 10))) (te := tOp (rI CMulW fun i j => .int (i * j)) (tVar 9) (tOp (rIxL K) (tVar 2) (tOp (rI0 fun i j => .int (i - j)) (tVar 10) (tVar 11)))) (g := gTup K 2 (gCons (gName 11) (gCons (gName 9) gNil))) rfl sc_law_terms.nd (pi_list (pv 8)) lt_ok (fun _ _ _ _ _ => (pg_tup rfl (pgs_cons (pg_name (i := 11) sc_law_terms.nd rfl (.inl rfl) (hf := .inr rfl)) (pgs_cons (pg_name (i := 9) sc_law_terms.nd rfl (.inl rfl) (hf := .inr rfl)) pgs_nil)))) (fun _ _ _ _ _ => (pts_one (pt_cmpR op_le (pv 11) (pv 10) (nomark _)))) (fun _ _ _ _ _ => (pe_op op_mulW (pv 9) (pe_ix (r := rIxL K) ix_list (pv 2) (pe_op op_sub (pv 10) (pv 11)) (fun _ _ => rfl))))) pa_nil))))))))))))
    (pss_one (ps_ret (pv 2))))), ?_⟩
    -- found = [1] + [0] * (many - 1)
    refine ⟨by show 1 ≤ sizeLine; decide, fun l1 n1 => ⟨by show 1 ≤ sizeLine; decide, fun l2 n2 => ?_⟩⟩
    have s1 : Same H (upd H l1 (.lst [.int 1])) := same_new n1
    have s2 := same_new2 (o := .lst [.int 0]) s1 n2
    refine ⟨_, rfl, _, _, rfl, rfl, l2, (N : Int) - 1, _, rfl, rfl, upd_same, by omega, by omega, ?_, fun l3 n3 => ?_⟩
    · show 1 * ((N : Int) - 1).toNat ≤ sizeLine
      exact sz1000 (by omega)
    have n12 : l1 ≠ l2 := fun e => by
      rw [← e, upd_same] at n2
      cases n2
    have n13 : l1 ≠ l3 := fun e => by
      rw [← e, upd_ne n12, upd_same] at n3
      cases n3
    refine ⟨l1, l3, [.int 1], _, rfl, rfl, ?_, upd_same, ?_, fun F nF => ?_⟩
    · rw [upd_ne n13, upd_ne n12, upd_same]
    · rw [rep_one, List.length_replicate]
      exact sz1000 (by show 1 + ((N : Int) - 1).toNat ≤ 1000; omega)
    have s3 := same_new2 (o := .lst (List.replicate ((N : Int) - 1).toNat [V.int 0]).flatten) s2 n3
    have s4 := same_new2 (o := .lst ([V.int 1] ++ (List.replicate ((N : Int) - 1).toNat [V.int 0]).flatten)) s3 nF
    have eN : ((N : Int) - 1).toNat = N - 1 := by omega
    have eF : (upd (upd (upd (upd H l1 (.lst [.int 1])) l2 (.lst [.int 0])) l3 (.lst (List.replicate ((N : Int) - 1).toNat [V.int 0]).flatten)) F (.lst ([V.int 1] ++ (List.replicate ((N : Int) - 1).toNat [V.int 0]).flatten))) F = some (.lst (rv N one)) := by
      rw [upd_same, eN, rv_one hN1 one rfl]
      congr 2
      refine rv_congr fun i _ => ?_
      unfold one
      split <;> split <;> omega
    generalize (upd (upd (upd (upd H l1 (.lst [.int 1])) l2 (.lst [.int 0])) l3 (.lst (List.replicate ((N : Int) - 1).toNat [V.int 0]).flatten)) F (.lst ([V.int 1] ++ (List.replicate ((N : Int) - 1).toNat [V.int 0]).flatten))) = H0 at s4 eF ⊢
    -- for d, r in product
    refine ⟨_, rfl, a, rfl, ⟨_, same_tup s4 hS⟩, for_tup (K := K) (a := a) (xs := xs)
      (fun i σ H' => ∃ F y3 y4 y5 y6 y7 y8, σ = [some (.ref a), some (.int (N : Int)), some (.ref F), y3, y4, y5, y6, y7, y8, none, none, none] ∧ Same H H' ∧ H' F = some (.lst (rv N (mulAll N (ps.take i) one))))
      ⟨F, none, none, none, none, none, none, rfl, s4, eF⟩ (fun i σ H' _ ⟨_, _, _, _, _, _, _, _, sm, _⟩ => same_tup sm hS) ?_ ?_⟩
    · clear eF s4
      rintro i x σ H' hi ⟨F, y3, y4, y5, y6, y7, y8, rfl, s1, eF⟩
      obtain ⟨p, b, hpi, rfl, hB⟩ := pair_at hA hi
      have hmem : p ∈ ps := List.mem_of_getElem? hpi
      have h1 := hp.lo p hmem
      have h2 := hp.hi p hmem
      have h3 := hp.pw p hmem
      have hd0 : 0 < p.1.toNat := by omega
      have ep : ((p.1.toNat : Nat) : Int) = p.1 := by omega
      refine g_pair (same_tup s1 hB) ?_
      -- factor = [1]
      refine ⟨by show 1 ≤ sizeLine; decide, fun A nA => ?_⟩
      have s2 := same_new2 (o := .lst [.int 1]) s1 nA
      have nA0 : H A = none := s1.free nA
      have eF1 := same_new (o := .lst [.int 1]) nA _ _ eF
      have eA1 : (upd H' A (.lst [.int 1])) A = some (.lst (rv 1 (bn p.2))) := by
        rw [upd_same]
        show _ = some (HO.lst [V.int (bn p.2 0)])
        rw [bn_zero]
      have nFA : F ≠ A := ne_of_none eF nA
      generalize (upd H' A (.lst [.int 1])) = H1 at s2 eF1 eA1 ⊢
      -- for i in range(1, many): factor.append(..)
      refine ⟨_, rfl, 1, (N : Int), rfl, ⟨by decide, by decide, by omega, by omega⟩, ?_⟩
      rw [eN]
      refine for_range (lo := 1) (n := N - 1) (fun k σ H2 => ∃ y6, σ = [some (.ref a), some (.int (N : Int)), some (.ref F), some (.int p.1), some (.int p.2), some (.ref A), y6, y7, y8, none, none, none] ∧ Same H H2 ∧ H2 F = some (.lst (rv N (mulAll N (ps.take i) one))) ∧ H2 A = some (.lst (rv (k + 1) (bn p.2))))
        ⟨y6, rfl, s2, eF1, eA1⟩ ?_ ?_
      · rintro k σ H2 hk ⟨y6, rfl, sm2, eF2, eA2⟩
        have e1 : (1 : Int) + (k : Int) = ((k + 1 : Nat) : Int) := by omega
        refine ⟨_, rfl, .inl ⟨rfl, _, SqL.of eA2⟩, ?_⟩
        refine ⟨_, rfl, 1, rfl, A, _, _, V.int (bn p.2 k), rfl, rfl, SqL.of eA2, ?_, ?_⟩
        · rw [← rv_snoc]
          exact atI_last _ _
        refine ⟨_, rfl, _, _, rfl, rfl, _, rfl, _, _, rfl, rfl, _, _, rfl, rfl, .inr ⟨by omega, by omega⟩, ?_⟩
        refine ⟨_, rfl, _, _, rfl, rfl, ⟨by omega, by omega⟩, A, _, _, rfl, rfl, eA2, by rw [rv_len]; exact small1000 (by omega), ?_⟩
        refine ⟨_, rfl, same_mut sm2 nA0, ?_, ?_⟩
        · rw [upd_ne nFA]
          exact eF2
        · rw [upd_same]
          show some (HO.lst (rv (k + 1) (bn p.2) ++ [V.int (bn p.2 k * (1 + (k : Int) - 1 - p.2) / (1 + (k : Int)))])) = _
          have e2 := bn_next p.2 k
          rw [Int.fdiv_eq_ediv_of_nonneg _ (by omega)] at e2
          rw [e1, e2, rv_snoc (k + 1)]
      · rintro σ H2 ⟨y6, rfl, s3, eF3, eA3⟩
        rw [show N - 1 + 1 = N by omega] at eA3
        -- for size in range(d, many, d)
        have hsz : sizes p.1.toNat N ≤ 29 := sizes_lt hN2
        refine ⟨_, rfl, _, rfl, _, rfl, p.1, (N : Int), p.1, sizes p.1.toNat N, rfl, ?_, ?_⟩
        · refine rgC_pos ⟨by omega, by omega⟩ ⟨by omega, by omega⟩ ⟨by omega, by omega⟩ ?_
          unfold sizes
          by_cases hlt : p.1 < (N : Int)
          · refine .inl ⟨hlt, ?_⟩
            have e2 : ((N : Int) - p.1 - 1) / p.1 = (((N - 1 - p.1.toNat) / p.1.toNat : Nat) : Int) := by
              rw [Int.natCast_ediv, ep]
              congr 1
              omega
            rw [e2, show N - 1 = (N - 1 - p.1.toNat) + p.1.toNat by omega, Nat.add_div_right _ hd0]
            rw [show N - 1 - p.1.toNat + p.1.toNat - p.1.toNat = N - 1 - p.1.toNat by omega]
            rfl
          · exact .inr ⟨by omega, Nat.div_eq_of_lt (by omega)⟩
        refine for_it (n := sizes p.1.toNat N) walk_rangeC (fun m σ H2 => ∃ F y6 y7 y8, σ = [some (.ref a), some (.int (N : Int)), some (.ref F), some (.int p.1), some (.int p.2), some (.ref A), y6, y7, y8, none, none, none] ∧ Same H H2 ∧ H2 F = some (.lst (rv N (mulK p.1.toNat p.2 m (mulAll N (ps.take i) one)))) ∧ H2 A = some (.lst (rv N (bn p.2))))
          ⟨F, y6, y7, y8, rfl, s3, eF3, eA3⟩ (fun _ _ _ _ _ => trivial) ?_ ?_
        · clear eF3 eF1 eF
          rintro m x σ H3 H4 hm ⟨F, y6, y7, y8, rfl, s4, eF4, eA4⟩ ⟨rfl, rfl⟩
          have es : p.1 + ((m : Nat) : Int) * p.1 = ((p.1.toNat * (m + 1) : Nat) : Int) := by
            rw [Nat.mul_succ, Int.natCast_add, Int.natCast_mul, ep, Int.mul_comm]
            omega
          have hs0 : 0 < p.1.toNat * (m + 1) := Nat.mul_pos hd0 (by omega)
          have hsN : p.1.toNat * (m + 1) < N := by
            have e1 : p.1.toNat * (m + 1) ≤ p.1.toNat * sizes p.1.toNat N := Nat.mul_le_mul (Nat.le_refl _) hm
            have e2 : p.1.toNat * sizes p.1.toNat N ≤ N - 1 := Nat.mul_div_le _ _
            omega
          have hG := mulAt_Bd (m := m) hN2 hp hpi (by omega)
          have hmk : mulK p.1.toNat p.2 (m + 1) (mulAll N (ps.take i) one) = mul1 (mulK p.1.toNat p.2 m (mulAll N (ps.take i) one)) (p.1.toNat * (m + 1)) p.2 := rfl
          show gName 7 (V.int (p.1 + ((m : Nat) : Int) * p.1)) _ _ _
          rw [es]
          generalize p.1.toNat * (m + 1) = S at hs0 hsN hmk
          generalize mulK p.1.toNat p.2 m (mulAll N (ps.take i) one) = G at hG hmk eF4
          -- some = [(size * i, x) for i, x in enumerate(factor) if ..]
          refine ⟨_, rfl, A, _, rfl, SqL.of eA4, fun D nD => ?_⟩
          refine lc_it (n := (rv N (bn p.2)).length) (walk_enum (K := K) (a := A) (xs := rv N (bn p.2))) (fun k H' => Same H4 H' ∧ ∃ acc, H' D = some (.lst acc) ∧ acc.length ≤ k ∧ DpAll K H' acc ((sm S (bn p.2) N k).map fun p => d2 p.1 p.2)) ⟨same_new nD, [], upd_same, Nat.le_refl _, .nil⟩ (fun i H' _ z => z.1.seq (SqL.of eA4)) ?_ ?_
          · rintro k x H5 H6 hk ⟨sm5, acc, eD, hal, hacc⟩ ⟨Tp, u1, u2, rfl, nT, rfl, e1, e2⟩
            rw [rv_len] at hk
            have e2' : (rv N (bn p.2))[k]? = some u2 := e2
            rw [rv_get _ hk] at e2'
            cases e1
            cases e2'
            have s6 := same_new2 (o := .tup [.int ((k : Nat) : Int), .int (bn p.2 k)]) sm5 nT
            have eD6 := same_new (o := .tup [.int ((k : Nat) : Int), .int (bn p.2 k)]) nT _ _ eD
            have hacc6 := dpa_mono (same_new (o := .tup [.int ((k : Nat) : Int), .int (bn p.2 k)]) nT) _ _ hacc
            refine g_pair (SqT.of upd_same) ?_
            generalize (upd H5 Tp (.tup [.int ((k : Nat) : Int), .int (bn p.2 k)])) = H6 at s6 eD6 hacc6 ⊢
            have esk : ((S : Nat) : Int) * ((k : Nat) : Int) = ((S * k : Nat) : Int) := (Int.natCast_mul _ _).symm
            refine ⟨rfl, _, rfl, _, rfl, _, _, rfl, rfl, .inl ⟨by omega, by omega⟩, _, rfl, _, _, rfl, rfl, _, rfl, ?_⟩
            rw [esk]
            by_cases hc1 : S * k < N
            · rw [decide_eq_true (show ((S * k : Nat) : Int) < (N : Int) by omega)]
              refine iteT ⟨_, rfl, rfl, _, rfl, ?_⟩
              by_cases hc2 : bn p.2 k = 0
              · rw [decide_eq_true (show V.int (bn p.2 k) = V.int 0 by rw [hc2])]
                refine iteF ⟨s6, acc, eD6, by omega, ?_⟩
                show DpAll K H6 acc ((sm S (bn p.2) N k ++ _).map fun p => d2 p.1 p.2)
                rw [if_neg (fun z => z.2 hc2), List.append_nil]
                exact hacc6
              · rw [decide_eq_false (show ¬ V.int (bn p.2 k) = V.int 0 from fun z => hc2 (V.int.inj z))]
                refine iteT ?_
                refine ⟨_, rfl, _, rfl, _, _, rfl, rfl, .inl ⟨by omega, by omega⟩, _, rfl, by show 2 ≤ sizeLine; decide, fun c nc => ?_⟩
                have ncD : D ≠ c := ne_of_none eD6 nc
                refine ⟨acc, by rw [upd_ne ncD]; exact eD6, small1000 (by omega), same_mut (same_new2 s6 nc) nD, _, upd_same, by rw [List.length_append]; exact Nat.succ_le_succ hal, ?_⟩
                show DpAll K _ _ ((sm S (bn p.2) N k ++ _).map fun p => d2 p.1 p.2)
                rw [if_pos ⟨hc1, hc2⟩, ← esk]
                exact pairs_snoc hacc6 nc eD6
            · rw [decide_eq_false (show ¬ ((S * k : Nat) : Int) < (N : Int) by omega)]
              refine iteF (iteF ⟨s6, acc, eD6, by omega, ?_⟩)
              show DpAll K H6 acc ((sm S (bn p.2) N k ++ _).map fun p => d2 p.1 p.2)
              rw [if_neg (fun z => hc1 z.1), List.append_nil]
              exact hacc6
          · rintro H5 ⟨sm5, acc, eD, hal, hacc⟩
            rw [rv_len] at hal hacc
            -- found = [sum(..) for n in range(many)]
            have s5 := s4.trans sm5
            have eF5 := sm5 _ _ eF4
            have hprs : ∀ q ∈ sm S (bn p.2) N N, ∃ i : Nat, i < N ∧ S * i < N ∧ q = (((S * i : Nat) : Int), bn p.2 i) := fun q hq => sm_mem hq
            have hacl := dpa_len hacc
            rw [List.length_map] at hacl
            have hall : ∀ n, n < N → (fl G n (sm S (bn p.2) N N)).sum = mul1 G S p.2 n := fun n hn => fl_all hs0 p.2 G hn
            generalize sm S (bn p.2) N N = prs at hacc hprs hacl hall
            refine ⟨_, rfl, (N : Int), rfl, by omega, by omega, fun D2 nD2 => ?_⟩
            rw [show ((N : Int)).toNat = N by omega]
            refine lc_range (lo := 0) (n := N) (fun n H' => Same H5 H' ∧ H' D2 = some (.lst (rv n (mul1 G S p.2)))) ⟨same_new nD2, upd_same⟩ ?_ ?_
            · rintro n H6 hn ⟨sm6, eD2⟩
              have en : (0 : Int) + (n : Int) = (n : Int) := by omega
              refine ⟨rfl, ?_⟩
              refine ⟨_, rfl, D, rfl, ⟨_, SqL.of (sm6 _ _ eD)⟩, fun D3 nD3 => ?_⟩
              refine lc_list (K := K) (a := D) (xs := acc) (fun j H' => Same H6 H' ∧ H' D3 = some (.lst ((fl G n (prs.take j)).map V.int))) ⟨same_new nD3, upd_same⟩ (fun j H' _ z => z.1.seq (SqL.of (sm6 _ _ eD))) ?_ ?_
              · rintro j x H7 hj ⟨sm7, eD3⟩
                obtain ⟨pq, c, hpj, rfl, hC⟩ := pair_at hacc hj
                obtain ⟨i', hi1, hi2, epq⟩ := hprs pq (List.mem_of_getElem? hpj)
                have hjl : j < prs.length := (List.getElem?_eq_some_iff.mp hpj).1
                have hfl := fl_len G n (prs.take j)
                rw [List.length_take] at hfl
                refine g_pair (same_tup (sm6.trans sm7) hC) ?_
                refine ⟨rfl, _, rfl, _, rfl, _, _, rfl, rfl, _, rfl, ?_⟩
                by_cases hle : pq.1 ≤ (n : Int)
                · rw [decide_eq_true (show pq.1 ≤ (0 : Int) + (n : Int) by omega)]
                  refine iteT ?_
                  have e0 : 0 ≤ pq.1 := by
                    rw [epq]
                    show (0 : Int) ≤ ((S * i' : Nat) : Int)
                    omega
                  have eix : (0 : Int) + (n : Int) - pq.1 = ((n - pq.1.toNat : Nat) : Int) := by omega
                  have b1 : pq.2.natAbs ≤ 2 ^ 174 := by
                    rw [epq]
                    exact bn_Bd h3 i' (by omega)
                  have b2 := hG (n - pq.1.toNat) (by omega)
                  refine ⟨_, rfl, _, rfl, _, rfl, _, rfl, _, _, rfl, rfl, F, _, _, _, rfl, rfl, SqL.of (sm7 _ _ (sm6 _ _ eF5)), at_of (j := n - pq.1.toNat) eix (rv_get _ (by omega)), ?_⟩
                  refine ⟨_, _, rfl, rfl, wide_mul (a := 175) (b := 50001) (Nat.lt_of_le_of_lt b1 (Nat.pow_lt_pow_right (by decide) (by decide))) (Nat.lt_of_le_of_lt b2 (Nat.pow_lt_pow_right (by decide) (by decide))) (by decide) (by decide) (by decide), _, eD3, ?_, same_mut sm7 nD3, ?_⟩
                  · rw [List.length_map]
                    exact small1000 (by omega)
                  · rw [upd_same, fl_take G n hpj, if_pos hle, List.map_append]
                    rfl
                · rw [decide_eq_false (show ¬ pq.1 ≤ (0 : Int) + (n : Int) by omega)]
                  refine iteF ⟨sm7, ?_⟩
                  rw [eD3, fl_take G n hpj, if_neg hle, List.append_nil]
              · rintro H7 ⟨sm7, eD3⟩
                rw [hacl, List.take_length] at eD3
                refine ⟨D3, _, rfl, SqL.of eD3, _, sm7 _ _ eD2, by rw [rv_len]; exact small1000 (by omega), same_mut (sm6.trans sm7) nD2, ?_⟩
                rw [upd_same, hall n hn, rv_snoc]
            · rintro H6 ⟨sm6, eD2⟩
              refine ⟨D2, _, _, _, rfl, s5.trans sm6, ?_, sm6 _ _ (sm5 _ _ eA4)⟩
              rw [eD2, hmk]
        · rintro σ H4 ⟨F, y6, y7, y8, rfl, s4, eF4, eA4⟩
          refine ⟨F, _, _, _, _, _, _, rfl, s4, ?_⟩
          rw [eF4, mulAll_take hpi]
    · rintro σ H' ⟨F, y3, y4, y5, y6, y7, y8, rfl, s1, eF⟩
      rw [hl, List.take_length] at eF
      refine ⟨_, rfl, q F H' s1 ?_⟩
      rw [eF]
      congr 2
      exact rv_congr fun n hn => (terms_eq hp.lo n hn).symm
end
end K17
/-! The law's own products: drawn, joined. -/
namespace K17
open PySem PySem.Spec PyProof.Rows L2
/-! ### a drawn dict -/
structure IsD (m : Pr) (t : Nat) : Prop where
  nd : (m.map (·.1)).Nodup
  at_ : ∀ p ∈ m, 1 ≤ p.1 ∧ p.1 ≤ 400 ∧ p.2 ≠ 0 ∧ -30 ≤ p.2 ∧ p.2 ≤ 30
  len : m.length ≤ t
theorem IsD.nil : IsD [] 0 := ⟨List.nodup_nil, fun _ z => absurd z List.not_mem_nil, Nat.le_refl _⟩
theorem IsD.put {m : Pr} {t : Nat} (h : IsD m t) {d v : Int} (hd : 1 ≤ d ∧ d ≤ 400) (hv : v ≠ 0 ∧ -30 ≤ v ∧ v ≤ 30) : IsD (pm m d v) (t + 1) := by
  refine ⟨pm_nodup h.nd d v, fun p hp => ?_, Nat.le_trans (pm_len m d v) (Nat.succ_le_succ h.len)⟩
  unfold pm at hp
  split at hp
  · obtain ⟨q, hq, rfl⟩ := List.mem_map.mp hp
    have := h.at_ q hq
    split
    · exact ⟨this.1, this.2.1, hv⟩
    · exact this
  · rcases List.mem_append.mp hp with hp | hp
    · exact h.at_ p hp
    · obtain rfl := List.mem_singleton.mp hp
      exact ⟨hd.1, hd.2, hv⟩
theorem lkz_mem {m : Pr} {d : Int} (h : d ∈ m.map (·.1)) : (d, lkz m d) ∈ m := by
  have e := lk_some h
  unfold lk at e
  cases hf : m.find? fun p => decide (p.1 = d) with
  | none =>
    rw [hf] at e
    cases e
  | some p =>
    rw [hf] at e
    have e2 : p.2 = lkz m d := Option.some.inj e
    have e1 : p.1 = d := by simpa using List.find?_some hf
    have hm := List.mem_of_find?_eq_some hf
    rw [← e2, ← e1]
    exact hm
/-- the pairs in the order of d -/
def pl (m : Pr) (ys : List Int) : Pr := ys.map fun d => (d, lkz m d)
theorem pl_isP {m : Pr} {t : Nat} {ys : List Int} (h : IsD m t) (ht : t ≤ 8) (hy : ys.Perm (m.map (·.1))) (hs : ys.Pairwise (· ≤ ·)) : IsP (pl m ys) := by
  have k : ∀ p ∈ pl m ys, p ∈ m := by
    intro p hp
    obtain ⟨d, hd, rfl⟩ := List.mem_map.mp hp
    exact lkz_mem (hy.mem_iff.mp hd)
  refine ⟨?_, fun p hp => (h.at_ p (k p hp)).1, fun p hp => (h.at_ p (k p hp)).2.1, fun p hp => (h.at_ p (k p hp)).2.2.1, fun p hp => (h.at_ p (k p hp)).2.2.2, ?_⟩
  · unfold pl
    rw [List.pairwise_map]
    have n : ys.Pairwise (· ≠ ·) := (hy.nodup_iff.mpr h.nd)
    exact (hs.and n).imp fun z => by
      have := z.1
      have := z.2
      show _ < _
      omega
  · have := h.len
    unfold pl
    rw [List.length_map, hy.length_eq, List.length_map]
    omega
/-! ### a tuple of pairs, known to its object -/
def Prd (K : PySem.W.Frag) (H : Hp) (bs : List Addr) (ps : Pr) : Prop := Paired (fun b p => SqT K H b [.int p.1, .int p.2]) bs ps
def Fz (K : PySem.W.Frag) (H : Hp) (v : V) (ps : Pr) : Prop := ∃ (c : Addr) (o : Obj) (bs : List Addr), v = .ref c ∧ H c = some (.frz o (.tup (bs.map V.ref))) ∧ o.dict = none ∧ Prd K H bs ps
section
variable {K : PySem.W.Frag} {H H' : Hp} {v : V}
theorem Prd.same (e : Same H H') {bs : List Addr} {ps : Pr} (h : Prd K H bs ps) : Prd K H' bs ps := Paired.mono (fun _ _ z => same_tup e z) h
theorem Prd.dp : ∀ {bs : List Addr} {ps : Pr}, Prd K H bs ps → DpAll K H (bs.map V.ref) (ps.map fun p => d2 p.1 p.2)
  | _, _, .nil => .nil
  | _, _, .cons h t => .cons (dp2 h) (Prd.dp t)
theorem Fz.dp {ps : Pr} (h : Fz K H v ps) : Dp K H v (dP ps) := by
  obtain ⟨c, o, bs, rfl, h1, h2, h3⟩ := h
  exact dpP (.inl (.inr ⟨o, h1⟩)) h3.dp
theorem Fz.same (e : Same H H') {ps : Pr} (h : Fz K H v ps) : Fz K H' v ps := by
  obtain ⟨c, o, bs, rfl, h1, h2, h3⟩ := h
  exact ⟨c, o, bs, rfl, e _ _ h1, h2, h3.same e⟩
theorem Fz.kp {D L : Addr} (hD : Deck H D L) (k : Kp D L H H') {ps : Pr} (h : Fz K H v ps) : Fz K H' v ps := by
  obtain ⟨c, o, bs, rfl, h1, h2, h3⟩ := h
  obtain ⟨m, n, ns, d1, d2, d3⟩ := hD
  refine ⟨c, o, bs, rfl, k _ _ (ne_of h1 d1 (by intro z; cases z)) (ne_of h1 d2 (by intro z; cases z)) h1, h2, ?_⟩
  exact Paired.mono (fun _ _ z => sqT_kp ⟨m, n, ns, d1, d2, d3⟩ k z) h3
theorem Prd.keys : ∀ {bs : List Addr} {ps : Pr}, Prd K H bs ps → Paired (fun p kv => SqT K H p [kV kv.1, kv.2]) bs (dk ps)
  | _, _, .nil => .nil
  | _, _, .cons h t => .cons h (Prd.keys t)
end
theorem merge_dk : ∀ (l m : Pr), ((m ++ l).map (·.1)).Nodup → mergeK (dk m) (dk l) = dk (m ++ l)
  | [], m, _ => by
    rw [List.append_nil]
    rfl
  | p :: l, m, h => by
    have hn : p.1 ∉ m.map (·.1) := by
      intro z
      rw [List.map_append, List.map_cons, List.nodup_append] at h
      exact h.2.2 p.1 z p.1 List.mem_cons_self rfl
    have e : pm m p.1 p.2 = m ++ [p] := by
      unfold pm
      rw [if_neg fun z => hn ((any_mem m p.1).mp z)]
    have h' : (((m ++ [p]) ++ l).map (·.1)).Nodup := by
      rw [List.append_assoc]
      exact h
    have := merge_dk l (m ++ [p]) h'
    show mergeK (putK (dk m) (Sum.inl p.1) (V.int p.2)) (dk l) = _
    rw [dk_put, e, this, List.append_assoc]
    rfl
section
variable {P : Program} {w : World} {K : PySem.W.Frag} {mg : Str → Option Value} {base : Heap}
/-! ### _law_product -/
def sp_law_product (K : PySem.W.Frag) : Sp := fun vs H Q _ => ∃ (D L : Addr) (t : Nat) (most high : Int), vs = [.ref D, .int (t : Int), .int most, .int high] ∧ Deck H D L ∧ t ≤ 8 ∧ 1 ≤ most ∧ most ≤ 30 ∧ 1 ≤ high ∧ high ≤ 400 ∧
  ∀ v H' ps, Kp D L H H' → Deck H' D L → Fz K H' v ps → IsP ps → Q v H'
theorem ok_law_product (T : Txt K mg) : FnOk P w K mg base CX0 2 T.f_law_product.f T.f_law_product.fd ["_law_deck_here", "_law_pairs", "_law_most", "_law_high"] (sp_law_product K) := by
  have G__law_draw := ok_law_draw (P := P) (w := w) (base := base) T
  refine T.f_law_product.F.ok sc_law_product (fun vs H Q E h => ?_) (fun cdv A outer s H vs Q E hr h => ?_)
  · obtain ⟨D, L, t, most, high, rfl, _⟩ := h
    rfl
  · obtain ⟨D, L, t, most, high, rfl, hD, ht, hm1, hm2, hh1, hh2, q⟩ := h
    refine ⟨_, (pss_cons (ps_set (i := 4) sc_law_product.nd rfl (.inr rfl) pe_dnewK)
    (pss_cons (ps_for PassesOwn.never rfl (pi_range1 rfl T.m_range (pa_cons (pv 1) pa_nil)) (pg_name (i := 5) sc_law_product.nd rfl (.inl rfl))
      (pss_cons (ps_par (i := 6) (j := 7) rfl sc_law_product.nd rfl rfl (by decide) rfl rfl (pa_cons (pe_op op_add pe_int (pe_call G__law_draw (hr.mono (by decide)) (by rfl) T.f_law_draw.g T.f_law_draw.F.kp T.f_law_draw.b .nil pass0 (pa_cons (pv 0) (pa_cons (pv 3) pa_nil)))) (pa_cons (pe_op op_add pe_int (pe_call G__law_draw (hr.mono (by decide)) (by rfl) T.f_law_draw.g T.f_law_draw.F.kp T.f_law_draw.b .nil pass0 (pa_cons (pv 0) (pa_cons (pv 2) pa_nil)))) pa_nil)) (by rfl))
      (pss_one (ps_dput (hu_of hr) (pv 4) (pv 6) (pe_op op_mul (pv 7) (pe_op op_sub pe_int (pe_op op_mul pe_int (pe_call G__law_draw (hr.mono (by decide)) (by rfl) T.f_law_draw.g T.f_law_draw.F.kp T.f_law_draw.b .nil pass0 (pa_cons (pv 0) (pa_cons pe_int pa_nil)))))) rfl))))
    (pss_one (ps_ret (pe_callTy call_tupleF (by rfl) T.m_tuple (by decide +kernel) (pa_cons (pe_lc (own := [("_law_d", 6)]) (g := gName 6) rfl sc_law_product.nd (pi_list (pe_callB (call_sortedDI rfl) (by rfl) T.m_sorted (by decide +kernel) (pa_cons (pv 4) pa_nil))) (blkOk_by (own := [("_law_d", 6)]) (N := ["_law_deck_here", "_law_pairs", "_law_most", "_law_high", "_law_found", "_law_turn", "_law_d", "_law_r"]) (sc := defScope s_law_product) (by decide +kernel)) (fun _ _ _ _ _ => (pg_name (i := 6) sc_law_product.nd rfl (.inl rfl) (hf := .inr rfl))) (fun _ _ _ _ _ => pts_nil) (fun _ _ _ _ _ => (pe_tup (pa_cons (pv 6) (pa_cons (pe_dget (hu_of hr) (pv 4) (pv 6) (fun _ _ => rfl)) pa_nil))))) pa_nil)))))), ?_⟩
    -- found = {}
    refine fun S nS => ?_
    have k0 : Kp D L H (upd H S (.dK [])) := .of (same_new nS)
    -- for turn in range(pairs)
    refine ⟨_, rfl, (t : Int), rfl, by omega, by omega, ?_⟩
    rw [show ((t : Int)).toNat = t by omega]
    refine for_range (lo := 0) (n := t) (fun i σ H' => ∃ y5 y6 y7 m, σ = [some (.ref D), some (.int (t : Int)), some (.int most), some (.int high), some (.ref S), y5, y6, y7] ∧ Kp D L H H' ∧ Deck H' D L ∧ H' S = some (.dK (dk m)) ∧ IsD m i)
      ⟨none, none, none, [], rfl, k0, hD.same (same_new nS), upd_same, IsD.nil⟩ ?_ ?_
    · rintro i σ H1 hi ⟨y5, y6, y7, m, rfl, k1, d1, eS, hM⟩
      refine ⟨_, rfl, _, rfl, D, L, high, rfl, d1, by omega, by omega, fun r1 H2 a0 a1 k2 d2 => ⟨_, _, rfl, rfl, ?_⟩⟩
      refine ⟨_, rfl, _, rfl, D, L, most, rfl, d2, by omega, by omega, fun r2 H3 b0 b1 k3 d3 => ⟨_, _, rfl, rfl, _, _, rfl, ?_⟩⟩
      -- found[d] = r * (1 - 2 * draw(deck, 2))
      refine ⟨_, rfl, _, rfl, D, L, 2, rfl, d3, by decide, by decide, fun r3 H4 c0 c1 k4 d4 => ?_⟩
      have hSD : S ≠ D := by
        obtain ⟨mm, nn, ns, f1, f2, f3⟩ := hD
        exact (ne_of_none f1 nS).symm
      have hSL : S ≠ L := by
        obtain ⟨mm, nn, ns, f1, f2, f3⟩ := hD
        exact (ne_of_none f2 nS).symm
      have eS4 : H4 S = some (.dK (dk m)) := k4 _ _ hSD hSL (k3 _ _ hSD hSL (k2 _ _ hSD hSL eS))
      have kk : Kp D L H H4 := ((k1.trans k2).trans k3).trans k4
      have hml := hM.len
      refine ⟨_, _, rfl, rfl, .inl ⟨by decide, by decide⟩, _, _, rfl, rfl, _, _, rfl, rfl, .inl ⟨by omega, by omega⟩, _, rfl, _, rfl, S, _, rfl, DPut.k (k := Sum.inl (1 + r1)) eS4 (by rw [dk_len]; exact small1000 (by omega)), ?_⟩
      refine ⟨_, _, _, pm m (1 + r1) ((1 + r2) * (1 - 2 * r3)), rfl, ?_, ?_, ?_, ?_⟩
      · intro b o h1 h2 e
        rw [upd_ne (ne_of_none e nS)]
        exact kk b o h1 h2 e
      · obtain ⟨mm, nn, ns, f1, f2, f3⟩ := d4
        refine ⟨mm, nn, ns, ?_, ?_, f3⟩
        · rw [upd_ne hSD.symm]
          exact f1
        · rw [upd_ne hSL.symm]
          exact f2
      · rw [upd_same]
        show some (HO.dK (putK (dk m) (Sum.inl (1 + r1)) (V.int ((1 + r2) * (1 - 2 * r3))))) = _
        rw [dk_put]
      · refine hM.put ⟨by omega, by omega⟩ ?_
        have h3 : r3 = 0 ∨ r3 = 1 := by omega
        rcases h3 with rfl | rfl <;> omega
    · rintro σ H1 ⟨y5, y6, y7, m, rfl, k1, d1, eS, hM⟩
      have hml := hM.len
      -- tuple([(d, found[d]) for d in sorted(found)])
      refine ⟨_, rfl, S, _, m.map (·.1), rfl, .inl eS, dk_keys m, by rw [List.length_map]; omega, fun ys g hys hso ng => ⟨g, rfl, ⟨_, SqL.of upd_same⟩, fun B nB => ?_⟩⟩
      have s3 : Same H1 (upd H1 g (.lst (ys.map V.int))) := same_new ng
      have hyl : ys.length = m.length := by rw [hys.length_eq, List.length_map]
      refine lc_list (K := K) (a := g) (xs := ys.map V.int) (fun i H' => Same (upd H1 g (.lst (ys.map V.int))) H' ∧ ∃ bs : List Addr, H' B = some (.lst (bs.map V.ref)) ∧ bs.length = i ∧ Prd K H' bs (pl m (ys.take i)))
        ⟨same_new nB, [], upd_same, rfl, .nil⟩ (fun i H' _ z => z.1.seq (SqL.of upd_same)) ?_ ?_
      · rintro i x H' hi ⟨sm, bs, eB, hbl, hbs⟩
        rw [List.getElem?_map] at hi
        cases hy : ys[i]? with
        | none =>
          rw [hy] at hi
          cases hi
        | some d =>
          rw [hy] at hi
          cases hi
          have hil : i < ys.length := (List.getElem?_eq_some_iff.mp hy).1
          have hdm : d ∈ m.map (·.1) := hys.mem_iff.mp (List.mem_of_getElem? hy)
          have eS' : H' S = some (.dK (dk m)) := sm _ _ (s3 _ _ eS)
          have ev : DGet H' S (V.int d) (some (V.int (lkz m d))) := by
            have := DGet.k (k := Sum.inl d) eS'
            rw [dk_val, lk_some hdm] at this
            exact this
          refine ⟨rfl, _, rfl, _, rfl, _, rfl, S, _, rfl, ev, by show 2 ≤ sizeLine; decide, fun c' nc => ?_⟩
          have ncB : B ≠ c' := ne_of_none eB nc
          have s5 : Same H' (upd H' c' (.tup [.int d, .int (lkz m d)])) := same_new nc
          have e5 : (upd H' c' (.tup [.int d, .int (lkz m d)])) c' = some (.tup [.int d, .int (lkz m d)]) := upd_same
          have eB5 := s5 _ _ eB
          refine ⟨_, eB5, ?_, same_mut (same_new2 sm nc) nB, bs ++ [c'], ?_, ?_, ?_⟩
          · rw [List.length_map]
            exact small1000 (by omega)
          · rw [upd_same, List.map_append]
            rfl
          · rw [List.length_append, hbl]
            rfl
          · have e : pl m (ys.take (i + 1)) = pl m (ys.take i) ++ [(d, lkz m d)] := by
              unfold pl
              rw [List.take_add_one, hy, List.map_append]
              rfl
            rw [e]
            exact Paired.snoc (Paired.mono (fun _ _ z => sqT_upd (same_tup s5 z) eB5) hbs) (sqT_upd (SqT.of e5) eB5)
      · rintro H' ⟨sm, bs, eB, hbl, hbs⟩
        rw [List.length_map, List.take_length] at hbs
        refine ⟨B, _, rfl, SqL.of eB, fun c o nc ho => ?_⟩
        have s6 := (s3.trans sm).trans (same_new (o := .frz o (.tup (bs.map V.ref))) nc)
        exact q _ _ (pl m ys) (k1.trans (.of s6)) (d1.same s6) ⟨c, o, bs, rfl, upd_same, ho, hbs.same (same_new nc)⟩ (pl_isP hM ht hys hso)
end
end K17
/-! The law's own joined products, sums, looks. -/
namespace K17
open PySem PySem.Spec PyProof.Rows L2
section
variable {P : Program} {w : World} {K : PySem.W.Frag} {mg : Str → Option Value} {base : Heap}
/-! ### _law_joined -/
def sp_law_joined (K : PySem.W.Frag) : Sp := fun vs H Q _ => ∃ (v v' : V) (ps qs : Pr), vs = [v, v'] ∧ Fz K H v ps ∧ Dp K H v' (dP qs) ∧ IsP ps ∧ IsP qs ∧ ∀ v2 H' J, IsJ ps qs J → Same H H' → Dp K H' v2 (dP J) → Q v2 H'
theorem ok_law_joined (T : Txt K mg) : FnOk P w K mg base CX0 1 T.f_law_joined.f T.f_law_joined.fd ["_law_one", "_law_other"] (sp_law_joined K) := by
  refine T.f_law_joined.F.ok sc_law_joined (fun vs H Q E h => ?_) (fun cdv A outer s H vs Q E hr h => ?_)
  · obtain ⟨v, v', ps, qs, rfl, _⟩ := h
    rfl
  · obtain ⟨v, v', ps, qs, rfl, ⟨a, o, bs, rfl, ha, ho, hbs⟩, hd', hp, hp', q⟩ := h
    obtain ⟨a', xs', rfl, hS', hl', hA'⟩ := of_dpP hd'
    have hlen := hp.len
    have hlen' := hp'.len
    refine ⟨_, (pss_cons (ps_set (i := 2) sc_law_joined.nd rfl (.inr rfl) (pe_callTy (call_dictF rfl) (by rfl) T.m_dict (by decide +kernel) (pa_cons (pv 0) pa_nil)))
    (pss_cons (ps_for PassesOwn.never rfl (pi_tup (pv 1)) (pg_tup rfl (pgs_cons (pg_name (i := 3) sc_law_joined.nd rfl (.inl rfl)) (pgs_cons (pg_name (i := 4) sc_law_joined.nd rfl (.inl rfl)) pgs_nil)))
      (pss_one (ps_dput (hu_of hr) (pv 2) (pv 3) (pe_op op_add (pe_dget2 (hu_of hr) (pv 2) (pv 3) pe_int ⟨rfl, rfl, rfl, rfl⟩) (pv 4)) rfl)))
    (pss_one (ps_ret (pe_callTy call_tupU (by rfl) T.m_tuple (by decide +kernel) (pa_cons (pe_lc (own := [("_law_d", 3)]) (g := gName 3) rfl sc_law_joined.nd (pi_list (pe_callB (call_sortedDI rfl) (by rfl) T.m_sorted (by decide +kernel) (pa_cons (pv 2) pa_nil))) (blkOk_by (own := [("_law_d", 3)]) (N := ["_law_one", "_law_other", "_law_found", "_law_d", "_law_r"]) (sc := defScope s_law_joined) (by decide +kernel)) (fun _ _ _ _ _ => (pg_name (i := 3) sc_law_joined.nd rfl (.inl rfl) (hf := .inr rfl))) (fun _ _ _ _ _ => (pts_one (pt_cmpR op_ne (pe_dget (hu_of hr) (pv 2) (pv 3) (fun _ _ => rfl)) pe_int (nomark _)))) (fun _ _ _ _ _ => (pe_tup (pa_cons (pv 3) (pa_cons (pe_dget (hu_of hr) (pv 2) (pv 3) (fun _ _ => rfl)) pa_nil))))) pa_nil)))))), ?_⟩
    -- found = dict(one)
    have em : mergeK [] (dk ps) = dk ps := merge_dk ps [] (asc_nodup hp.asc)
    refine ⟨_, rfl, a, o, bs, dk ps, rfl, ha, ho, hbs.keys, fun S nS => ?_⟩
    rw [em]
    have s0 : Same H (upd H S (.dK (dk ps))) := same_new nS
    have eS0 : (upd H S (.dK (dk ps))) S = some (.dK (dk ps)) := upd_same
    generalize (upd H S (.dK (dk ps))) = H1 at s0 eS0 ⊢
    have hC := same_tup s0 hS'
    -- for d, r in other
    refine ⟨_, rfl, a', rfl, ⟨_, hC⟩, for_tup (K := K) (a := a') (xs := xs') (fun i σ H2 => ∃ y3 y4 m, σ = [some (.ref a), some (.ref a'), some (.ref S), y3, y4] ∧ (∀ b o, b ≠ S → H1 b = some o → H2 b = some o) ∧ H2 S = some (.dK (dk m)) ∧ IsM (ps ++ qs.take i) m)
      ⟨none, none, ps, rfl, fun _ _ _ e => e, eS0, by rw [List.take_zero, List.append_nil]; exact IsM.self (asc_nodup hp.asc)⟩ ?_ ?_ ?_⟩
    · rintro i σ H2 _ ⟨_, _, m, _, sb, eS, _⟩
      exact sqT_but hC eS0 sb
    · rintro i x σ H2 hi ⟨y3, y4, m, rfl, sb, eS, hM⟩
      obtain ⟨p, b, hpi, rfl, hB⟩ := pair_at hA' hi
      have s2 : Same H H2 := same_but s0 nS sb
      have hml := hM.len
      rw [List.length_append, List.length_take] at hml
      refine g_pair (same_tup s2 hB) ?_
      refine ⟨_, rfl, S, rfl, .inl ⟨_, .inl eS⟩, _, rfl, _, DGet.k (k := Sum.inl p.1) eS, _, rfl, lkz m p.1, p.2, ?_, rfl, _, rfl, _, rfl, S, _, rfl, DPut.k (k := Sum.inl p.1) eS (by rw [dk_len]; exact small1000 (by omega)), _, _, addM m p, rfl, ?_, ?_, ?_⟩
      · rw [dk_val]
        unfold lkz
        cases lk m p.1 <;> rfl
      · intro b' o hb e
        rw [upd_ne hb]
        exact sb b' o hb e
      · rw [upd_same]
        show some (HO.dK (putK (dk m) (Sum.inl p.1) (V.int (lkz m p.1 + p.2)))) = _
        rw [dk_put]
        rfl
      · rw [List.take_add_one, hpi, ← List.append_assoc]
        exact hM.add p
    · rintro σ H2 ⟨y3, y4, m, rfl, sb, eS, hM⟩
      have s2 : Same H H2 := same_but s0 nS sb
      rw [hl', List.take_length] at hM
      have hml := hM.len
      rw [List.length_append] at hml
      refine ⟨_, rfl, S, _, m.map (·.1), rfl, .inl eS, dk_keys m, by rw [List.length_map]; omega, fun ys g hys hso ng => ⟨g, rfl, ⟨_, SqL.of upd_same⟩, fun D nD => ?_⟩⟩
      have s3 : Same H2 (upd H2 g (.lst (ys.map V.int))) := same_new ng
      have hyl : ys.length = m.length := by rw [hys.length_eq, List.length_map]
      refine lc_list (K := K) (a := g) (xs := ys.map V.int) (fun i H' => Same (upd H2 g (.lst (ys.map V.int))) H' ∧ ∃ acc, H' D = some (.lst acc) ∧ acc.length ≤ i ∧ DpAll K H' acc ((jl m (ys.take i)).map fun p => d2 p.1 p.2))
        ⟨same_new nD, [], upd_same, Nat.le_refl _, .nil⟩ (fun i H' _ z => z.1.seq (SqL.of upd_same)) ?_ ?_
      · rintro i x H' hi ⟨sm, acc, eD, hal, hacc⟩
        rw [List.getElem?_map] at hi
        cases hy : ys[i]? with
        | none =>
          rw [hy] at hi
          cases hi
        | some d =>
          rw [hy] at hi
          cases hi
          have hil : i < ys.length := (List.getElem?_eq_some_iff.mp hy).1
          have hdm : d ∈ m.map (·.1) := hys.mem_iff.mp (List.mem_of_getElem? hy)
          have eS' : H' S = some (.dK (dk m)) := sm _ _ (s3 _ _ eS)
          have ev : DGet H' S (V.int d) (some (V.int (lkz m d))) := by
            have := DGet.k (k := Sum.inl d) eS'
            rw [dk_val, lk_some hdm] at this
            exact this
          refine ⟨rfl, _, rfl, _, rfl, S, _, rfl, ev, rfl, _, rfl, ?_⟩
          by_cases hz : lkz m d = 0
          · rw [decide_eq_true (show V.int (lkz m d) = V.int 0 by rw [hz])]
            refine iteF ⟨sm, acc, eD, by omega, ?_⟩
            rw [jl_take m hy, if_neg (fun z => z hz), List.append_nil]
            exact hacc
          · rw [decide_eq_false (show ¬ V.int (lkz m d) = V.int 0 from fun z => hz (V.int.inj z))]
            refine iteT ?_
            refine ⟨_, rfl, _, rfl, _, rfl, S, _, rfl, ev, by show 2 ≤ sizeLine; decide, fun c' nc => ?_⟩
            have ncD : D ≠ c' := ne_of_none eD nc
            refine ⟨acc, by rw [upd_ne ncD]; exact eD, small1000 (by omega), same_mut (same_new2 sm nc) nD, _, upd_same, by rw [List.length_append]; exact Nat.succ_le_succ hal, ?_⟩
            rw [jl_take m hy, if_pos hz]
            exact pairs_snoc hacc nc eD
      · rintro H' ⟨sm, acc, eD, hal, hacc⟩
        rw [List.length_map, List.take_length] at hacc
        have hj := jl_isJ hM hys hso
        refine ⟨D, _, rfl, .inl (SqL.of eD), fun c H3 s4 hc => ?_⟩
        exact q _ H3 _ hj ((s2.trans s3).trans (sm.trans s4)) (dpP hc (dpa_mono s4 _ _ hacc))
/-! ### _law_is_small: either answer -/
def sp_law_is_small (K : PySem.W.Frag) : Sp := fun vs H Q _ => ∃ (v : V) (f : Nat → Int) (N : Nat), vs = [v] ∧ Dp K H v (dB (rw_ N f)) ∧ 1 ≤ N ∧ N ≤ 30 ∧ ∀ b H', Same H H' → Q (.bl b) H'
theorem ok_law_is_small (T : Txt K mg) : FnOk P w K mg base CX0 1 T.f_law_is_small.f T.f_law_is_small.fd ["_law_terms_here"] (sp_law_is_small K) := by
  refine T.f_law_is_small.F.ok sc_law_is_small (fun vs H Q E h => ?_) (fun cdv A outer s H vs Q E hr h => ?_)
  · obtain ⟨v, f, N, rfl, _⟩ := h
    rfl
  · obtain ⟨v, f, N, rfl, hd, hN1, hN, q⟩ := h
    obtain ⟨a, t, rfl, hS, hT⟩ := of_dpB hd
    refine ⟨_, (pss_one (ps_ret (pe_cmpR op_lt (pe_callB (cr_max rfl) (by rfl) T.m_max (by decide +kernel) (pa_cons (pe_lc (own := [("_law_top", 1)]) (g := gName 1) rfl sc_law_is_small.nd (pi_tup (pe_ix ix_tup (pv 0) pe_int (fun _ _ => rfl))) (blkOk_by (own := [("_law_top", 1)]) (N := ["_law_terms_here", "_law_top"]) (sc := defScope s_law_is_small) (by decide +kernel)) (fun _ _ _ _ _ => (pg_name (i := 1) sc_law_is_small.nd rfl (.inl rfl) (hf := .inr rfl))) (fun _ _ _ _ _ => pts_nil) (fun _ _ _ _ _ => (pe_callB call_abs (by rfl) T.m_abs (by decide +kernel) (pa_cons (pv 1) pa_nil)))) pa_nil)) (pe_op op_pow pe_int pe_int) (nomark _)))), ?_⟩
    have hT : SqT K H t (rv N f) := hT
    refine ⟨_, rfl, a, _, 1, _, rfl, rfl, hS, atI_nat (j := 1) rfl, t, rfl, ⟨_, hT⟩, fun D nD => lc_tup (K := K) (a := t) (xs := rv N f) (fun i H' => Same H H' ∧ H' D = some (.lst (rv i fun n => (((f n).natAbs : Nat) : Int)))) ⟨same_new nD, upd_same⟩ (fun i H' _ z => same_tup z.1 hT) ?_ ?_⟩
    · rintro i x H' hi ⟨sm, eD⟩
      have hil := (List.getElem?_eq_some_iff.mp hi).1
      rw [rv_len] at hil
      rw [rv_get f hil] at hi
      cases hi
      refine ⟨rfl, _, rfl, f i, rfl, _, eD, ?_, same_mut sm nD, ?_⟩
      · rw [rv_len]
        exact small1000 (by omega)
      · rw [upd_same, abs_if, rv_snoc i fun n => (((f n).natAbs : Nat) : Int)]
    · rintro H' ⟨sm, eD⟩
      rw [rv_len] at eD
      refine ⟨D, rw_ N fun n => (((f n).natAbs : Nat) : Int), rfl, SqL.of eD, by rw [rw_len]; exact hN1, fun m _ _ => ?_⟩
      exact ⟨_, _, rfl, rfl, ⟨by decide, by decide, by decide⟩, _, _, rfl, rfl, q _ H' sm⟩
/-! ### _law_sum -/
def sp_law_sum (K : PySem.W.Frag) : Sp := fun vs H Q _ => ∃ (v v' : V) (a b c d : Int), vs = [v, v'] ∧ Dp K H v (d2 a b) ∧ Dp K H v' (d2 c d) ∧ a.natAbs ≤ 1000000 ∧ c.natAbs ≤ 1000000 ∧ 0 < b ∧ b ≤ 24 ∧ 0 < d ∧ d ≤ 24 ∧
  ∀ v2 H', Same H H' → Dp K H' v2 (d2 (nrm (a * d + c * b) (b * d)).1 (nrm (a * d + c * b) (b * d)).2) → Q v2 H'
theorem ok_law_sum (T : Txt K mg) : FnOk P w K mg base CX0 3 T.f_law_sum.f T.f_law_sum.fd ["_law_one", "_law_other"] (sp_law_sum K) := by
  have G__law_least := ok_law_least (P := P) (w := w) (base := base) T
  refine T.f_law_sum.F.ok sc_law_sum (fun vs H Q E h => ?_) (fun cdv A outer s H vs Q E hr h => ?_)
  · obtain ⟨v, v', a, b, c, d, rfl, _⟩ := h
    rfl
  · obtain ⟨v, v', a, b, c, d, rfl, hd, hd', ha, hc, hb1, hb2, hd1, hd2, q⟩ := h
    obtain ⟨x, rfl, hx⟩ := of_dp2 hd
    obtain ⟨y, rfl, hy⟩ := of_dp2 hd'
    refine ⟨_, (pss_one (ps_ret (pe_call G__law_least (hr.mono (by decide)) (by rfl) T.f_law_least.g T.f_law_least.F.kp T.f_law_least.b .nil pass0 (pa_cons (pe_op op_add (pe_op op_mul (pe_ix ix_tup (pv 0) pe_int (fun _ _ => rfl)) (pe_ix ix_tup (pv 1) pe_int (fun _ _ => rfl))) (pe_op op_mul (pe_ix ix_tup (pv 1) pe_int (fun _ _ => rfl)) (pe_ix ix_tup (pv 0) pe_int (fun _ _ => rfl)))) (pa_cons (pe_op op_mul (pe_ix ix_tup (pv 0) pe_int (fun _ _ => rfl)) (pe_ix ix_tup (pv 1) pe_int (fun _ _ => rfl))) pa_nil))))), ?_⟩
    have hbd : 0 < b * d := Int.mul_pos hb1 hd1
    have hbd2 : b * d ≤ 24 * 24 := Int.le_trans (Int.mul_le_mul_of_nonneg_right hb2 (by omega)) (Int.mul_le_mul_of_nonneg_left hd2 (by decide))
    refine ⟨_, rfl, x, _, 0, _, rfl, rfl, hx, atI_nat (j := 0) rfl, _, rfl, y, _, 1, _, rfl, rfl, hy, atI_nat (j := 1) rfl, _, _, rfl, rfl, .inl ⟨by omega, by omega⟩, ?_⟩
    refine ⟨_, rfl, y, _, 0, _, rfl, rfl, hy, atI_nat (j := 0) rfl, _, rfl, x, _, 1, _, rfl, rfl, hx, atI_nat (j := 1) rfl, _, _, rfl, rfl, .inl ⟨by omega, by omega⟩, _, _, rfl, rfl, ?_⟩
    refine ⟨_, rfl, x, _, 1, _, rfl, rfl, hx, atI_nat (j := 1) rfl, _, rfl, y, _, 1, _, rfl, rfl, hy, atI_nat (j := 1) rfl, _, _, rfl, rfl, .inl ⟨by omega, by omega⟩, ?_⟩
    exact ⟨_, _, rfl, hbd, by omega, q⟩
/-! ### _law_same -/
def sp_law_same (K : PySem.W.Frag) : Sp := fun vs H Q _ => ∃ (a b : Addr) (d : PyData), vs = [.ref a, .ref b] ∧ Dp K H (.ref a) d ∧ Dp K H (.ref b) d ∧ Okd d 200000 3 ∧ Q (.bl true) H
theorem ok_law_same (T : Txt K mg) : FnG P w K mg base 1 T.f_law_same.f T.f_law_same.fd ["_law_told", "_law_due"] (sp_law_same K) := by
  refine okG T.f_law_same.F sc_law_same (fun vs H Q E h => ?_) (fun cdv A outer s H vs Q E hr hgd h => ?_)
  · obtain ⟨a, b, d, rfl, _⟩ := h
    rfl
  · obtain ⟨a, b, d, rfl, h1, h2, ok, q⟩ := h
    have hsz : d.shown.length ≤ sizeLine := Nat.le_trans ok.l (by decide)
    have hdp : d.depth ≤ 16 := Nat.le_trans ok.e (by decide)
    refine ⟨_, (pss_one (ps_ret (pe_cmpR op_eq (pe_callB (cr_repr hr hgd) (by rfl) T.m_repr (by decide +kernel) (pa_cons (pv 0) pa_nil)) (pe_callB (cr_repr hr hgd) (by rfl) T.m_repr (by decide +kernel) (pa_cons (pv 1) pa_nil)) (nomark _)))), ?_⟩
    refine ⟨_, rfl, a, d, rfl, h1, ok.s, ok.h, hdp, hsz, _, rfl, b, d, rfl, h2, ok.s, ok.h, hdp, hsz, rfl, ?_⟩
    rw [decide_eq_true rfl]
    exact q
end
end K17
/-! The law's looks at one product. -/
namespace K17
open PySem PySem.Spec PyProof.Rows L2
section
variable {P : Program} {w : World} {K : PySem.W.Frag} {mg : Str → Option Value} {base : Heap}
/-! ### _law_is_told_right -/
def sp_law_is_told_right (K : PySem.W.Frag) : Sp := fun vs H Q _ => ∃ (v : V) (ps : Pr) (N : Nat), vs = [v, .int (N : Int)] ∧ Dp K H v (dP ps) ∧ IsP ps ∧ 1 ≤ N ∧ N ≤ 30 ∧ ∀ H', Same H H' → Q (.bl true) H'
theorem ok_law_is_told_right (T : Txt K mg) : FnG P w K mg base 6 T.f_law_is_told_right.f T.f_law_is_told_right.fd ["_law_product_here", "_law_many"] (sp_law_is_told_right K) := by
  have G__law_terms := ok_law_terms (P := P) (w := w) (base := base) T
  have G__law_least := ok_law_least (P := P) (w := w) (base := base) T
  have G_start_of := ok_start_of (P := P) (w := w) (base := base) T
  have G_product_terms := ok_product_terms (P := P) (w := w) (base := base) T
  have G__law_same := ok_law_same (P := P) (w := w) (base := base) T
  have G_product_weight := ok_product_weight (P := P) (w := w) (base := base) T
  refine okG T.f_law_is_told_right.F sc_law_is_told_right (fun vs H Q E h => ?_) (fun cdv A outer s H vs Q E hr hgd h => ?_)
  · obtain ⟨v, ps, N, rfl, _⟩ := h
    rfl
  · obtain ⟨v, ps, N, rfl, hd, hp, hN1, hN2, q⟩ := h
    obtain ⟨a, xs, rfl, hS, hl, hA⟩ := of_dpP hd
    have hlen := hp.len
    have hss := hp.ssum
    refine ⟨_, (pss_cons (ps_set (i := 2) sc_law_is_told_right.nd rfl (.inl rfl) (pe_op op_rep (pe_lst (pa_cons (pe_tup (pa_cons pe_int (pa_cons (pe_callTy call_tupU (by rfl) T.m_tuple (by decide +kernel) (pa_cons (pe_call G__law_terms (hr.mono (by decide)) (by rfl) T.f_law_terms.g T.f_law_terms.F.kp T.f_law_terms.b .nil pass0 (pa_cons (pv 0) (pa_cons (pv 1) pa_nil))) pa_nil)) pa_nil))) pa_nil)) pe_int))
    (pss_cons (ps_expr (pe_bm PySem.F.plainAttrs_list PySem.F.slot_list_append PySem.F.type_list_append mt_append (pv 2) (pa_cons (pe_call G__law_least (hr.mono (by decide)) (by rfl) T.f_law_least.g T.f_law_least.F.kp T.f_law_least.b .nil pass0 (pa_cons (pe_callB (cr_sum rfl) (by rfl) T.m_sum (by decide +kernel) (pa_cons (pe_lc (own := [("_law_d", 3), ("_law_r", 4)]) (g := gTup K 2 (gCons (gName 3) (gCons (gName 4) gNil))) rfl sc_law_is_told_right.nd (pi_tup (pv 0)) (blkOk_by (own := [("_law_d", 3), ("_law_r", 4)]) (N := ["_law_product_here", "_law_many", "_law_due", "_law_d", "_law_r", "_law_told"]) (sc := defScope s_law_is_told_right) (by decide +kernel)) (fun _ _ _ _ _ => (pg_tup rfl (pgs_cons (pg_name (i := 3) sc_law_is_told_right.nd rfl (.inl rfl) (hf := .inr rfl)) (pgs_cons (pg_name (i := 4) sc_law_is_told_right.nd rfl (.inl rfl) (hf := .inr rfl)) pgs_nil)))) (fun _ _ _ _ _ => pts_nil) (fun _ _ _ _ _ => (pe_op op_mul (pv 3) (pv 4)))) pa_nil)) (pa_cons pe_int pa_nil))) pa_nil)))
    (pss_cons (ps_expr (pe_bm PySem.F.plainAttrs_list PySem.F.slot_list_append PySem.F.type_list_append mt_append (pv 2) (pa_cons (pe_call G__law_least (hr.mono (by decide)) (by rfl) T.f_law_least.g T.f_law_least.F.kp T.f_law_least.b .nil pass0 (pa_cons (pe_callB (cr_sum rfl) (by rfl) T.m_sum (by decide +kernel) (pa_cons (pe_lc (own := [("_law_d", 3), ("_law_r", 4)]) (g := gTup K 2 (gCons (gName 3) (gCons (gName 4) gNil))) rfl sc_law_is_told_right.nd (pi_tup (pv 0)) (blkOk_by (own := [("_law_d", 3), ("_law_r", 4)]) (N := ["_law_product_here", "_law_many", "_law_due", "_law_d", "_law_r", "_law_told"]) (sc := defScope s_law_is_told_right) (by decide +kernel)) (fun _ _ _ _ _ => (pg_tup rfl (pgs_cons (pg_name (i := 3) sc_law_is_told_right.nd rfl (.inl rfl) (hf := .inr rfl)) (pgs_cons (pg_name (i := 4) sc_law_is_told_right.nd rfl (.inl rfl) (hf := .inr rfl)) pgs_nil)))) (fun _ _ _ _ _ => pts_nil) (fun _ _ _ _ _ => (pv 4))) pa_nil)) (pa_cons pe_int pa_nil))) pa_nil)))
    (pss_cons (ps_set (i := 5) sc_law_is_told_right.nd rfl (.inl rfl) (pe_lst (pa_cons (pe_call G_product_terms (hr.mono (by decide)) (by rfl) T.f_product_terms.g T.f_product_terms.F.kp T.f_product_terms.b .nil pass0 (pa_cons (pv 0) (pa_cons (pv 1) pa_nil))) (pa_cons (pe_callN0 G_product_terms (hr.mono (by decide)) (by rfl) T.f_product_terms.g T.f_product_terms.F.kp T.k_product_terms pass0 (pk_cons (pv 1) (pk_cons (pv 0) pk_nil))) (pa_cons (pe_callN0 G_start_of (hr.mono (by decide)) (by rfl) T.f_start_of.g T.f_start_of.F.kp T.k_start_of pass0 (pk_cons (pv 0) pk_nil)) pa_nil)))))
    (pss_one (ps_ret (pe_callG G__law_same (hr.mono (by decide)) hgd (by rfl) T.f_law_same.g T.f_law_same.F.kp T.f_law_same.b (pa_cons (pe_op op_cat (pv 5) (pe_lst (pa_cons (pe_call G_product_weight (hr.mono (by decide)) (by rfl) T.f_product_weight.g T.f_product_weight.F.kp T.f_product_weight.b .nil pass0 (pa_cons (pv 0) pa_nil)) pa_nil))) (pa_cons (pv 2) pa_nil))))))))), ?_⟩
    -- due = [(1, tuple(terms))] * 2
    refine ⟨_, rfl, _, rfl, _, ps, N, rfl, hd, hp, hN1, hN2, fun p H1 s1 e1 => ⟨p, _, rfl, .inl (SqL.of e1), fun t H2 s2 ht => ⟨by show 2 ≤ sizeLine; decide, fun c nc => ?_⟩⟩⟩
    have s3 := same_new2 (o := .tup [.int 1, .ref t]) (s1.trans s2) nc
    have dc : Dp K (upd H2 c (.tup [.int 1, .ref t])) (.ref c) (dB (rw_ N (tm (cs ps)))) := dpB (SqT.of upd_same) (same_tup (same_new nc) ht)
    generalize (upd H2 c (.tup [.int 1, .ref t])) = H3 at s3 dc ⊢
    refine ⟨by show 1 ≤ sizeLine; decide, fun l nl => ?_⟩
    have s4 := same_new2 (o := .lst [.ref c]) s3 nl
    have dc := dp_new (o := .lst [.ref c]) dc nl
    refine ⟨l, 2, _, rfl, rfl, upd_same, by decide, by decide, by show 1 * 2 ≤ sizeLine; decide, fun U nU => ?_⟩
    have nU0 : H U = none := s4.free nU
    have s5 := same_new2 (o := .lst (List.replicate (2 : Int).toNat [V.ref c]).flatten) s4 nU
    have dc := dp_new (o := .lst (List.replicate (2 : Int).toNat [V.ref c]).flatten) dc nU
    have eU : (upd (upd H3 l (.lst [.ref c])) U (.lst (List.replicate (2 : Int).toNat [V.ref c]).flatten)) U = some (.lst [.ref c, .ref c]) := upd_same
    generalize (upd (upd H3 l (.lst [.ref c])) U (.lst (List.replicate (2 : Int).toNat [V.ref c]).flatten)) = H5 at s5 dc eU ⊢
    clear s4 s3 s1
    -- due.append(least(sum([d * r ..]), 24))
    refine ⟨_, rfl, .inl ⟨rfl, _, SqL.of eU⟩, ?_⟩
    refine ⟨_, rfl, a, rfl, ⟨_, same_tup s5 hS⟩, fun D nD => lc_tup (K := K) (a := a) (xs := xs) (fun i H' => Same H5 H' ∧ H' D = some (.lst (((ps.take i).map fun p => p.1 * p.2).map V.int))) ⟨same_new nD, upd_same⟩ (fun i H' _ z => same_tup (s5.trans z.1) hS) ?_ ?_⟩
    · rintro i x H' hi ⟨sm, eD⟩
      obtain ⟨p, b, hpi, rfl, hB⟩ := pair_at hA hi
      have hmem : p ∈ ps := List.mem_of_getElem? hpi
      have h1 := hp.lo p hmem
      have h2 := hp.hi p hmem
      refine g_pair (same_tup (s5.trans sm) hB) ?_
      refine ⟨rfl, _, rfl, _, rfl, _, _, rfl, rfl, .inl ⟨by omega, by omega⟩, _, eD, ?_, same_mut sm nD, ?_⟩
      · rw [List.length_map, List.length_map, List.length_take]
        exact small1000 (by omega)
      · rw [upd_same, List.take_add_one, hpi, List.map_append, List.map_append]
        rfl
    · rintro H6 ⟨s6, eD⟩
      rw [hl, List.take_length] at eD
      have es : ((ps.map fun p => p.1 * p.2)).sum = ssum ps := rfl
      refine ⟨D, _, rfl, SqL.of eD, _, _, rfl, by decide, by decide, fun w1 H7 s7 d7 => ?_⟩
      rw [es] at d7
      obtain ⟨x1, rfl, hx1⟩ := of_dp2 d7
      have eU7 := s7 _ _ (s6 _ _ eU)
      refine ⟨U, _, _, rfl, rfl, eU7, by show 2 < sizeLine; decide, ?_⟩
      have s8 := same_mut (o := .lst ([V.ref c, .ref c] ++ [.ref x1])) ((s5.trans s6).trans s7) nU0
      have hx1 := sqT_upd (o := .lst ([V.ref c, .ref c] ++ [.ref x1])) hx1 eU7
      have eU8 : (upd H7 U (.lst ([V.ref c, .ref c] ++ [.ref x1]))) U = some (.lst [.ref c, .ref c, .ref x1]) := upd_same
      have dc8 : ∃ t, SqT K (upd H7 U (.lst ([V.ref c, .ref c] ++ [.ref x1]))) c [.int 1, .ref t] ∧ SqT K (upd H7 U (.lst ([V.ref c, .ref c] ++ [.ref x1]))) t ((rw_ N (tm (cs ps))).map V.int) := by
        obtain ⟨c', t, e, h1, h2⟩ := of_dpB (dp_mono (s6.trans s7) _ _ dc)
        cases e
        exact ⟨t, sqT_upd h1 eU7, sqT_upd h2 eU7⟩
      generalize (upd H7 U (.lst ([V.ref c, .ref c] ++ [.ref x1]))) = H8 at s8 hx1 eU8 dc8 ⊢
      clear dc s5 s6 s7 eU eU7 eD d7
      -- due.append(least(sum([r ..]), 2))
      refine ⟨_, rfl, .inl ⟨rfl, _, SqL.of eU8⟩, ?_⟩
      refine ⟨_, rfl, a, rfl, ⟨_, same_tup s8 hS⟩, fun D nD => lc_tup (K := K) (a := a) (xs := xs) (fun i H' => Same H8 H' ∧ H' D = some (.lst (((ps.take i).map fun p => p.2).map V.int))) ⟨same_new nD, upd_same⟩ (fun i H' _ z => same_tup (s8.trans z.1) hS) ?_ ?_⟩
      · rintro i x H' hi ⟨sm, eD⟩
        obtain ⟨p, b, hpi, rfl, hB⟩ := pair_at hA hi
        refine g_pair (same_tup (s8.trans sm) hB) ?_
        refine ⟨rfl, _, rfl, _, eD, ?_, same_mut sm nD, ?_⟩
        · rw [List.length_map, List.length_map, List.length_take]
          exact small1000 (by omega)
        · rw [upd_same, List.take_add_one, hpi, List.map_append, List.map_append]
          rfl
      · rintro H9 ⟨s9, eD⟩
        rw [hl, List.take_length] at eD
        have es : ((ps.map fun p => p.2)).sum = psum2 ps := rfl
        refine ⟨D, _, rfl, SqL.of eD, _, _, rfl, by decide, by decide, fun w2 H10 s10 d10 => ?_⟩
        rw [es] at d10
        obtain ⟨x2, rfl, hx2⟩ := of_dp2 d10
        have eU10 := s10 _ _ (s9 _ _ eU8)
        refine ⟨U, _, _, rfl, rfl, eU10, by show 3 < sizeLine; decide, ?_⟩
        have s11 := same_mut (o := .lst ([V.ref c, .ref c, .ref x1] ++ [.ref x2])) ((s8.trans s9).trans s10) nU0
        have hx2 := sqT_upd (o := .lst ([V.ref c, .ref c, .ref x1] ++ [.ref x2])) hx2 eU10
        have hx1 := sqT_upd (o := .lst ([V.ref c, .ref c, .ref x1] ++ [.ref x2])) (same_tup (s9.trans s10) hx1) eU10
        obtain ⟨t1, hc1, ht1⟩ := dc8
        have dc := dpB (sqT_upd (o := .lst ([V.ref c, .ref c, .ref x1] ++ [.ref x2])) (same_tup (s9.trans s10) hc1) eU10) (sqT_upd (o := .lst ([V.ref c, .ref c, .ref x1] ++ [.ref x2])) (same_tup (s9.trans s10) ht1) eU10)
        have dU : Dp K (upd H10 U (.lst ([V.ref c, .ref c, .ref x1] ++ [.ref x2]))) (.ref U) (.list [dB (rw_ N (tm (cs ps))), dB (rw_ N (tm (cs ps))), d2 (nrm (ssum ps) 24).1 (nrm (ssum ps) 24).2, d2 (nrm (psum2 ps) 2).1 (nrm (psum2 ps) 2).2]) :=
          .lst (SqL.of (xs := [V.ref c, .ref c, .ref x1, .ref x2]) upd_same) (.cons dc (.cons dc (.cons (dp2 hx1) (.cons (dp2 hx2) .nil))))
        generalize (upd H10 U (.lst ([V.ref c, .ref c, .ref x1] ++ [.ref x2]))) = H11 at s11 dU ⊢
        clear dc hx1 hx2 eU10 s9 s10 eD d10 s8
        -- told
        refine ⟨_, rfl, _, rfl, _, ps, N, rfl, dp_mono s11 _ _ hd, hp, hN1, hN2, fun v1 H12 s12 d12 => ?_⟩
        have t12 := s11.trans s12
        refine ⟨_, rfl, _, rfl, rfl, rfl, _, ps, N, rfl, dp_mono t12 _ _ hd, hp, hN1, hN2, fun v2 H13 s13 d13 => ?_⟩
        have t13 := t12.trans s13
        refine ⟨_, rfl, rfl, rfl, _, ps, rfl, dp_mono t13 _ _ hd, hp, fun v3 H14 s14 d14 => ?_⟩
        have t14 := t13.trans s14
        refine ⟨by show 3 ≤ sizeLine; decide, fun l2 nl2 => ?_⟩
        have s15 : Same H14 (upd H14 l2 (.lst [v1, v2, v3])) := same_new nl2
        have e15 : (upd H14 l2 (.lst [v1, v2, v3])) l2 = some (.lst [v1, v2, v3]) := upd_same
        generalize (upd H14 l2 (.lst [v1, v2, v3])) = H15 at s15 e15 ⊢
        -- same(told + [product_weight(..)], due)
        refine ⟨_, rfl, _, rfl, _, ps, rfl, dp_mono (t14.trans s15) _ _ hd, hp, fun v4 H16 s16 d16 => ?_⟩
        refine ⟨by show 1 ≤ sizeLine; decide, fun l3 nl3 => ?_⟩
        have s17 : Same H16 (upd H16 l3 (.lst [v4])) := same_new nl3
        refine ⟨l2, l3, _, _, rfl, rfl, s17 _ _ (s16 _ _ e15), upd_same, by show 4 ≤ sizeLine; decide, fun l4 nl4 => ?_⟩
        have s18 := same_new (o := .lst ([v1, v2, v3] ++ [v4])) nl4
        have e18 : (upd (upd H16 l3 (.lst [v4])) l4 (.lst ([v1, v2, v3] ++ [v4]))) l4 = some (.lst [v1, v2, v3, v4]) := upd_same
        have z16 := s17.trans s18
        have z15 := s16.trans z16
        have z14 := s15.trans z15
        have z13 := s14.trans z14
        have z12 := s13.trans z13
        refine ⟨_, rfl, l4, U, _, rfl, .lst (SqL.of e18) (.cons (dp_mono z12 _ _ d12) (.cons (dp_mono z13 _ _ d13) (.cons (dp_mono z14 _ _ d14) (.cons (dp_mono z16 _ _ d16) .nil)))), dp_mono (s12.trans z12) _ _ dU, ?_, q _ (t12.trans z12)⟩
        exact Okd.list4 (Okd.dB (hp.bd.mono (by decide)) hN2) (Okd.dB (hp.bd.mono (by decide)) hN2) (Okd.start hp) (Okd.weight hp)
end
end K17
/-! The law's looks at two products. -/
namespace K17
open PySem PySem.Spec PyProof.Rows L2
/-! ### [1 for .. if ..] != [] -/
def hits (f : Int × Int → Bool) (l : Pr) : List Int := (l.filter f).map fun _ => 1
theorem hits_take (f : Int × Int → Bool) {l : Pr} {i : Nat} {p : Int × Int} (h : l[i]? = some p) : hits f (l.take (i + 1)) = hits f (l.take i) ++ (if f p = true then [1] else []) := by
  unfold hits
  rw [List.take_add_one, h, List.filter_append, List.map_append]
  show _ ++ ([p].filter f).map _ = _
  rw [List.filter_cons]
  cases f p <;> rfl
theorem hits_len (f : Int × Int → Bool) (l : Pr) : (hits f l).length ≤ l.length := by
  unfold hits
  rw [List.length_map]
  exact List.length_filter_le _ _
theorem hits_nil {f : Int × Int → Bool} {l : Pr} (h : hits f l = []) : ∀ p ∈ l, f p = false := by
  intro p hp
  cases hf : f p with
  | false => rfl
  | true =>
    have hm : (1 : Int) ∈ hits f l := List.mem_map.mpr ⟨p, List.mem_filter.mpr ⟨hp, hf⟩, rfl⟩
    rw [h] at hm
    exact absurd hm List.not_mem_nil
theorem ne_nil (ns : List Int) : (!PyData.eqv (.list (dI ns)) (.list [])) = !ns.isEmpty := by
  cases ns <;> rfl
section
variable {P : Program} {w : World} {K : PySem.W.Frag} {mg : Str → Option Value} {base : Heap}
/-! ### _law_are_both_right -/
def sp_law_are_both_right (K : PySem.W.Frag) : Sp := fun vs H Q _ => ∃ (v v' : V) (ps qs : Pr) (N : Nat), vs = [v, v', .int (N : Int)] ∧ Fz K H v ps ∧ Dp K H v' (dP qs) ∧ IsP ps ∧ IsP qs ∧ 1 ≤ N ∧ N ≤ 30 ∧ ∀ H', Same H H' → Q (.bl true) H'
theorem ok_law_are_both_right (T : Txt K mg) : FnG P w K mg base 7 T.f_law_are_both_right.f T.f_law_are_both_right.fd ["_law_one", "_law_other", "_law_many"] (sp_law_are_both_right K) := by
  have G__law_joined := ok_law_joined (P := P) (w := w) (base := base) T
  have G__law_same := ok_law_same (P := P) (w := w) (base := base) T
  have G_joined_product := ok_joined_product (P := P) (w := w) (base := base) T
  have G_product_weight := ok_product_weight (P := P) (w := w) (base := base) T
  have G_start_of := ok_start_of (P := P) (w := w) (base := base) T
  have G__law_sum := ok_law_sum (P := P) (w := w) (base := base) T
  have G__law_is_told_right := ok_law_is_told_right (P := P) (w := w) (base := base) T
  have G_product_terms := ok_product_terms (P := P) (w := w) (base := base) T
  have G__law_is_small := ok_law_is_small (P := P) (w := w) (base := base) T
  have G_multiplied := ok_multiplied (P := P) (w := w) (base := base) T
  refine okG T.f_law_are_both_right.F sc_law_are_both_right (fun vs H Q E h => ?_) (fun cdv A outer s H vs Q E hr hgd h => ?_)
  · obtain ⟨v, v', ps, qs, N, rfl, _⟩ := h
    rfl
  · obtain ⟨v, v', ps, qs, N, rfl, hd, hd', hp, hp', hN1, hN2, q⟩ := h
    refine ⟨_, (pss_cons (ps_set (i := 3) sc_law_are_both_right.nd rfl (.inl rfl) (pe_call G__law_joined (hr.mono (by decide)) (by rfl) T.f_law_joined.g T.f_law_joined.F.kp T.f_law_joined.b .nil pass0 (pa_cons (pv 0) (pa_cons (pv 1) pa_nil))))
    (pss_cons (ps_if (PW.pt (pw_or (pt_cmpR op_gt (pe_callB call_len_seq (by rfl) T.m_len (by decide +kernel) (pa_cons (pv 3) pa_nil)) pe_int (nomark _)) (pw_or1 (pt_cmpR (op_neD hr.units) (pe_lc (own := [("_law_d", 4), ("_law_r", 5)]) (g := gTup K 2 (gCons (gName 4) (gCons (gName 5) gNil))) rfl sc_law_are_both_right.nd (pi_tup (pv 3)) (blkOk_by (own := [("_law_d", 4), ("_law_r", 5)]) (N := ["_law_one", "_law_other", "_law_many", "_law_both", "_law_d", "_law_r", "_law_told", "_law_due", "_law_near", "_law_far"]) (sc := defScope s_law_are_both_right) (by decide +kernel)) (fun _ _ _ _ _ => (pg_tup rfl (pgs_cons (pg_name (i := 4) sc_law_are_both_right.nd rfl (.inl rfl) (hf := .inr rfl)) (pgs_cons (pg_name (i := 5) sc_law_are_both_right.nd rfl (.inl rfl) (hf := .inr rfl)) pgs_nil)))) (fun _ _ _ _ _ => (pts_one (pt_cmpR op_gt (pe_callB call_abs (by rfl) T.m_abs (by decide +kernel) (pa_cons (pv 5) pa_nil)) pe_int (nomark _)))) (fun _ _ _ _ _ => pe_int)) (pe_lst pa_nil) (nomark _)))))
      (pss_one (ps_ret pe_bl))
      pss_nil)
    (pss_cons (ps_if (pt_not (pt_val (pe_callG G__law_same (hr.mono (by decide)) hgd (by rfl) T.f_law_same.g T.f_law_same.F.kp T.f_law_same.b (pa_cons (pe_lst (pa_cons (pe_call G_joined_product (hr.mono (by decide)) (by rfl) T.f_joined_product.g T.f_joined_product.F.kp T.f_joined_product.b .nil pass0 (pa_cons (pv 0) (pa_cons (pv 1) pa_nil))) (pa_cons (pe_callN0 G_joined_product (hr.mono (by decide)) (by rfl) T.f_joined_product.g T.f_joined_product.F.kp T.k_joined_product pass0 (pk_cons (pv 0) (pk_cons (pv 1) pk_nil))) pa_nil))) (pa_cons (pe_lst (pa_cons (pv 3) (pa_cons (pv 3) pa_nil))) pa_nil)))))
      (pss_one (ps_ret pe_bl))
      pss_nil)
    (pss_cons (ps_set (i := 6) sc_law_are_both_right.nd rfl (.inl rfl) (pe_lst (pa_cons (pe_call G_start_of (hr.mono (by decide)) (by rfl) T.f_start_of.g T.f_start_of.F.kp T.f_start_of.b .nil pass0 (pa_cons (pv 3) pa_nil)) (pa_cons (pe_call G_product_weight (hr.mono (by decide)) (by rfl) T.f_product_weight.g T.f_product_weight.F.kp T.f_product_weight.b .nil pass0 (pa_cons (pv 3) pa_nil)) pa_nil))))
    (pss_cons (ps_set (i := 7) sc_law_are_both_right.nd rfl (.inl rfl) (pe_lst (pa_cons (pe_call G__law_sum (hr.mono (by decide)) (by rfl) T.f_law_sum.g T.f_law_sum.F.kp T.f_law_sum.b .nil pass0 (pa_cons (pe_call G_start_of (hr.mono (by decide)) (by rfl) T.f_start_of.g T.f_start_of.F.kp T.f_start_of.b .nil pass0 (pa_cons (pv 0) pa_nil)) (pa_cons (pe_call G_start_of (hr.mono (by decide)) (by rfl) T.f_start_of.g T.f_start_of.F.kp T.f_start_of.b .nil pass0 (pa_cons (pv 1) pa_nil)) pa_nil))) (pa_cons (pe_call G__law_sum (hr.mono (by decide)) (by rfl) T.f_law_sum.g T.f_law_sum.F.kp T.f_law_sum.b .nil pass0 (pa_cons (pe_call G_product_weight (hr.mono (by decide)) (by rfl) T.f_product_weight.g T.f_product_weight.F.kp T.f_product_weight.b .nil pass0 (pa_cons (pv 0) pa_nil)) (pa_cons (pe_call G_product_weight (hr.mono (by decide)) (by rfl) T.f_product_weight.g T.f_product_weight.F.kp T.f_product_weight.b .nil pass0 (pa_cons (pv 1) pa_nil)) pa_nil))) pa_nil))))
    (pss_cons (ps_if (PW.pt (pw_or (pt_not (pt_val (pe_callG G__law_same (hr.mono (by decide)) hgd (by rfl) T.f_law_same.g T.f_law_same.F.kp T.f_law_same.b (pa_cons (pv 6) (pa_cons (pv 7) pa_nil))))) (pw_or1 (pt_not (pt_val (pe_callG G__law_is_told_right (hr.mono (by decide)) hgd (by rfl) T.f_law_is_told_right.g T.f_law_is_told_right.F.kp T.f_law_is_told_right.b (pa_cons (pv 3) (pa_cons (pv 2) pa_nil))))))))
      (pss_one (ps_ret pe_bl))
      pss_nil)
    (pss_cons (ps_par (i := 8) (j := 9) rfl sc_law_are_both_right.nd rfl rfl (by decide) rfl rfl (pa_cons (pe_call G_product_terms (hr.mono (by decide)) (by rfl) T.f_product_terms.g T.f_product_terms.F.kp T.f_product_terms.b .nil pass0 (pa_cons (pv 0) (pa_cons (pv 2) pa_nil))) (pa_cons (pe_call G_product_terms (hr.mono (by decide)) (by rfl) T.f_product_terms.g T.f_product_terms.F.kp T.f_product_terms.b .nil pass0 (pa_cons (pv 1) (pa_cons (pv 2) pa_nil))) pa_nil)) (by rfl))
    (pss_cons (ps_if (PW.pt (pw_or (pt_not (pt_val (pe_call G__law_is_small (hr.mono (by decide)) (by rfl) T.f_law_is_small.g T.f_law_is_small.F.kp T.f_law_is_small.b .nil pass0 (pa_cons (pv 8) pa_nil)))) (pw_or1 (pt_not (pt_val (pe_call G__law_is_small (hr.mono (by decide)) (by rfl) T.f_law_is_small.g T.f_law_is_small.F.kp T.f_law_is_small.b .nil pass0 (pa_cons (pv 9) pa_nil)))))))
      (pss_one (ps_ret pe_bl))
      pss_nil)
    (pss_one (ps_ret (pe_callG G__law_same (hr.mono (by decide)) hgd (by rfl) T.f_law_same.g T.f_law_same.F.kp T.f_law_same.b (pa_cons (pe_call G_multiplied (hr.mono (by decide)) (by rfl) T.f_multiplied.g T.f_multiplied.F.kp T.f_multiplied.b .nil pass0 (pa_cons (pv 8) (pa_cons (pv 9) pa_nil))) (pa_cons (pe_call G_product_terms (hr.mono (by decide)) (by rfl) T.f_product_terms.g T.f_product_terms.F.kp T.f_product_terms.b .nil pass0 (pa_cons (pv 3) (pa_cons (pv 2) pa_nil))) pa_nil))))))))))))), ?_⟩
    -- both = joined(one, other)
    refine ⟨_, rfl, _, rfl, v, v', ps, qs, rfl, hd, hd', hp, hp', fun vJ H1 J hJ s1 dJ => ?_⟩
    obtain ⟨a, xs, rfl, hS, hl, hA⟩ := of_dpP dJ
    have hfd := hd.dp
    -- if len(both) > 8
    refine ⟨_, rfl, a, xs, rfl, .inr hS, _, _, rfl, rfl, _, rfl, ?_⟩
    by_cases hl8 : J.length ≤ 8
    · rw [decide_eq_false (show ¬ (8 : Int) < ((xs.length : Nat) : Int) by omega)]
      refine iteF ?_
      -- or [1 for d, r in both if abs(r) > 30] != []
      refine ⟨_, rfl, a, rfl, ⟨_, hS⟩, fun D nD => lc_tup (K := K) (a := a) (xs := xs) (fun i H' => Same H1 H' ∧ H' D = some (.lst ((hits (fun p => decide (30 < ((p.2.natAbs : Nat) : Int))) (J.take i)).map V.int))) ⟨same_new nD, upd_same⟩ (fun i H' _ z => same_tup z.1 hS) ?_ ?_⟩
      · rintro i x H' hi ⟨sm, eD⟩
        obtain ⟨p, b, hpi, rfl, hB⟩ := pair_at hA hi
        have hfl := hits_len (fun p : Int × Int => decide (30 < ((p.2.natAbs : Nat) : Int))) (J.take i)
        rw [List.length_take] at hfl
        refine g_pair (same_tup sm hB) ?_
        refine ⟨rfl, _, rfl, p.2, rfl, _, _, rfl, rfl, _, rfl, ?_⟩
        rw [abs_if]
        by_cases hb : 30 < ((p.2.natAbs : Nat) : Int)
        · rw [decide_eq_true hb]
          refine iteT ⟨_, eD, ?_, same_mut sm nD, ?_⟩
          · rw [List.length_map]
            exact small1000 (by omega)
          · rw [upd_same, hits_take _ hpi, if_pos (decide_eq_true hb), List.map_append]
            rfl
        · rw [decide_eq_false hb]
          refine iteF ⟨sm, ?_⟩
          rw [eD, hits_take _ hpi, if_neg (fun z => hb (of_decide_eq_true z)), List.append_nil]
      · rintro H2 ⟨s2, eD⟩
        rw [hl, List.take_length] at eD
        refine ⟨by show 0 ≤ sizeLine; decide, fun c nc => ?_⟩
        have s3 := same_new (o := .lst []) nc
        have ec : (upd H2 c (.lst [])) c = some (.lst []) := upd_same
        have eD3 := s3 _ _ eD
        generalize (upd H2 c (.lst [])) = H3 at s3 ec eD3 ⊢
        have t3 := (s1.trans s2).trans s3
        have dJ3 := dp_mono (s2.trans s3) _ _ dJ
        generalize hh : hits (fun p => decide (30 < ((p.2.natAbs : Nat) : Int))) J = hs at eD3
        refine ⟨.list (dI hs), .list [], .lst (SqL.of eD3) (dpI hs), .lst (SqL.of ec) .nil, shaped_ints hs, by decide, _, rfl, ?_⟩
        rw [ne_nil]
        cases hs with
        | cons y ys => exact iteT (q _ t3)
        | nil =>
          refine iteF ?_
          have hpJ : IsP J := hJ.isP hp hp' hl8 fun p hm => by
            have := of_decide_eq_false (hits_nil hh p hm)
            omega
          -- same([joined(one, other), joined(other=one, one=other)], [both, both])
          refine ⟨_, rfl, _, rfl, v, v', ps, qs, rfl, dp_mono t3 _ _ hfd, dp_mono t3 _ _ hd', hp, hp', fun J' h' => h'.uniq hJ ▸ hpJ, fun w1 H4 J' hJ' s4 d4 => ?_⟩
          obtain rfl := hJ'.uniq hJ
          refine ⟨_, rfl, _, rfl, rfl, rfl, v', v, qs, ps, rfl, dp_mono (t3.trans s4) _ _ hd', dp_mono (t3.trans s4) _ _ hfd, hp', hp, fun J'' h'' => (h''.comm.uniq hJ) ▸ hpJ, fun w2 H5 J'' hJ'' s5 d5 => ?_⟩
          obtain rfl := hJ''.comm.uniq hJ
          refine ⟨by show 2 ≤ sizeLine; decide, fun l1 nl1 => ?_⟩
          refine ⟨_, rfl, _, rfl, by show 2 ≤ sizeLine; decide, fun l2 nl2 => ?_⟩
          have s6 := same_new (o := .lst [w1, w2]) nl1
          have s7 := same_new (o := .lst [.ref a, .ref a]) nl2
          have e6 : (upd H5 l1 (.lst [w1, w2])) l1 = some (.lst [w1, w2]) := upd_same
          have e7 : (upd (upd H5 l1 (.lst [w1, w2])) l2 (.lst [.ref a, .ref a])) l2 = some (.lst [.ref a, .ref a]) := upd_same
          have t7 := (s4.trans s5).trans (s6.trans s7)
          have da := dp_mono t7 _ _ dJ3
          refine ⟨l1, l2, .list [dP J'', dP J''], rfl, .lst (SqL.of (s7 _ _ e6)) (.cons (dp_mono (s5.trans (s6.trans s7)) _ _ d4) (.cons (dp_mono (s6.trans s7) _ _ d5) .nil)), .lst (SqL.of e7) (.cons da (.cons da .nil)), Okd.list2 (Okd.dP hpJ) (Okd.dP hpJ), true, rfl, iteF ?_⟩
          have t8 := t3.trans t7
          clear e6 e7 d4 d5 hJ' hJ'' eD3 ec eD nl1 nl2
          generalize (upd (upd H5 l1 (.lst [w1, w2])) l2 (.lst [.ref a, .ref a])) = H6 at t8 da ⊢
          have hps := hp.ssum
          have hpw := hp.psum
          have hqs := hp'.ssum
          have hqw := hp'.psum
          -- told = [start_of(both), product_weight(both)]
          refine ⟨_, rfl, _, J'', rfl, da, hpJ, fun w3 H7 s9 d9 => ⟨_, rfl, _, J'', rfl, dp_mono s9 _ _ da, hpJ, fun w4 H8 s10 d10 => ⟨by show 2 ≤ sizeLine; decide, fun l3 nl3 => ?_⟩⟩⟩
          have s11 := same_new (o := .lst [w3, w4]) nl3
          have dT : Dp K (upd H8 l3 (.lst [w3, w4])) (.ref l3) (.list [d2 (nrm (ssum J'') 24).1 (nrm (ssum J'') 24).2, d2 (nrm (psum2 J'') 2).1 (nrm (psum2 J'') 2).2]) :=
            .lst (SqL.of (xs := [w3, w4]) upd_same) (.cons (dp_mono (s10.trans s11) _ _ d9) (.cons (dp_mono s11 _ _ d10) .nil))
          have t11 := t8.trans (s9.trans (s10.trans s11))
          have da := dp_mono (s9.trans (s10.trans s11)) _ _ da
          generalize (upd H8 l3 (.lst [w3, w4])) = H9 at t11 dT da ⊢
          -- due = [sum(start_of(one), start_of(other)), sum(product_weight(one), product_weight(other))]
          refine ⟨_, rfl, v, ps, rfl, dp_mono t11 _ _ hfd, hp, fun x1 H10 u1 e1 => ?_⟩
          refine ⟨_, rfl, v', qs, rfl, dp_mono (t11.trans u1) _ _ hd', hp', fun x2 H11 u2 e2 => ?_⟩
          have c1 := nrm_cross (a := ssum ps) (b := 24) (by decide)
          have c2 := nrm_cross (a := ssum qs) (b := 24) (by decide)
          have z1 := nrm_small (a := ssum ps) (b := 24) (by decide) (by decide) (by omega)
          have z2 := nrm_small (a := ssum qs) (b := 24) (by decide) (by decide) (by omega)
          refine ⟨x1, x2, _, _, _, _, rfl, dp_mono u2 _ _ e1, e2, z1.1, z2.1, c1.2.1, c1.2.2, c2.2.1, c2.2.2, fun y1 H12 u3 e3 => ?_⟩
          rw [nrm_add (by decide), ← ssum_joined hJ] at e3
          have u13 := u1.trans (u2.trans u3)
          refine ⟨_, rfl, v, ps, rfl, dp_mono (t11.trans u13) _ _ hfd, hp, fun x3 H13 u4 e4 => ?_⟩
          refine ⟨_, rfl, v', qs, rfl, dp_mono ((t11.trans u13).trans u4) _ _ hd', hp', fun x4 H14 u5 e5 => ?_⟩
          have c3 := nrm_cross (a := psum2 ps) (b := 2) (by decide)
          have c4 := nrm_cross (a := psum2 qs) (b := 2) (by decide)
          have z3 := nrm_small (a := psum2 ps) (b := 2) (by decide) (by decide) (by omega)
          have z4 := nrm_small (a := psum2 qs) (b := 2) (by decide) (by decide) (by omega)
          refine ⟨x3, x4, _, _, _, _, rfl, dp_mono u5 _ _ e4, e5, z3.1, z4.1, c3.2.1, by omega, c4.2.1, by omega, fun y2 H15 u6 e6 => ?_⟩
          rw [nrm_add (by decide), ← psum2_joined hJ] at e6
          have u46 := u4.trans (u5.trans u6)
          refine ⟨by show 2 ≤ sizeLine; decide, fun l4 nl4 => ?_⟩
          have u7 := same_new (o := .lst [y1, y2]) nl4
          have dU : Dp K (upd H15 l4 (.lst [y1, y2])) (.ref l4) (.list [d2 (nrm (ssum J'') 24).1 (nrm (ssum J'') 24).2, d2 (nrm (psum2 J'') 2).1 (nrm (psum2 J'') 2).2]) :=
            .lst (SqL.of (xs := [y1, y2]) upd_same) (.cons (dp_mono (u46.trans u7) _ _ e3) (.cons (dp_mono u7 _ _ e6) .nil))
          have ux := u13.trans (u46.trans u7)
          have t16 := t11.trans ux
          have dT := dp_mono ux _ _ dT
          have da := dp_mono ux _ _ da
          clear e1 e2 e3 e4 e5 e6 d9 d10
          generalize (upd H15 l4 (.lst [y1, y2])) = H16 at t16 dT dU da ⊢
          -- if not same(told, due) or not is_told_right(both, many)
          refine ⟨_, rfl, _, rfl, l3, l4, _, rfl, dT, dU, Okd.list2 (Okd.start hpJ) (Okd.weight hpJ), true, rfl, iteF ?_⟩
          refine ⟨_, rfl, _, rfl, _, J'', N, rfl, da, hpJ, hN1, hN2, fun H17 r1 => ⟨true, rfl, iteF ?_⟩⟩
          have t17 := t16.trans r1
          -- near, far
          refine ⟨_, rfl, _, rfl, v, ps, N, rfl, dp_mono t17 _ _ hfd, hp, hN1, hN2, fun n1 H18 r2 f1 => ?_⟩
          refine ⟨_, rfl, _, rfl, v', qs, N, rfl, dp_mono (t17.trans r2) _ _ hd', hp', hN1, hN2, fun n2 H19 r3 f2 => ⟨_, _, rfl, ?_⟩⟩
          have f1 := dp_mono r3 _ _ f1
          have t19 := (t17.trans r2).trans r3
          have da := dp_mono (r1.trans (r2.trans r3)) _ _ da
          refine ⟨_, rfl, n1, _, N, rfl, f1, hN1, hN2, fun b1 H20 r4 => ⟨b1, rfl, ?_⟩⟩
          cases b1 with
          | false => exact iteT (iteT (q _ (t19.trans r4)))
          | true =>
            refine iteF ⟨_, rfl, n2, _, N, rfl, dp_mono r4 _ _ f2, hN1, hN2, fun b2 H21 r5 => ⟨b2, rfl, ?_⟩⟩
            have r45 := r4.trans r5
            cases b2 with
            | false => exact iteT (q _ (t19.trans r45))
            | true =>
              refine iteF ?_
              -- same(multiplied(near, far), product_terms(both, many))
              refine ⟨_, rfl, _, rfl, n1, n2, tm (cs ps), tm (cs qs), N, rfl, dp_mono r45 _ _ f1, dp_mono r45 _ _ f2, hN1, hN2, hp.bd.mono (by decide), hp'.bd.mono (by decide), fun m1 H22 r6 g1 => ?_⟩
              refine ⟨_, rfl, _, rfl, _, J'', N, rfl, dp_mono (r45.trans r6) _ _ da, hpJ, hN1, hN2, fun m2 H23 r7 g2 => ?_⟩
              have g1 := dp_mono r7 _ _ g1
              rw [rw_congr fun i _ => tm_joined hp.lo hp'.lo hpJ.lo hJ i] at g1
              obtain ⟨b1, o1, rfl, _, _⟩ := of_dpB g1
              obtain ⟨b2, o2, rfl, _, _⟩ := of_dpB g2
              exact ⟨b1, b2, _, rfl, g1, g2, (Okd.dB (hpJ.bd.mono (by decide)) hN2).mono (by decide) (by decide), q _ (((t19.trans r45).trans r6).trans r7)⟩
    · rw [decide_eq_true (show (8 : Int) < ((xs.length : Nat) : Int) by omega)]
      exact iteT (iteT (q _ s1))
end
end K17
/-! The law's looks at undone and spread products. -/
namespace K17
open PySem PySem.Spec PyProof.Rows L2
theorem rv_unit {N : Nat} (h : 1 ≤ N) : [V.int 1] ++ (List.replicate (N - 1) [V.int 0]).flatten = rv N one := by
  rw [rv_one h one rfl]
  refine rv_congr fun i _ => ?_
  unfold one
  split <;> split <;> omega
section
variable {P : Program} {w : World} {K : PySem.W.Frag} {mg : Str → Option Value} {base : Heap}
/-! ### _law_is_undone_right -/
def sp_law_is_undone_right (K : PySem.W.Frag) : Sp := fun vs H Q _ => ∃ (v : V) (ps : Pr) (N : Nat), vs = [v, .int (N : Int)] ∧ Dp K H v (dP ps) ∧ IsP ps ∧ 1 ≤ N ∧ N ≤ 30 ∧ N ≠ 2 ∧ ∀ H', Same H H' → Q (.bl true) H'
theorem ok_law_is_undone_right (T : Txt K mg) : FnG P w K mg base 7 T.f_law_is_undone_right.f T.f_law_is_undone_right.fd ["_law_product_here", "_law_many"] (sp_law_is_undone_right K) := by
  have G__law_same := ok_law_same (P := P) (w := w) (base := base) T
  have G_undone_product := ok_undone_product (P := P) (w := w) (base := base) T
  have G__law_is_told_right := ok_law_is_told_right (P := P) (w := w) (base := base) T
  have G_product_terms := ok_product_terms (P := P) (w := w) (base := base) T
  have G__law_is_small := ok_law_is_small (P := P) (w := w) (base := base) T
  have G_joined_product := ok_joined_product (P := P) (w := w) (base := base) T
  have G_power := ok_power (P := P) (w := w) (base := base) T
  have G_multiplied := ok_multiplied (P := P) (w := w) (base := base) T
  refine okG T.f_law_is_undone_right.F sc_law_is_undone_right (fun vs H Q E h => ?_) (fun cdv A outer s H vs Q E hr hgd h => ?_)
  · obtain ⟨v, ps, N, rfl, _⟩ := h
    rfl
  · obtain ⟨v, ps, N, rfl, hd, hp, hN1, hN2, hN3, q⟩ := h
    obtain ⟨a, xs, rfl, hS, hl, hA⟩ := of_dpP hd
    have hlen := hp.len
    have hpn := hp.neg
    refine ⟨_, (pss_cons (ps_set (i := 2) sc_law_is_undone_right.nd rfl (.inl rfl) (pe_callTy call_tupU (by rfl) T.m_tuple (by decide +kernel) (pa_cons (pe_lc (own := [("_law_d", 3), ("_law_r", 4)]) (g := gTup K 2 (gCons (gName 3) (gCons (gName 4) gNil))) rfl sc_law_is_undone_right.nd (pi_tup (pv 0)) (blkOk_by (own := [("_law_d", 3), ("_law_r", 4)]) (N := ["_law_product_here", "_law_many", "_law_far", "_law_d", "_law_r", "_law_near", "_law_back", "_law_due"]) (sc := defScope s_law_is_undone_right) (by decide +kernel)) (fun _ _ _ _ _ => (pg_tup rfl (pgs_cons (pg_name (i := 3) sc_law_is_undone_right.nd rfl (.inl rfl) (hf := .inr rfl)) (pgs_cons (pg_name (i := 4) sc_law_is_undone_right.nd rfl (.inl rfl) (hf := .inr rfl)) pgs_nil)))) (fun _ _ _ _ _ => pts_nil) (fun _ _ _ _ _ => (pe_tup (pa_cons (pv 3) (pa_cons (pe_op op_sub pe_int (pv 4)) pa_nil))))) pa_nil)))
    (pss_cons (ps_if (pt_not (pt_val (pe_callG G__law_same (hr.mono (by decide)) hgd (by rfl) T.f_law_same.g T.f_law_same.F.kp T.f_law_same.b (pa_cons (pe_lst (pa_cons (pe_call G_undone_product (hr.mono (by decide)) (by rfl) T.f_undone_product.g T.f_undone_product.F.kp T.f_undone_product.b .nil pass0 (pa_cons (pv 0) pa_nil)) (pa_cons (pe_callN0 G_undone_product (hr.mono (by decide)) (by rfl) T.f_undone_product.g T.f_undone_product.F.kp T.k_undone_product pass0 (pk_cons (pv 2) pk_nil)) pa_nil))) (pa_cons (pe_lst (pa_cons (pv 2) (pa_cons (pv 0) pa_nil))) pa_nil)))))
      (pss_one (ps_ret pe_bl))
      pss_nil)
    (pss_cons (ps_if (pt_not (pt_val (pe_callG G__law_is_told_right (hr.mono (by decide)) hgd (by rfl) T.f_law_is_told_right.g T.f_law_is_told_right.F.kp T.f_law_is_told_right.b (pa_cons (pv 2) (pa_cons (pv 1) pa_nil)))))
      (pss_one (ps_ret pe_bl))
      pss_nil)
    (pss_cons (ps_par (i := 5) (j := 6) rfl sc_law_is_undone_right.nd rfl rfl (by decide) rfl rfl (pa_cons (pe_call G_product_terms (hr.mono (by decide)) (by rfl) T.f_product_terms.g T.f_product_terms.F.kp T.f_product_terms.b .nil pass0 (pa_cons (pv 0) (pa_cons (pv 1) pa_nil))) (pa_cons (pe_call G_product_terms (hr.mono (by decide)) (by rfl) T.f_product_terms.g T.f_product_terms.F.kp T.f_product_terms.b .nil pass0 (pa_cons (pv 2) (pa_cons (pv 1) pa_nil))) pa_nil)) (by rfl))
    (pss_cons (ps_if (PW.pt (pw_or (pt_not (pt_val (pe_call G__law_is_small (hr.mono (by decide)) (by rfl) T.f_law_is_small.g T.f_law_is_small.F.kp T.f_law_is_small.b .nil pass0 (pa_cons (pv 5) pa_nil)))) (pw_or1 (pt_not (pt_val (pe_call G__law_is_small (hr.mono (by decide)) (by rfl) T.f_law_is_small.g T.f_law_is_small.F.kp T.f_law_is_small.b .nil pass0 (pa_cons (pv 6) pa_nil)))))))
      (pss_one (ps_ret pe_bl))
      pss_nil)
    (pss_cons (ps_set (i := 7) sc_law_is_undone_right.nd rfl (.inl rfl) (pe_tup (pa_cons pe_int (pa_cons (pe_op op_catU (pe_tup (pa_cons pe_int pa_nil)) (pe_op op_repU (pe_tup (pa_cons pe_int pa_nil)) (pe_op op_sub (pv 1) pe_int))) pa_nil))))
    (pss_one (ps_ret (pe_callG G__law_same (hr.mono (by decide)) hgd (by rfl) T.f_law_same.g T.f_law_same.F.kp T.f_law_same.b (pa_cons (pe_lst (pa_cons (pe_call G_multiplied (hr.mono (by decide)) (by rfl) T.f_multiplied.g T.f_multiplied.F.kp T.f_multiplied.b .nil pass0 (pa_cons (pv 5) (pa_cons (pv 6) pa_nil))) (pa_cons (pe_call G_power (hr.mono (by decide)) (by rfl) T.f_power.g T.f_power.F.kp T.f_power.b .nil pass0 (pa_cons (pv 5) (pa_cons (pe_un un_neg pe_int) pa_nil))) (pa_cons (pe_call G_joined_product (hr.mono (by decide)) (by rfl) T.f_joined_product.g T.f_joined_product.F.kp T.f_joined_product.b .nil pass0 (pa_cons (pv 0) (pa_cons (pv 2) pa_nil))) pa_nil)))) (pa_cons (pe_lst (pa_cons (pv 7) (pa_cons (pv 6) (pa_cons (pe_tup pa_nil) pa_nil)))) pa_nil))))))))))), ?_⟩
    -- far
    refine ⟨_, rfl, a, rfl, ⟨_, hS⟩, fun D nD => lc_tup (K := K) (a := a) (xs := xs) (fun i H' => Same H H' ∧ ∃ acc, H' D = some (.lst acc) ∧ acc.length = i ∧ DpAll K H' acc ((neg (ps.take i)).map fun p => d2 p.1 p.2)) ⟨same_new nD, [], upd_same, rfl, .nil⟩ (fun i H' _ z => same_tup z.1 hS) ?_ ?_⟩
    · rintro i x H' hi ⟨sm, acc, eD, el, hacc⟩
      obtain ⟨p, b, hpi, rfl, hB⟩ := pair_at hA hi
      have hil : i < ps.length := (List.getElem?_eq_some_iff.mp hpi).1
      refine g_pair (same_tup sm hB) ?_
      refine ⟨rfl, _, rfl, _, rfl, _, _, rfl, rfl, by show 2 ≤ sizeLine; decide, fun c nc => ?_⟩
      have ncD : D ≠ c := ne_of_none eD nc
      refine ⟨acc, by rw [upd_ne ncD]; exact eD, small1000 (by omega), same_mut (same_new2 sm nc) nD, _, upd_same, by rw [List.length_append, el]; rfl, ?_⟩
      have e : neg (ps.take (i + 1)) = neg (ps.take i) ++ [(p.1, 0 - p.2)] := by
        unfold neg
        rw [List.take_add_one, hpi, List.map_append, Int.zero_sub]
        rfl
      rw [e]
      exact pairs_snoc hacc nc eD
    · rintro H1 ⟨s1, acc, eD, el, hacc⟩
      rw [hl, List.take_length] at hacc
      refine ⟨D, _, rfl, .inl (SqL.of eD), fun c H2 s2 hc => ?_⟩
      have dF : Dp K H2 (.ref c) (dP (neg ps)) := dpP hc (dpa_mono s2 _ _ hacc)
      have t2 := s1.trans s2
      -- same([undone(product), undone(product=far)], [far, product])
      refine ⟨_, rfl, _, ps, rfl, dp_mono t2 _ _ hd, hp, fun w1 H3 s3 d3 => ?_⟩
      refine ⟨_, rfl, rfl, rfl, _, neg ps, rfl, dp_mono s3 _ _ dF, hpn, fun w2 H4 s4 d4 => ?_⟩
      rw [neg_neg_] at d4
      refine ⟨by show 2 ≤ sizeLine; decide, fun l1 nl1 => ?_⟩
      refine ⟨_, rfl, _, rfl, by show 2 ≤ sizeLine; decide, fun l2 nl2 => ?_⟩
      have s5 := same_new (o := .lst [w1, w2]) nl1
      have s6 := same_new (o := .lst [.ref c, .ref a]) nl2
      have e5 : (upd H4 l1 (.lst [w1, w2])) l1 = some (.lst [w1, w2]) := upd_same
      have e6 : (upd (upd H4 l1 (.lst [w1, w2])) l2 (.lst [.ref c, .ref a])) l2 = some (.lst [.ref c, .ref a]) := upd_same
      have s56 := s5.trans s6
      have s26 := s3.trans (s4.trans s56)
      have t6 := t2.trans s26
      have dF6 := dp_mono s26 _ _ dF
      refine ⟨l1, l2, .list [dP (neg ps), dP ps], rfl, .lst (SqL.of (s6 _ _ e5)) (.cons (dp_mono (s4.trans s56) _ _ d3) (.cons (dp_mono s56 _ _ d4) .nil)), .lst (SqL.of e6) (.cons dF6 (.cons (dp_mono t6 _ _ hd) .nil)), Okd.list2 (Okd.dP hpn) (Okd.dP hp), true, rfl, iteF ?_⟩
      clear e5 e6 d3 d4 nl1 nl2 hacc eD dF
      generalize (upd (upd H4 l1 (.lst [w1, w2])) l2 (.lst [.ref c, .ref a])) = H6 at t6 dF6 ⊢
      -- if not is_told_right(far, many)
      refine ⟨_, rfl, _, rfl, _, neg ps, N, rfl, dF6, hpn, hN1, hN2, fun H7 s7 => ⟨true, rfl, iteF ?_⟩⟩
      have t7 := t6.trans s7
      -- near, back
      refine ⟨_, rfl, _, rfl, _, ps, N, rfl, dp_mono t7 _ _ hd, hp, hN1, hN2, fun n1 H8 s8 f1 => ?_⟩
      refine ⟨_, rfl, _, rfl, _, neg ps, N, rfl, dp_mono (s7.trans s8) _ _ dF6, hpn, hN1, hN2, fun n2 H9 s9 f2 => ⟨_, _, rfl, ?_⟩⟩
      have f1 := dp_mono s9 _ _ f1
      have t9 := (t7.trans s8).trans s9
      have dF9 := dp_mono (s7.trans (s8.trans s9)) _ _ dF6
      refine ⟨_, rfl, n1, _, N, rfl, f1, hN1, hN2, fun b1 H10 s10 => ⟨b1, rfl, ?_⟩⟩
      cases b1 with
      | false => exact iteT (iteT (q _ (t9.trans s10)))
      | true =>
        refine iteF ⟨_, rfl, n2, _, N, rfl, dp_mono s10 _ _ f2, hN1, hN2, fun b2 H11 s11 => ⟨b2, rfl, ?_⟩⟩
        have r2 := s10.trans s11
        cases b2 with
        | false => exact iteT (q _ (t9.trans r2))
        | true =>
          refine iteF ?_
          have t11 := t9.trans r2
          have f1 := dp_mono r2 _ _ f1
          have f2 := dp_mono r2 _ _ f2
          have dF11 := dp_mono r2 _ _ dF9
          -- due = (1, (1,) + (0,) * (many - 1))
          refine ⟨by show 1 ≤ sizeLine; decide, fun p1 np1 => ⟨by show 1 ≤ sizeLine; decide, fun p2 np2 => ?_⟩⟩
          have q1 := same_new (o := .tup [.int 1]) np1
          have q2 := same_new (o := .tup [.int 0]) np2
          have g1 : (upd H11 p1 (.tup [.int 1])) p1 = some (.tup [.int 1]) := upd_same
          have g2 : (upd (upd H11 p1 (.tup [.int 1])) p2 (.tup [.int 0])) p2 = some (.tup [.int 0]) := upd_same
          have ek : ((N : Int) - 1) = ((N - 1 : Nat) : Int) := by omega
          refine ⟨_, rfl, _, _, rfl, rfl, p2, N - 1, [.int 0], rfl, congrArg V.int ek, SqT.of g2, by simp, by omega, by omega, by show 1 ≤ 1000; decide, fun p3 np3 => ?_⟩
          have q3 := same_new (o := .tup (List.replicate (N - 1) [V.int 0]).flatten) np3
          have g3 : (upd (upd (upd H11 p1 (.tup [.int 1])) p2 (.tup [.int 0])) p3 (.tup (List.replicate (N - 1) [V.int 0]).flatten)) p3 = some (.tup (List.replicate (N - 1) [V.int 0]).flatten) := upd_same
          refine ⟨p1, p3, [.int 1], _, rfl, rfl, SqT.of (q3 _ _ (q2 _ _ g1)), SqT.of g3, ?_, fun p4 H12 q4 h4 => ?_⟩
          · rw [rep_one, List.length_replicate]
            exact sz1000 (by show 1 + (N - 1) ≤ 1000; omega)
          rw [rv_unit hN1] at h4
          refine ⟨by show 2 ≤ sizeLine; decide, fun p5 np5 => ?_⟩
          have q5 := same_new (o := .tup [.int 1, .ref p4]) np5
          have dU : Dp K (upd H12 p5 (.tup [.int 1, .ref p4])) (.ref p5) (dB (rw_ N one)) := dpB (SqT.of upd_same) (same_tup q5 h4)
          have qq := q1.trans (q2.trans (q3.trans (q4.trans q5)))
          have t12 := t11.trans qq
          have f1 := dp_mono qq _ _ f1
          have f2 := dp_mono qq _ _ f2
          have dF12 := dp_mono qq _ _ dF11
          generalize (upd H12 p5 (.tup [.int 1, .ref p4])) = H13 at t12 f1 f2 dF12 dU ⊢
          -- same([multiplied(near, back), power(near, -1), joined(product, far)], [due, back, ()])
          refine ⟨_, rfl, _, rfl, n1, n2, tm (cs ps), tm (cs (neg ps)), N, rfl, f1, f2, hN1, hN2, hp.bd.mono (by decide), hpn.bd.mono (by decide), fun m1 H14 r1 g1 => ?_⟩
          refine ⟨_, rfl, 1, rfl, n1, tm (cs ps), tm (cs (neg ps)), N, rfl, dp_mono r1 _ _ f1, hN1, hN2, hp.bd.mono (by decide), hpn.bd.mono (by decide), tm_zero _, tm_zero _, ?_, fun m2 H15 r2 g2 => ?_⟩
          · intro n _
            rw [tm_undone hp.lo]
            rfl
          refine ⟨_, rfl, _, rfl, _, _, ps, neg ps, rfl, dp_mono ((t12.trans r1).trans r2) _ _ hd, dp_mono (r1.trans r2) _ _ dF12, hp, hpn, fun J hJ => (hJ.uniq (IsJ.undone ps)) ▸ IsP.nil, fun m3 H16 J hJ r3 g3 => ?_⟩
          obtain rfl := hJ.uniq (IsJ.undone ps)
          rw [rw_congr fun i _ => tm_undone hp.lo i] at g1
          refine ⟨by show 3 ≤ sizeLine; decide, fun l3 nl3 => ?_⟩
          have r4 := same_new (o := .lst [m1, m2, m3]) nl3
          have e4 : (upd H16 l3 (.lst [m1, m2, m3])) l3 = some (.lst [m1, m2, m3]) := upd_same
          refine ⟨_, rfl, _, rfl, by show 0 ≤ sizeLine; decide, fun z nz => ?_⟩
          have r5 := same_new (o := .tup []) nz
          have ez : (upd (upd H16 l3 (.lst [m1, m2, m3])) z (.tup [])) z = some (.tup []) := upd_same
          refine ⟨by show 3 ≤ sizeLine; decide, fun l4 nl4 => ?_⟩
          have r6 := same_new (o := .lst [.ref p5, n2, .ref z]) nl4
          have e6 : (upd (upd (upd H16 l3 (.lst [m1, m2, m3])) z (.tup [])) l4 (.lst [.ref p5, n2, .ref z])) l4 = some (.lst [.ref p5, n2, .ref z]) := upd_same
          have x6 := r4.trans (r5.trans r6)
          have x13 := r1.trans (r2.trans (r3.trans x6))
          refine ⟨l3, l4, .list [dB (rw_ N one), dB (rw_ N (tm (cs (neg ps)))), dP []], rfl, .lst (SqL.of (r6 _ _ (r5 _ _ e4))) (.cons (dp_mono (r2.trans (r3.trans x6)) _ _ g1) (.cons (dp_mono (r3.trans x6) _ _ g2) (.cons (dp_mono x6 _ _ g3) .nil))),
            .lst (SqL.of e6) (.cons (dp_mono x13 _ _ dU) (.cons (dp_mono x13 _ _ f2) (.cons (.tup (SqT.of (r6 _ _ ez)) .nil) .nil))), Okd.list3 (Okd.dB (one_Bd.mono (by decide)) hN2) (Okd.dB (hpn.bd.mono (by decide)) hN2) (Okd.dP IsP.nil), q _ (t12.trans x13)⟩
end
end K17
/-! The law's looks at spread products. -/
namespace K17
open PySem PySem.Spec PyProof.Rows L2
theorem cdiv_le {N t : Nat} (hN : 1 ≤ N) (ht : 1 ≤ t) : cdiv N t ≤ N := by
  have e : cdiv N t = (N - 1) / t + 1 := by
    unfold cdiv
    rw [show N + t - 1 = (N - 1) + t by omega, Nat.add_div_right _ (by omega)]
  have := Nat.div_le_self (N - 1) t
  omega
section
variable {P : Program} {w : World} {K : PySem.W.Frag} {mg : Str → Option Value} {base : Heap}
def sp_law_is_spread_right (K : PySem.W.Frag) : Sp := fun vs H Q _ => ∃ (v : V) (ps : Pr) (t N : Nat), vs = [v, .int (t : Int), .int (N : Int)] ∧ Dp K H v (dP ps) ∧ IsP ps ∧ 1 ≤ t ∧ t ≤ 5 ∧ 1 ≤ N ∧ N ≤ 30 ∧ ∀ H', Same H H' → Q (.bl true) H'
theorem ok_law_is_spread_right (T : Txt K mg) : FnG P w K mg base 6 T.f_law_is_spread_right.f T.f_law_is_spread_right.fd ["_law_product_here", "_law_t", "_law_many"] (sp_law_is_spread_right K) := by
  have G_product_terms := ok_product_terms (P := P) (w := w) (base := base) T
  have G__law_same := ok_law_same (P := P) (w := w) (base := base) T
  have G_spread_product := ok_spread_product (P := P) (w := w) (base := base) T
  have G_start_of := ok_start_of (P := P) (w := w) (base := base) T
  have G_product_weight := ok_product_weight (P := P) (w := w) (base := base) T
  have G__law_least := ok_law_least (P := P) (w := w) (base := base) T
  have G__law_is_small := ok_law_is_small (P := P) (w := w) (base := base) T
  have G_spread := ok_spread (P := P) (w := w) (base := base) T
  have G_every := ok_every (P := P) (w := w) (base := base) T
  refine okG T.f_law_is_spread_right.F sc_law_is_spread_right (fun vs H Q E h => ?_) (fun cdv A outer s H vs Q E hr hgd h => ?_)
  · obtain ⟨v, ps, t, N, rfl, _⟩ := h
    rfl
  · obtain ⟨v, ps, t, N, rfl, hd, hp, ht1, ht2, hN1, hN2, q⟩ := h
    obtain ⟨a, xs, rfl, hS, hl, hA⟩ := of_dpP hd
    have hlen := hp.len
    refine ⟨_, (pss_cons (ps_if (pt_cmpR (op_neD hr.units) (pe_lc (own := [("_law_d", 3), ("_law_r", 4)]) (g := gTup K 2 (gCons (gName 3) (gCons (gName 4) gNil))) rfl sc_law_is_spread_right.nd (pi_tup (pv 0)) (blkOk_by (own := [("_law_d", 3), ("_law_r", 4)]) (N := ["_law_product_here", "_law_t", "_law_many", "_law_d", "_law_r", "_law_far", "_law_near", "_law_told", "_law_start", "_law_due", "_law_some"]) (sc := defScope s_law_is_spread_right) (by decide +kernel)) (fun _ _ _ _ _ => (pg_tup rfl (pgs_cons (pg_name (i := 3) sc_law_is_spread_right.nd rfl (.inl rfl) (hf := .inr rfl)) (pgs_cons (pg_name (i := 4) sc_law_is_spread_right.nd rfl (.inl rfl) (hf := .inr rfl)) pgs_nil)))) (fun _ _ _ _ _ => (pts_one (pt_cmpR op_gt (pe_op op_mul (pv 3) (pv 1)) pe_int (nomark _)))) (fun _ _ _ _ _ => pe_int)) (pe_lst pa_nil) (nomark _))
      (pss_one (ps_ret pe_bl))
      pss_nil)
    (pss_cons (ps_par (i := 5) (j := 6) rfl sc_law_is_spread_right.nd rfl rfl (by decide) rfl rfl (pa_cons (pe_callTy call_tupU (by rfl) T.m_tuple (by decide +kernel) (pa_cons (pe_lc (own := [("_law_d", 3), ("_law_r", 4)]) (g := gTup K 2 (gCons (gName 3) (gCons (gName 4) gNil))) rfl sc_law_is_spread_right.nd (pi_tup (pv 0)) (blkOk_by (own := [("_law_d", 3), ("_law_r", 4)]) (N := ["_law_product_here", "_law_t", "_law_many", "_law_d", "_law_r", "_law_far", "_law_near", "_law_told", "_law_start", "_law_due", "_law_some"]) (sc := defScope s_law_is_spread_right) (by decide +kernel)) (fun _ _ _ _ _ => (pg_tup rfl (pgs_cons (pg_name (i := 3) sc_law_is_spread_right.nd rfl (.inl rfl) (hf := .inr rfl)) (pgs_cons (pg_name (i := 4) sc_law_is_spread_right.nd rfl (.inl rfl) (hf := .inr rfl)) pgs_nil)))) (fun _ _ _ _ _ => pts_nil) (fun _ _ _ _ _ => (pe_tup (pa_cons (pe_op op_mul (pv 3) (pv 1)) (pa_cons (pv 4) pa_nil))))) pa_nil)) (pa_cons (pe_call G_product_terms (hr.mono (by decide)) (by rfl) T.f_product_terms.g T.f_product_terms.F.kp T.f_product_terms.b .nil pass0 (pa_cons (pv 0) (pa_cons (pv 2) pa_nil))) pa_nil)) (by rfl))
    (pss_cons (ps_if (pt_not (pt_val (pe_callG G__law_same (hr.mono (by decide)) hgd (by rfl) T.f_law_same.g T.f_law_same.F.kp T.f_law_same.b (pa_cons (pe_lst (pa_cons (pe_call G_spread_product (hr.mono (by decide)) (by rfl) T.f_spread_product.g T.f_spread_product.F.kp T.f_spread_product.b .nil pass0 (pa_cons (pv 0) (pa_cons (pv 1) pa_nil))) (pa_cons (pe_callN0 G_spread_product (hr.mono (by decide)) (by rfl) T.f_spread_product.g T.f_spread_product.F.kp T.k_spread_product pass0 (pk_cons (pv 1) (pk_cons (pv 0) pk_nil))) pa_nil))) (pa_cons (pe_lst (pa_cons (pv 5) (pa_cons (pv 5) pa_nil))) pa_nil)))))
      (pss_one (ps_ret pe_bl))
      pss_nil)
    (pss_cons (ps_par (i := 7) (j := 8) rfl sc_law_is_spread_right.nd rfl rfl (by decide) rfl rfl (pa_cons (pe_call G_product_terms (hr.mono (by decide)) (by rfl) T.f_product_terms.g T.f_product_terms.F.kp T.f_product_terms.b .nil pass0 (pa_cons (pv 5) (pa_cons (pv 2) pa_nil))) (pa_cons (pe_call G_start_of (hr.mono (by decide)) (by rfl) T.f_start_of.g T.f_start_of.F.kp T.f_start_of.b .nil pass0 (pa_cons (pv 0) pa_nil)) pa_nil)) (by rfl))
    (pss_cons (ps_set (i := 9) sc_law_is_spread_right.nd rfl (.inl rfl) (pe_lst (pa_cons (pe_call G__law_least (hr.mono (by decide)) (by rfl) T.f_law_least.g T.f_law_least.F.kp T.f_law_least.b .nil pass0 (pa_cons (pe_op op_mul (pe_ix ix_tup (pv 8) pe_int (fun _ _ => rfl)) (pv 1)) (pa_cons (pe_ix ix_tup (pv 8) pe_int (fun _ _ => rfl)) pa_nil))) (pa_cons (pe_call G_product_weight (hr.mono (by decide)) (by rfl) T.f_product_weight.g T.f_product_weight.F.kp T.f_product_weight.b .nil pass0 (pa_cons (pv 0) pa_nil)) pa_nil))))
    (pss_cons (ps_if (pt_not (pt_val (pe_callG G__law_same (hr.mono (by decide)) hgd (by rfl) T.f_law_same.g T.f_law_same.F.kp T.f_law_same.b (pa_cons (pe_lst (pa_cons (pe_call G_start_of (hr.mono (by decide)) (by rfl) T.f_start_of.g T.f_start_of.F.kp T.f_start_of.b .nil pass0 (pa_cons (pv 5) pa_nil)) (pa_cons (pe_call G_product_weight (hr.mono (by decide)) (by rfl) T.f_product_weight.g T.f_product_weight.F.kp T.f_product_weight.b .nil pass0 (pa_cons (pv 5) pa_nil)) pa_nil))) (pa_cons (pv 9) pa_nil)))))
      (pss_one (ps_ret pe_bl))
      pss_nil)
    (pss_cons (ps_if (pt_not (pt_val (pe_call G__law_is_small (hr.mono (by decide)) (by rfl) T.f_law_is_small.g T.f_law_is_small.F.kp T.f_law_is_small.b .nil pass0 (pa_cons (pv 6) pa_nil))))
      (pss_one (ps_ret pe_bl))
      pss_nil)
    (pss_cons (ps_set (i := 10) sc_law_is_spread_right.nd rfl (.inl rfl) (pe_tup (pa_cons pe_int (pa_cons (pe_slice sl_tupU (pe_ix ix_tup (pv 6) pe_int (fun _ _ => rfl)) po_none (po_some (pe_op op_fdiv (pe_op op_sub (pe_op op_add (pv 2) (pv 1)) pe_int) (pv 1)))) pa_nil))))
    (pss_one (ps_ret (pe_callG G__law_same (hr.mono (by decide)) hgd (by rfl) T.f_law_same.g T.f_law_same.F.kp T.f_law_same.b (pa_cons (pe_lst (pa_cons (pv 7) (pa_cons (pe_call G_every (hr.mono (by decide)) (by rfl) T.f_every.g T.f_every.F.kp T.f_every.b .nil pass0 (pa_cons (pv 7) (pa_cons (pv 1) pa_nil))) pa_nil))) (pa_cons (pe_lst (pa_cons (pe_call G_spread (hr.mono (by decide)) (by rfl) T.f_spread.g T.f_spread.F.kp T.f_spread.b .nil pass0 (pa_cons (pv 6) (pa_cons (pv 1) pa_nil))) (pa_cons (pv 10) pa_nil))) pa_nil))))))))))))), ?_⟩
    -- if [1 for d, r in product if d * t > 400] != []
    refine ⟨_, rfl, a, rfl, ⟨_, hS⟩, fun D nD => lc_tup (K := K) (a := a) (xs := xs) (fun i H' => Same H H' ∧ H' D = some (.lst ((hits (fun p => decide (400 < p.1 * (t : Int))) (ps.take i)).map V.int))) ⟨same_new nD, upd_same⟩ (fun i H' _ z => same_tup z.1 hS) ?_ ?_⟩
    · rintro i x H' hi ⟨sm, eD⟩
      obtain ⟨p, b, hpi, rfl, hB⟩ := pair_at hA hi
      have hfl := hits_len (fun p : Int × Int => decide (400 < p.1 * (t : Int))) (ps.take i)
      rw [List.length_take] at hfl
      refine g_pair (same_tup sm hB) ?_
      refine ⟨rfl, _, rfl, _, rfl, _, _, rfl, rfl, .inr ⟨by omega, by omega⟩, _, _, rfl, rfl, _, rfl, ?_⟩
      by_cases hb : 400 < p.1 * (t : Int)
      · rw [decide_eq_true hb]
        refine iteT ⟨_, eD, ?_, same_mut sm nD, ?_⟩
        · rw [List.length_map]
          exact small1000 (by omega)
        · rw [upd_same, hits_take _ hpi, if_pos (decide_eq_true hb), List.map_append]
          rfl
      · rw [decide_eq_false hb]
        refine iteF ⟨sm, ?_⟩
        rw [eD, hits_take _ hpi, if_neg (fun z => hb (of_decide_eq_true z)), List.append_nil]
    · rintro H2 ⟨s2, eD⟩
      rw [hl, List.take_length] at eD
      refine ⟨by show 0 ≤ sizeLine; decide, fun c nc => ?_⟩
      have s3 := same_new (o := .lst []) nc
      have ec : (upd H2 c (.lst [])) c = some (.lst []) := upd_same
      have eD3 := s3 _ _ eD
      generalize (upd H2 c (.lst [])) = H3 at s3 ec eD3 ⊢
      have t3 := s2.trans s3
      generalize hh : hits (fun p => decide (400 < p.1 * (t : Int))) ps = hs at eD3
      refine ⟨.list (dI hs), .list [], .lst (SqL.of eD3) (dpI hs), .lst (SqL.of ec) .nil, shaped_ints hs, by decide, _, rfl, ?_⟩
      rw [ne_nil]
      cases hs with
      | cons y ys => exact iteT (q _ t3)
      | nil =>
        refine iteF ?_
        have hps : IsP (sprd (t : Int) ps) := hp.sprd (by omega) fun p hm => by
          have := of_decide_eq_false (hits_nil hh p hm)
          omega
        have hT : SqT K H3 a xs := same_tup t3 hS
        clear ec eD eD3
        -- far, near
        refine ⟨_, rfl, a, rfl, ⟨_, hT⟩, fun D nD => lc_tup (K := K) (a := a) (xs := xs) (fun i H' => Same H3 H' ∧ ∃ acc, H' D = some (.lst acc) ∧ acc.length = i ∧ DpAll K H' acc ((sprd (t : Int) (ps.take i)).map fun p => d2 p.1 p.2)) ⟨same_new nD, [], upd_same, rfl, .nil⟩ (fun i H' _ z => same_tup z.1 hT) ?_ ?_⟩
        · rintro i x H' hi ⟨sm, acc, eD, el, hacc⟩
          obtain ⟨p, b, hpi, rfl, hB⟩ := pair_at hA hi
          have hil : i < ps.length := (List.getElem?_eq_some_iff.mp hpi).1
          refine g_pair (same_tup (t3.trans sm) hB) ?_
          refine ⟨rfl, _, rfl, _, rfl, _, _, rfl, rfl, .inr ⟨by omega, by omega⟩, _, rfl, by show 2 ≤ sizeLine; decide, fun c nc => ?_⟩
          have ncD : D ≠ c := ne_of_none eD nc
          refine ⟨acc, by rw [upd_ne ncD]; exact eD, small1000 (by omega), same_mut (same_new2 sm nc) nD, _, upd_same, by rw [List.length_append, el]; rfl, ?_⟩
          have e : sprd (t : Int) (ps.take (i + 1)) = sprd (t : Int) (ps.take i) ++ [(p.1 * (t : Int), p.2)] := by
            unfold sprd
            rw [List.take_add_one, hpi, List.map_append, Int.mul_comm p.1]
            rfl
          rw [e]
          exact pairs_snoc hacc nc eD
        · rintro H4 ⟨s4, acc, eD, el, hacc⟩
          rw [hl, List.take_length] at hacc
          refine ⟨D, _, rfl, .inl (SqL.of eD), fun c H5 s5 hc => ?_⟩
          have dF : Dp K H5 (.ref c) (dP (sprd (t : Int) ps)) := dpP hc (dpa_mono s5 _ _ hacc)
          have t5 := t3.trans (s4.trans s5)
          clear eD hacc
          refine ⟨_, rfl, _, rfl, _, ps, N, rfl, dp_mono t5 _ _ hd, hp, hN1, hN2, fun n1 H6 s6 f1 => ⟨_, _, rfl, ?_⟩⟩
          have t6 := t5.trans s6
          have dF := dp_mono s6 _ _ dF
          -- same([spread(product, t), spread(t=t, product=product)], [far, far])
          refine ⟨_, rfl, _, rfl, _, ps, (t : Int), rfl, dp_mono t6 _ _ hd, hp, by omega, by omega, hps, fun w1 H7 s7 d7 => ?_⟩
          refine ⟨_, rfl, _, rfl, rfl, rfl, _, ps, (t : Int), rfl, dp_mono (t6.trans s7) _ _ hd, hp, by omega, by omega, hps, fun w2 H8 s8 d8 => ?_⟩
          refine ⟨by show 2 ≤ sizeLine; decide, fun l1 nl1 => ?_⟩
          refine ⟨_, rfl, _, rfl, by show 2 ≤ sizeLine; decide, fun l2 nl2 => ?_⟩
          have s9 := same_new (o := .lst [w1, w2]) nl1
          have s10 := same_new (o := .lst [.ref c, .ref c]) nl2
          have e9 : (upd H8 l1 (.lst [w1, w2])) l1 = some (.lst [w1, w2]) := upd_same
          have e10 : (upd (upd H8 l1 (.lst [w1, w2])) l2 (.lst [.ref c, .ref c])) l2 = some (.lst [.ref c, .ref c]) := upd_same
          have s90 := s9.trans s10
          have s70 := s7.trans (s8.trans s90)
          have t10 := t6.trans s70
          have dF := dp_mono s70 _ _ dF
          have f1 := dp_mono s70 _ _ f1
          refine ⟨l1, l2, .list [dP (sprd (t : Int) ps), dP (sprd (t : Int) ps)], rfl, .lst (SqL.of (s10 _ _ e9)) (.cons (dp_mono (s8.trans s90) _ _ d7) (.cons (dp_mono s90 _ _ d8) .nil)), .lst (SqL.of e10) (.cons dF (.cons dF .nil)), Okd.list2 (Okd.dP hps) (Okd.dP hps), true, rfl, iteF ?_⟩
          clear e9 e10 d7 d8 nl1 nl2
          generalize (upd (upd H8 l1 (.lst [w1, w2])) l2 (.lst [.ref c, .ref c])) = H10 at t10 dF f1 ⊢
          -- told, start
          refine ⟨_, rfl, _, rfl, _, sprd (t : Int) ps, N, rfl, dF, hps, hN1, hN2, fun n2 H11 s11 f2 => ?_⟩
          refine ⟨_, rfl, _, ps, rfl, dp_mono (t10.trans s11) _ _ hd, hp, fun n3 H12 s12 f3 => ⟨_, _, rfl, ?_⟩⟩
          have f2 := dp_mono s12 _ _ f2
          rw [rw_congr fun i _ => tm_sprd (t := t) (by omega) hp.lo i] at f2
          obtain ⟨y, rfl, hy⟩ := of_dp2 f3
          have u12 := s11.trans s12
          have t12 := t10.trans u12
          have dF := dp_mono u12 _ _ dF
          have f1 := dp_mono u12 _ _ f1
          have hss := hp.ssum
          have c1 := nrm_cross (a := ssum ps) (b := 24) (by decide)
          have z1 := nrm_small (a := ssum ps) (b := 24) (by decide) (by decide) (by omega)
          -- due = [least(start[0] * t, start[1]), product_weight(product)]
          refine ⟨_, rfl, y, _, 0, _, rfl, rfl, hy, atI_nat (j := 0) rfl, _, rfl, _, _, rfl, rfl, .inl ⟨by omega, by omega⟩, _, rfl, y, _, 1, _, rfl, rfl, hy, atI_nat (j := 1) rfl, _, _, rfl, c1.2.1, by omega, fun w3 H13 s13 d13 => ?_⟩
          rw [nrm_times (by decide), ← ssum_sprd] at d13
          refine ⟨_, rfl, _, ps, rfl, dp_mono (t12.trans s13) _ _ hd, hp, fun w4 H14 s14 d14 => ?_⟩
          rw [← psum2_sprd (t : Int)] at d14
          refine ⟨by show 2 ≤ sizeLine; decide, fun l3 nl3 => ?_⟩
          have s15 := same_new (o := .lst [w3, w4]) nl3
          have dU : Dp K (upd H14 l3 (.lst [w3, w4])) (.ref l3) (.list [d2 (nrm (ssum (sprd (t : Int) ps)) 24).1 (nrm (ssum (sprd (t : Int) ps)) 24).2, d2 (nrm (psum2 (sprd (t : Int) ps)) 2).1 (nrm (psum2 (sprd (t : Int) ps)) 2).2]) :=
            .lst (SqL.of (xs := [w3, w4]) upd_same) (.cons (dp_mono (s14.trans s15) _ _ d13) (.cons (dp_mono s15 _ _ d14) .nil))
          have u15 := s13.trans (s14.trans s15)
          have t15 := t12.trans u15
          have dF := dp_mono u15 _ _ dF
          have f1 := dp_mono u15 _ _ f1
          have f2 := dp_mono u15 _ _ f2
          clear d13 d14 nl3
          generalize (upd H14 l3 (.lst [w3, w4])) = H15 at t15 dF f1 f2 dU ⊢
          -- if not same([start_of(far), product_weight(far)], due)
          refine ⟨_, rfl, _, _, rfl, dF, hps, fun w5 H16 s16 d16 => ⟨_, rfl, _, _, rfl, dp_mono s16 _ _ dF, hps, fun w6 H17 s17 d17 => ⟨by show 2 ≤ sizeLine; decide, fun l4 nl4 => ?_⟩⟩⟩
          have s18 := same_new (o := .lst [w5, w6]) nl4
          have u18 := s16.trans (s17.trans s18)
          refine ⟨_, rfl, l4, l3, _, rfl, .lst (SqL.of (xs := [w5, w6]) upd_same) (.cons (dp_mono (s17.trans s18) _ _ d16) (.cons (dp_mono s18 _ _ d17) .nil)), dp_mono u18 _ _ dU, Okd.list2 (Okd.start hps) (Okd.weight hps), true, rfl, iteF ?_⟩
          have t18 := t15.trans u18
          have f1 := dp_mono u18 _ _ f1
          have f2 := dp_mono u18 _ _ f2
          clear d16 d17 nl4
          generalize (upd H17 l4 (.lst [w5, w6])) = H18 at t18 f1 f2 ⊢
          -- if not is_small(near)
          refine ⟨_, rfl, n1, _, N, rfl, f1, hN1, hN2, fun b1 H19 s19 => ⟨b1, rfl, ?_⟩⟩
          cases b1 with
          | false => exact iteT (q _ (t18.trans s19))
          | true =>
            refine iteF ?_
            have t19 := t18.trans s19
            have f1 := dp_mono s19 _ _ f1
            have f2 := dp_mono s19 _ _ f2
            obtain ⟨x1, o1, rfl, hx1, ho1⟩ := of_dpB f1
            -- some = (1, near[1][:(many + t - 1) // t])
            have ec : ((N : Int) + (t : Int) - 1) / (t : Int) = ((cdiv N t : Nat) : Int) := by
              unfold cdiv
              rw [Int.natCast_ediv]
              congr 1
              omega
            refine ⟨_, rfl, x1, _, 1, _, rfl, rfl, hx1, atI_nat (j := 1) rfl, _, rfl, _, rfl, _, _, rfl, rfl, _, _, rfl, rfl, _, rfl, _, _, rfl, rfl, ⟨by omega, by omega⟩, _, rfl, o1, _, cdiv N t, rfl, rfl, congrArg some ec, ho1, fun c2 H20 s20 h20 => ?_⟩
            rw [← List.map_take, rw_take (cdiv_le hN1 ht1)] at h20
            refine ⟨by show 2 ≤ sizeLine; decide, fun c3 nc3 => ?_⟩
            have s21 := same_new (o := .tup [.int 1, .ref c2]) nc3
            have dV : Dp K (upd H20 c3 (.tup [.int 1, .ref c2])) (.ref c3) (dB (rw_ (cdiv N t) (tm (cs ps)))) := dpB (SqT.of upd_same) (same_tup s21 h20)
            have u21 := s20.trans s21
            have t21 := t19.trans u21
            have f1 := dp_mono u21 _ _ f1
            have f2 := dp_mono u21 _ _ f2
            generalize (upd H20 c3 (.tup [.int 1, .ref c2])) = H21 at t21 f1 f2 dV ⊢
            -- same([told, every(told, t)], [spread(near, t), some])
            refine ⟨_, rfl, _, rfl, _, rfl, n2, _, N, t, rfl, f2, hN1, hN2, ht1, ht2, fun m1 H22 r1 g1 => ?_⟩
            rw [rw_congr fun i _ => spr_at (t := t) (by omega) (tm (cs ps)) i] at g1
            refine ⟨by show 2 ≤ sizeLine; decide, fun l5 nl5 => ?_⟩
            have r2 := same_new (o := .lst [n2, m1]) nl5
            have e2 : (upd H22 l5 (.lst [n2, m1])) l5 = some (.lst [n2, m1]) := upd_same
            refine ⟨_, rfl, _, rfl, _, _, N, t, rfl, dp_mono (r1.trans r2) _ _ f1, hN1, hN2, ht1, ht2, fun m2 H23 r3 g3 => ?_⟩
            refine ⟨_, rfl, by show 2 ≤ sizeLine; decide, fun l6 nl6 => ?_⟩
            have r4 := same_new (o := .lst [m2, .ref c3]) nl6
            have e4 : (upd H23 l6 (.lst [m2, .ref c3])) l6 = some (.lst [m2, .ref c3]) := upd_same
            have x4 := r1.trans (r2.trans (r3.trans r4))
            refine ⟨l5, l6, .list [dB (rw_ N (spr t (tm (cs ps)))), dB (rw_ (cdiv N t) (tm (cs ps)))], rfl, .lst (SqL.of (r4 _ _ (r3 _ _ e2))) (.cons (dp_mono x4 _ _ f2) (.cons (dp_mono (r2.trans (r3.trans r4)) _ _ g1) .nil)), .lst (SqL.of e4) (.cons (dp_mono r4 _ _ g3) (.cons (dp_mono x4 _ _ dV) .nil)), ?_, q _ (t21.trans x4)⟩
            exact Okd.list2 (Okd.dB ((spr_abs hp.bd).mono (by decide)) hN2) (Okd.dB (hp.bd.mono (by decide)) (Nat.le_trans (cdiv_le hN1 ht1) hN2))
/-! ### law -/
end
end K17
/-! The law itself. -/
namespace K17
open PySem PySem.Spec PyProof.Rows L2
theorem in_high : ∀ x ∈ ([6, 4, 12, 400, 6] : List Int), 1 ≤ x ∧ x ≤ 400 := by decide
theorem in_most : ∀ x ∈ ([3, 2, 6, 30, 1, 4, 24] : List Int), 1 ≤ x ∧ x ≤ 30 := by decide
theorem in_pairs : ∀ x ∈ ([2, 1, 3, 2, 0, 4, 8] : List Int), 0 ≤ x ∧ x ≤ 8 := by decide
theorem in_pairs2 : ∀ x ∈ ([1, 2, 0, 3] : List Int), 0 ≤ x ∧ x ≤ 8 := by decide
theorem in_most2 : ∀ x ∈ ([3, 2, 8] : List Int), 1 ≤ x ∧ x ≤ 30 := by decide
theorem in_high2 : ∀ x ∈ ([6, 3, 24] : List Int), 1 ≤ x ∧ x ≤ 400 := by decide
theorem in_many : ∀ x ∈ ([12, 8, 20, 16, 5, 30, 1] : List Int), 1 ≤ x ∧ x ≤ 30 ∧ x ≠ 2 := by decide
section
variable {P : Program} {w : World} {K : PySem.W.Frag} {mg : Str → Option Value} {base : Heap}
def sp_law (K : PySem.W.Frag) : Sp := fun vs H Q _ => ∃ (a : Addr) (ns : List Int), vs = [.ref a] ∧ SqL K H a (ns.map V.int) ∧ ns.length ≤ 63 ∧ ∀ H', Q (.bl true) H'
theorem ok_law (T : Txt K mg) {f : Addr} {fd : FuncData} (F : Fun K "law" "law" s_law f fd) : FnG P w K mg base 8 f fd ["_law_script"] (sp_law K) := by
  have G__law_deck := ok_law_deck (P := P) (w := w) (base := base) T
  have G__law_pick := ok_law_pick (P := P) (w := w) (base := base) T
  have G__law_product := ok_law_product (P := P) (w := w) (base := base) T
  have G__law_draw := ok_law_draw (P := P) (w := w) (base := base) T
  have G__law_are_both_right := ok_law_are_both_right (P := P) (w := w) (base := base) T
  have G__law_is_told_right := ok_law_is_told_right (P := P) (w := w) (base := base) T
  have G__law_is_spread_right := ok_law_is_spread_right (P := P) (w := w) (base := base) T
  have G__law_is_undone_right := ok_law_is_undone_right (P := P) (w := w) (base := base) T
  refine okG F sc_law (fun vs H Q E h => ?_) (fun cdv A outer s H vs Q E hr hgd h => ?_)
  · obtain ⟨a, ns, rfl, _⟩ := h
    rfl
  · obtain ⟨a, ns, rfl, hS, hl, q⟩ := h
    refine ⟨_, (pss_cons (ps_set (i := 1) sc_law.nd rfl (.inl rfl) (pe_call G__law_deck (hr.mono (by decide)) (by rfl) T.f_law_deck.g T.f_law_deck.F.kp T.f_law_deck.b .nil pass0 (pa_cons (pv 0) pa_nil)))
    (pss_cons (ps_par (i := 2) (j := 3) rfl sc_law.nd rfl rfl (by decide) rfl rfl (pa_cons (pe_call G__law_pick (hr.mono (by decide)) (by rfl) T.f_law_pick.g T.f_law_pick.F.kp T.f_law_pick.b .nil pass0 (pa_cons (pv 1) (pa_cons (pe_tup (pa_cons pe_int (pa_cons pe_int (pa_cons pe_int (pa_cons pe_int (pa_cons pe_int pa_nil)))))) pa_nil))) (pa_cons (pe_call G__law_pick (hr.mono (by decide)) (by rfl) T.f_law_pick.g T.f_law_pick.F.kp T.f_law_pick.b .nil pass0 (pa_cons (pv 1) (pa_cons (pe_tup (pa_cons pe_int (pa_cons pe_int (pa_cons pe_int (pa_cons pe_int (pa_cons pe_int (pa_cons pe_int (pa_cons pe_int pa_nil)))))))) pa_nil))) pa_nil)) (by rfl))
    (pss_cons (ps_set (i := 4) sc_law.nd rfl (.inl rfl) (pe_call G__law_product (hr.mono (by decide)) (by rfl) T.f_law_product.g T.f_law_product.F.kp T.f_law_product.b .nil pass0 (pa_cons (pv 1) (pa_cons (pe_call G__law_pick (hr.mono (by decide)) (by rfl) T.f_law_pick.g T.f_law_pick.F.kp T.f_law_pick.b .nil pass0 (pa_cons (pv 1) (pa_cons (pe_tup (pa_cons pe_int (pa_cons pe_int (pa_cons pe_int (pa_cons pe_int (pa_cons pe_int (pa_cons pe_int (pa_cons pe_int pa_nil)))))))) pa_nil))) (pa_cons (pv 3) (pa_cons (pv 2) pa_nil))))))
    (pss_cons (ps_set (i := 5) sc_law.nd rfl (.inl rfl) (pe_call G__law_product (hr.mono (by decide)) (by rfl) T.f_law_product.g T.f_law_product.F.kp T.f_law_product.b .nil pass0 (pa_cons (pv 1) (pa_cons (pe_call G__law_pick (hr.mono (by decide)) (by rfl) T.f_law_pick.g T.f_law_pick.F.kp T.f_law_pick.b .nil pass0 (pa_cons (pv 1) (pa_cons (pe_tup (pa_cons pe_int (pa_cons pe_int (pa_cons pe_int (pa_cons pe_int pa_nil))))) pa_nil))) (pa_cons (pe_call G__law_pick (hr.mono (by decide)) (by rfl) T.f_law_pick.g T.f_law_pick.F.kp T.f_law_pick.b .nil pass0 (pa_cons (pv 1) (pa_cons (pe_tup (pa_cons pe_int (pa_cons pe_int (pa_cons pe_int pa_nil)))) pa_nil))) (pa_cons (pe_call G__law_pick (hr.mono (by decide)) (by rfl) T.f_law_pick.g T.f_law_pick.F.kp T.f_law_pick.b .nil pass0 (pa_cons (pv 1) (pa_cons (pe_tup (pa_cons pe_int (pa_cons pe_int (pa_cons pe_int pa_nil)))) pa_nil))) pa_nil))))))
    (pss_cons (ps_par (i := 6) (j := 7) rfl sc_law.nd rfl rfl (by decide) rfl rfl (pa_cons (pe_call G__law_pick (hr.mono (by decide)) (by rfl) T.f_law_pick.g T.f_law_pick.F.kp T.f_law_pick.b .nil pass0 (pa_cons (pv 1) (pa_cons (pe_tup (pa_cons pe_int (pa_cons pe_int (pa_cons pe_int (pa_cons pe_int (pa_cons pe_int (pa_cons pe_int (pa_cons pe_int pa_nil)))))))) pa_nil))) (pa_cons (pe_op op_add pe_int (pe_call G__law_draw (hr.mono (by decide)) (by rfl) T.f_law_draw.g T.f_law_draw.F.kp T.f_law_draw.b .nil pass0 (pa_cons (pv 1) (pa_cons pe_int pa_nil)))) pa_nil)) (by rfl))
    (pss_cons (ps_if (PW.pt (pw_or (pt_not (pt_val (pe_callG G__law_is_told_right (hr.mono (by decide)) hgd (by rfl) T.f_law_is_told_right.g T.f_law_is_told_right.F.kp T.f_law_is_told_right.b (pa_cons (pv 4) (pa_cons (pv 6) pa_nil))))) (pw_or1 (pt_not (pt_val (pe_callG G__law_are_both_right (hr.mono (by decide)) hgd (by rfl) T.f_law_are_both_right.g T.f_law_are_both_right.F.kp T.f_law_are_both_right.b (pa_cons (pv 4) (pa_cons (pv 5) (pa_cons (pv 6) pa_nil)))))))))
      (pss_one (ps_ret pe_bl))
      pss_nil)
    (pss_one (ps_ret (pe_and (pe_callG G__law_is_undone_right (hr.mono (by decide)) hgd (by rfl) T.f_law_is_undone_right.g T.f_law_is_undone_right.F.kp T.f_law_is_undone_right.b (pa_cons (pv 4) (pa_cons (pv 6) pa_nil))) (pe_one (pe_callG G__law_is_spread_right (hr.mono (by decide)) hgd (by rfl) T.f_law_is_spread_right.g T.f_law_is_spread_right.F.kp T.f_law_is_spread_right.b (pa_cons (pv 5) (pa_cons (pv 7) (pa_cons (pv 6) pa_nil)))))))))))))), ?_⟩
    -- deck
    refine ⟨_, rfl, a, ns, rfl, hS, hl, fun D L H1 s1 d1 => ?_⟩
    -- high, most
    refine ⟨_, rfl, by show 5 ≤ sizeLine; decide, fun c1 nc1 => ⟨D, L, c1, [6, 4, 12, 400, 6], rfl, d1.same (same_new nc1), SqT.of upd_same, by decide, by decide, fun high H2 hh k2 d2 => ?_⟩⟩
    refine ⟨_, rfl, by show 7 ≤ sizeLine; decide, fun c2 nc2 => ⟨D, L, c2, [3, 2, 6, 30, 1, 4, 24], rfl, d2.same (same_new nc2), SqT.of upd_same, by decide, by decide, fun most H3 hm k3 d3 => ⟨_, _, rfl, ?_⟩⟩⟩
    have hh := in_high high hh
    have hm := in_most most hm
    -- one
    refine ⟨_, rfl, _, rfl, by show 7 ≤ sizeLine; decide, fun c3 nc3 => ⟨D, L, c3, [2, 1, 3, 2, 0, 4, 8], rfl, d3.same (same_new nc3), SqT.of upd_same, by decide, by decide, fun p1 H4 hp1 k4 d4 => ?_⟩⟩
    have hp1 := in_pairs p1 hp1
    obtain ⟨p1, rfl⟩ : ∃ t : Nat, p1 = (t : Int) := ⟨p1.toNat, by omega⟩
    refine ⟨_, rfl, _, rfl, D, L, p1, most, high, rfl, d4, by omega, hm.1, hm.2, hh.1, hh.2, fun v H5 ps k5 d5 hF hP => ?_⟩
    -- other
    refine ⟨_, rfl, _, rfl, by show 4 ≤ sizeLine; decide, fun c4 nc4 => ⟨D, L, c4, [1, 2, 0, 3], rfl, d5.same (same_new nc4), SqT.of upd_same, by decide, by decide, fun p2 H6 hp2 k6 d6 => ?_⟩⟩
    have hp2 := in_pairs2 p2 hp2
    obtain ⟨p2, rfl⟩ : ∃ t : Nat, p2 = (t : Int) := ⟨p2.toNat, by omega⟩
    refine ⟨_, rfl, by show 3 ≤ sizeLine; decide, fun c5 nc5 => ⟨D, L, c5, [3, 2, 8], rfl, d6.same (same_new nc5), SqT.of upd_same, by decide, by decide, fun most2 H7 hm2 k7 d7 => ?_⟩⟩
    refine ⟨_, rfl, by show 3 ≤ sizeLine; decide, fun c6 nc6 => ⟨D, L, c6, [6, 3, 24], rfl, d7.same (same_new nc6), SqT.of upd_same, by decide, by decide, fun high2 H8 hh2 k8 d8 => ?_⟩⟩
    have hm2 := in_most2 most2 hm2
    have hh2 := in_high2 high2 hh2
    refine ⟨D, L, p2, most2, high2, rfl, d8, by omega, hm2.1, hm2.2, hh2.1, hh2.2, fun v' H9 qs k9 d9 hF' hP' => ?_⟩
    have k59 := ((((Kp.of (same_new nc4)).trans k6).trans ((Kp.of (same_new nc5)).trans k7)).trans ((Kp.of (same_new nc6)).trans k8)).trans k9
    have hF := hF.kp d5 k59
    -- many, t
    refine ⟨_, rfl, by show 7 ≤ sizeLine; decide, fun c7 nc7 => ⟨D, L, c7, [12, 8, 20, 16, 5, 30, 1], rfl, d9.same (same_new nc7), SqT.of upd_same, by decide, by decide, fun N H10 hN k10 d10 => ?_⟩⟩
    have hN := in_many N hN
    obtain ⟨N, rfl⟩ : ∃ t : Nat, N = (t : Int) := ⟨N.toNat, by omega⟩
    refine ⟨_, rfl, D, L, 5, rfl, d10, by decide, by decide, fun r H11 r0 r1 k11 d11 => ⟨_, _, rfl, rfl, _, _, rfl, ?_⟩⟩
    obtain ⟨t, ht⟩ : ∃ t : Nat, 1 + r = (t : Int) := ⟨(1 + r).toNat, by omega⟩
    have k911 := ((Kp.of (same_new nc7)).trans k10).trans k11
    have hF := hF.kp d9 k911
    have hF' := (hF'.kp d9 k911).dp
    -- if not told_right(one, many) or not both_right(one, other, many)
    refine ⟨_, rfl, _, rfl, v, ps, N, rfl, hF.dp, hP, by omega, by omega, fun H12 s12 => ⟨true, rfl, iteF ?_⟩⟩
    refine ⟨_, rfl, _, rfl, _, rfl, v, v', ps, qs, N, rfl, hF.same s12, dp_mono s12 _ _ hF', hP, hP', by omega, by omega, fun H13 s13 => ⟨true, rfl, iteF ?_⟩⟩
    have s23 := s12.trans s13
    -- undone_right(one, many) and spread_right(other, t, many)
    refine ⟨_, rfl, _, rfl, v, ps, N, rfl, dp_mono s23 _ _ hF.dp, hP, by omega, by omega, by omega, fun H14 s14 => ⟨true, rfl, iteT ?_⟩⟩
    exact ⟨_, rfl, _, rfl, _, rfl, v', qs, t, N, by show [v', V.int (1 + r), V.int (N : Int)] = _; rw [ht], dp_mono (s23.trans s14) _ _ hF', hP', by omega, by omega, by omega, by omega, fun H15 s15 => q H15⟩
end
end K17
/-! The text's parts out of the facts of the top (printed by gen.py). -/
namespace K17
open PySem PySem.Spec PyProof.Rows L2
theorem swap2_vals {zs : List V} {ws : List Value} (h : Vals zs ws) : Vals (swap2 zs) (swap2 ws) := by
  cases h with
  | nil => exact .nil
  | cons h1 t1 =>
    cases t1 with
    | nil => exact .cons h1 .nil
    | cons h2 t2 =>
      cases t2 with
      | nil => exact .cons h2 (.cons h1 .nil)
      | cons h3 t3 => exact .cons h1 (.cons h2 (.cons h3 t3))
/-- what k_is shows of a def -/
structure DfF (K : PySem.W.Frag) (x : Str) (st : Stmt) (f : Addr) (oc kV dc pm cd ct : Value) (od an : Option Addr) (sl : Array (Option Value)) : Prop where
  a : PySem.W.nsIn K mainGlobals x = some (some (.ref f))
  l : K.lookup f = some ⟨oc, od, .func (PySem.W.fnOf x x (defArgs st) (defBody st) (defScope st) .none kV dc pm an cd ct), sl⟩
  c : PySem.W.codeIn K cd x = true
  k : PySem.W.keepIn K (.ref f) = true
theorem all_mk {P : Program} {w : World} {K : PySem.W.Frag} {h : Heap} {mg : Str → Option Value} {fa : Addr} (X : K.In h) (G : h.Ns mainGlobals mg) (hfa : mg "law" = some (.ref fa))
    {f0 : Addr} {oc0 kV0 dc0 pm0 cd0 ct0 : Value} {od0 an0 : Option Addr} {sl0 : Array (Option Value)} (d0 : DfF K "is_integer" s_is_integer f0 oc0 kV0 dc0 pm0 cd0 ct0 od0 an0 sl0)
    {f1 : Addr} {oc1 kV1 dc1 pm1 cd1 ct1 : Value} {od1 an1 : Option Addr} {sl1 : Array (Option Value)} (d1 : DfF K "is_between" s_is_between f1 oc1 kV1 dc1 pm1 cd1 ct1 od1 an1 sl1)
    {f2 : Addr} {oc2 kV2 dc2 pm2 cd2 ct2 : Value} {od2 an2 : Option Addr} {sl2 : Array (Option Value)} (d2 : DfF K "is_count" s_is_count f2 oc2 kV2 dc2 pm2 cd2 ct2 od2 an2 sl2)
    {f3 : Addr} {oc3 kV3 dc3 pm3 cd3 ct3 : Value} {od3 an3 : Option Addr} {sl3 : Array (Option Value)} (d3 : DfF K "divisors_of" s_divisors_of f3 oc3 kV3 dc3 pm3 cd3 ct3 od3 an3 sl3)
    {f4 : Addr} {oc4 kV4 dc4 pm4 cd4 ct4 : Value} {od4 an4 : Option Addr} {sl4 : Array (Option Value)} (d4 : DfF K "normal" s_normal f4 oc4 kV4 dc4 pm4 cd4 ct4 od4 an4 sl4)
    {f5 : Addr} {oc5 kV5 dc5 pm5 cd5 ct5 : Value} {od5 an5 : Option Addr} {sl5 : Array (Option Value)} (d5 : DfF K "need_many" s_need_many f5 oc5 kV5 dc5 pm5 cd5 ct5 od5 an5 sl5)
    {f6 : Addr} {oc6 kV6 dc6 pm6 cd6 ct6 : Value} {od6 an6 : Option Addr} {sl6 : Array (Option Value)} (d6 : DfF K "need_from" s_need_from f6 oc6 kV6 dc6 pm6 cd6 ct6 od6 an6 sl6)
    {f7 : Addr} {oc7 kV7 dc7 pm7 cd7 ct7 : Value} {od7 an7 : Option Addr} {sl7 : Array (Option Value)} (d7 : DfF K "power_of" s_power_of f7 oc7 kV7 dc7 pm7 cd7 ct7 od7 an7 sl7)
    {f8 : Addr} {oc8 kV8 dc8 pm8 cd8 ct8 : Value} {od8 an8 : Option Addr} {sl8 : Array (Option Value)} (d8 : DfF K "common_divisor" s_common_divisor f8 oc8 kV8 dc8 pm8 cd8 ct8 od8 an8 sl8)
    {f9 : Addr} {oc9 kV9 dc9 pm9 cd9 ct9 : Value} {od9 an9 : Option Addr} {sl9 : Array (Option Value)} (d9 : DfF K "beginning_of" s_beginning_of f9 oc9 kV9 dc9 pm9 cd9 ct9 od9 an9 sl9)
    {f10 : Addr} {oc10 kV10 dc10 pm10 cd10 ct10 : Value} {od10 an10 : Option Addr} {sl10 : Array (Option Value)} (d10 : DfF K "series_product" s_series_product f10 oc10 kV10 dc10 pm10 cd10 ct10 od10 an10 sl10)
    {f11 : Addr} {oc11 kV11 dc11 pm11 cd11 ct11 : Value} {od11 an11 : Option Addr} {sl11 : Array (Option Value)} (d11 : DfF K "series_power" s_series_power f11 oc11 kV11 dc11 pm11 cd11 ct11 od11 an11 sl11)
    {f12 : Addr} {oc12 kV12 dc12 pm12 cd12 ct12 : Value} {od12 an12 : Option Addr} {sl12 : Array (Option Value)} (d12 : DfF K "series_inverse" s_series_inverse f12 oc12 kV12 dc12 pm12 cd12 ct12 od12 an12 sl12)
    {f13 : Addr} {oc13 kV13 dc13 pm13 cd13 ct13 : Value} {od13 an13 : Option Addr} {sl13 : Array (Option Value)} (d13 : DfF K "is_beginning" s_is_beginning f13 oc13 kV13 dc13 pm13 cd13 ct13 od13 an13 sl13)
    {f14 : Addr} {oc14 kV14 dc14 pm14 cd14 ct14 : Value} {od14 an14 : Option Addr} {sl14 : Array (Option Value)} (d14 : DfF K "need_beginnings" s_need_beginnings f14 oc14 kV14 dc14 pm14 cd14 ct14 od14 an14 sl14)
    {f15 : Addr} {oc15 kV15 dc15 pm15 cd15 ct15 : Value} {od15 an15 : Option Addr} {sl15 : Array (Option Value)} (d15 : DfF K "multiplied" s_multiplied f15 oc15 kV15 dc15 pm15 cd15 ct15 od15 an15 sl15)
    {f16 : Addr} {oc16 kV16 dc16 pm16 cd16 ct16 : Value} {od16 an16 : Option Addr} {sl16 : Array (Option Value)} (d16 : DfF K "power" s_power f16 oc16 kV16 dc16 pm16 cd16 ct16 od16 an16 sl16)
    {f17 : Addr} {oc17 kV17 dc17 pm17 cd17 ct17 : Value} {od17 an17 : Option Addr} {sl17 : Array (Option Value)} (d17 : DfF K "spread" s_spread f17 oc17 kV17 dc17 pm17 cd17 ct17 od17 an17 sl17)
    {f18 : Addr} {oc18 kV18 dc18 pm18 cd18 ct18 : Value} {od18 an18 : Option Addr} {sl18 : Array (Option Value)} (d18 : DfF K "every" s_every f18 oc18 kV18 dc18 pm18 cd18 ct18 od18 an18 sl18)
    {f19 : Addr} {oc19 kV19 dc19 pm19 cd19 ct19 : Value} {od19 an19 : Option Addr} {sl19 : Array (Option Value)} (d19 : DfF K "is_product_value" s_is_product_value f19 oc19 kV19 dc19 pm19 cd19 ct19 od19 an19 sl19)
    {f20 : Addr} {oc20 kV20 dc20 pm20 cd20 ct20 : Value} {od20 an20 : Option Addr} {sl20 : Array (Option Value)} (d20 : DfF K "need_product" s_need_product f20 oc20 kV20 dc20 pm20 cd20 ct20 od20 an20 sl20)
    {f21 : Addr} {oc21 kV21 dc21 pm21 cd21 ct21 : Value} {od21 an21 : Option Addr} {sl21 : Array (Option Value)} (d21 : DfF K "step_sum" s_step_sum f21 oc21 kV21 dc21 pm21 cd21 ct21 od21 an21 sl21)
    {f22 : Addr} {oc22 kV22 dc22 pm22 cd22 ct22 : Value} {od22 an22 : Option Addr} {sl22 : Array (Option Value)} (d22 : DfF K "power_sum" s_power_sum f22 oc22 kV22 dc22 pm22 cd22 ct22 od22 an22 sl22)
    {f23 : Addr} {oc23 kV23 dc23 pm23 cd23 ct23 : Value} {od23 an23 : Option Addr} {sl23 : Array (Option Value)} (d23 : DfF K "raw_start" s_raw_start f23 oc23 kV23 dc23 pm23 cd23 ct23 od23 an23 sl23)
    {f24 : Addr} {oc24 kV24 dc24 pm24 cd24 ct24 : Value} {od24 an24 : Option Addr} {sl24 : Array (Option Value)} (d24 : DfF K "raw_weight" s_raw_weight f24 oc24 kV24 dc24 pm24 cd24 ct24 od24 an24 sl24)
    {f25 : Addr} {oc25 kV25 dc25 pm25 cd25 ct25 : Value} {od25 an25 : Option Addr} {sl25 : Array (Option Value)} (d25 : DfF K "terms_list" s_terms_list f25 oc25 kV25 dc25 pm25 cd25 ct25 od25 an25 sl25)
    {f26 : Addr} {oc26 kV26 dc26 pm26 cd26 ct26 : Value} {od26 an26 : Option Addr} {sl26 : Array (Option Value)} (d26 : DfF K "spread_pairs" s_spread_pairs f26 oc26 kV26 dc26 pm26 cd26 ct26 od26 an26 sl26)
    {f27 : Addr} {oc27 kV27 dc27 pm27 cd27 ct27 : Value} {od27 an27 : Option Addr} {sl27 : Array (Option Value)} (d27 : DfF K "start_of" s_start_of f27 oc27 kV27 dc27 pm27 cd27 ct27 od27 an27 sl27)
    {f28 : Addr} {oc28 kV28 dc28 pm28 cd28 ct28 : Value} {od28 an28 : Option Addr} {sl28 : Array (Option Value)} (d28 : DfF K "product_weight" s_product_weight f28 oc28 kV28 dc28 pm28 cd28 ct28 od28 an28 sl28)
    {f29 : Addr} {oc29 kV29 dc29 pm29 cd29 ct29 : Value} {od29 an29 : Option Addr} {sl29 : Array (Option Value)} (d29 : DfF K "product_terms" s_product_terms f29 oc29 kV29 dc29 pm29 cd29 ct29 od29 an29 sl29)
    {f30 : Addr} {oc30 kV30 dc30 pm30 cd30 ct30 : Value} {od30 an30 : Option Addr} {sl30 : Array (Option Value)} (d30 : DfF K "settled" s_settled f30 oc30 kV30 dc30 pm30 cd30 ct30 od30 an30 sl30)
    {f31 : Addr} {oc31 kV31 dc31 pm31 cd31 ct31 : Value} {od31 an31 : Option Addr} {sl31 : Array (Option Value)} (d31 : DfF K "joined_product" s_joined_product f31 oc31 kV31 dc31 pm31 cd31 ct31 od31 an31 sl31)
    {f32 : Addr} {oc32 kV32 dc32 pm32 cd32 ct32 : Value} {od32 an32 : Option Addr} {sl32 : Array (Option Value)} (d32 : DfF K "undone_product" s_undone_product f32 oc32 kV32 dc32 pm32 cd32 ct32 od32 an32 sl32)
    {f33 : Addr} {oc33 kV33 dc33 pm33 cd33 ct33 : Value} {od33 an33 : Option Addr} {sl33 : Array (Option Value)} (d33 : DfF K "spread_product" s_spread_product f33 oc33 kV33 dc33 pm33 cd33 ct33 od33 an33 sl33)
    {f34 : Addr} {oc34 kV34 dc34 pm34 cd34 ct34 : Value} {od34 an34 : Option Addr} {sl34 : Array (Option Value)} (d34 : DfF K "_law_deck" s_law_deck f34 oc34 kV34 dc34 pm34 cd34 ct34 od34 an34 sl34)
    {f35 : Addr} {oc35 kV35 dc35 pm35 cd35 ct35 : Value} {od35 an35 : Option Addr} {sl35 : Array (Option Value)} (d35 : DfF K "_law_draw" s_law_draw f35 oc35 kV35 dc35 pm35 cd35 ct35 od35 an35 sl35)
    {f36 : Addr} {oc36 kV36 dc36 pm36 cd36 ct36 : Value} {od36 an36 : Option Addr} {sl36 : Array (Option Value)} (d36 : DfF K "_law_pick" s_law_pick f36 oc36 kV36 dc36 pm36 cd36 ct36 od36 an36 sl36)
    {f37 : Addr} {oc37 kV37 dc37 pm37 cd37 ct37 : Value} {od37 an37 : Option Addr} {sl37 : Array (Option Value)} (d37 : DfF K "_law_same" s_law_same f37 oc37 kV37 dc37 pm37 cd37 ct37 od37 an37 sl37)
    {f38 : Addr} {oc38 kV38 dc38 pm38 cd38 ct38 : Value} {od38 an38 : Option Addr} {sl38 : Array (Option Value)} (d38 : DfF K "_law_divisor" s_law_divisor f38 oc38 kV38 dc38 pm38 cd38 ct38 od38 an38 sl38)
    {f39 : Addr} {oc39 kV39 dc39 pm39 cd39 ct39 : Value} {od39 an39 : Option Addr} {sl39 : Array (Option Value)} (d39 : DfF K "_law_least" s_law_least f39 oc39 kV39 dc39 pm39 cd39 ct39 od39 an39 sl39)
    {f40 : Addr} {oc40 kV40 dc40 pm40 cd40 ct40 : Value} {od40 an40 : Option Addr} {sl40 : Array (Option Value)} (d40 : DfF K "_law_terms" s_law_terms f40 oc40 kV40 dc40 pm40 cd40 ct40 od40 an40 sl40)
    {f41 : Addr} {oc41 kV41 dc41 pm41 cd41 ct41 : Value} {od41 an41 : Option Addr} {sl41 : Array (Option Value)} (d41 : DfF K "_law_product" s_law_product f41 oc41 kV41 dc41 pm41 cd41 ct41 od41 an41 sl41)
    {f42 : Addr} {oc42 kV42 dc42 pm42 cd42 ct42 : Value} {od42 an42 : Option Addr} {sl42 : Array (Option Value)} (d42 : DfF K "_law_joined" s_law_joined f42 oc42 kV42 dc42 pm42 cd42 ct42 od42 an42 sl42)
    {f43 : Addr} {oc43 kV43 dc43 pm43 cd43 ct43 : Value} {od43 an43 : Option Addr} {sl43 : Array (Option Value)} (d43 : DfF K "_law_is_told_right" s_law_is_told_right f43 oc43 kV43 dc43 pm43 cd43 ct43 od43 an43 sl43)
    {f44 : Addr} {oc44 kV44 dc44 pm44 cd44 ct44 : Value} {od44 an44 : Option Addr} {sl44 : Array (Option Value)} (d44 : DfF K "_law_is_small" s_law_is_small f44 oc44 kV44 dc44 pm44 cd44 ct44 od44 an44 sl44)
    {f45 : Addr} {oc45 kV45 dc45 pm45 cd45 ct45 : Value} {od45 an45 : Option Addr} {sl45 : Array (Option Value)} (d45 : DfF K "_law_sum" s_law_sum f45 oc45 kV45 dc45 pm45 cd45 ct45 od45 an45 sl45)
    {f46 : Addr} {oc46 kV46 dc46 pm46 cd46 ct46 : Value} {od46 an46 : Option Addr} {sl46 : Array (Option Value)} (d46 : DfF K "_law_are_both_right" s_law_are_both_right f46 oc46 kV46 dc46 pm46 cd46 ct46 od46 an46 sl46)
    {f47 : Addr} {oc47 kV47 dc47 pm47 cd47 ct47 : Value} {od47 an47 : Option Addr} {sl47 : Array (Option Value)} (d47 : DfF K "_law_is_undone_right" s_law_is_undone_right f47 oc47 kV47 dc47 pm47 cd47 ct47 od47 an47 sl47)
    {f48 : Addr} {oc48 kV48 dc48 pm48 cd48 ct48 : Value} {od48 an48 : Option Addr} {sl48 : Array (Option Value)} (d48 : DfF K "_law_is_spread_right" s_law_is_spread_right f48 oc48 kV48 dc48 pm48 cd48 ct48 od48 an48 sl48)
    {f49 : Addr} {oc49 kV49 dc49 pm49 cd49 ct49 : Value} {od49 an49 : Option Addr} {sl49 : Array (Option Value)} (d49 : DfF K "law" s_law f49 oc49 kV49 dc49 pm49 cd49 ct49 od49 an49 sl49)
    (m_isinstance : PySem.W.nsIn K mainGlobals "isinstance" = some none)
    (m_len : PySem.W.nsIn K mainGlobals "len" = some none)
    (m_tuple : PySem.W.nsIn K mainGlobals "tuple" = some none)
    (m_range : PySem.W.nsIn K mainGlobals "range" = some none)
    (m_min : PySem.W.nsIn K mainGlobals "min" = some none)
    (m_max : PySem.W.nsIn K mainGlobals "max" = some none)
    (m_sum : PySem.W.nsIn K mainGlobals "sum" = some none)
    (m_list : PySem.W.nsIn K mainGlobals "list" = some none)
    (m_all : PySem.W.nsIn K mainGlobals "all" = some none)
    (m_any : PySem.W.nsIn K mainGlobals "any" = some none)
    (m_enumerate : PySem.W.nsIn K mainGlobals "enumerate" = some none)
    (m_sorted : PySem.W.nsIn K mainGlobals "sorted" = some none)
    (m_abs : PySem.W.nsIn K mainGlobals "abs" = some none)
    (m_int : PySem.W.nsIn K mainGlobals "int" = some none)
    (m_repr : PySem.W.nsIn K mainGlobals "repr" = some none)
    (m_dict : PySem.W.nsIn K mainGlobals "dict" = some none)
    (m_bool : PySem.W.nsIn K mainGlobals "bool" = some none)
    {t_MOST_TERMS : Tok} (c_MOST_TERMS : PySem.W.nsIn K mainGlobals "MOST_TERMS" = some (some (.int 400 t_MOST_TERMS)))
    {t_MOST_PAIRS : Tok} (c_MOST_PAIRS : PySem.W.nsIn K mainGlobals "MOST_PAIRS" = some (some (.int 8 t_MOST_PAIRS)))
    {t_MOST_STEP : Tok} (c_MOST_STEP : PySem.W.nsIn K mainGlobals "MOST_STEP" = some (some (.int 400 t_MOST_STEP)))
    {t_MOST_POWER : Tok} (c_MOST_POWER : PySem.W.nsIn K mainGlobals "MOST_POWER" = some (some (.int 48 t_MOST_POWER)))
    (gc : PySem.W.nsIn K mainGlobals "gcd" = some (some (.builtin "math.gcd")))
    : ∃ fd : FuncData, (∀ (s : Shared) (v : Value), BindsTo s fd ⟨[v], []⟩ [("_law_script", v)]) ∧ ∀ base : Heap, K.In base → base.Ns mainGlobals mg → FnG P w K mg base 8 fa fd ["_law_script"] (sp_law K) := by
  have e := hfa.symm.trans (PySem.W.mg_of X G d49.a)
  cases e
  have F0 := fun_mk (st := s_is_integer) d0.l d0.c d0.k
  have D0 : Df K mg "is_integer" s_is_integer ["thing"] := ⟨_, _, F0, F0.binds (ps := ["thing"]) fun _ _ _ _ _ _ us hl => match us, hl with | [_], _ => rfl, PySem.W.mg_of X G d0.a⟩
  have F1 := fun_mk (st := s_is_between) d1.l d1.c d1.k
  have D1 : Df K mg "is_between" s_is_between ["thing", "least", "most"] := ⟨_, _, F1, F1.binds (ps := ["thing", "least", "most"]) fun _ _ _ _ _ _ us hl => match us, hl with | [_, _, _], _ => rfl, PySem.W.mg_of X G d1.a⟩
  have F2 := fun_mk (st := s_is_count) d2.l d2.c d2.k
  have D2 : Df K mg "is_count" s_is_count ["thing"] := ⟨_, _, F2, F2.binds (ps := ["thing"]) fun _ _ _ _ _ _ us hl => match us, hl with | [_], _ => rfl, PySem.W.mg_of X G d2.a⟩
  have F3 := fun_mk (st := s_divisors_of) d3.l d3.c d3.k
  have D3 : Df K mg "divisors_of" s_divisors_of ["number"] := ⟨_, _, F3, F3.binds (ps := ["number"]) fun _ _ _ _ _ _ us hl => match us, hl with | [_], _ => rfl, PySem.W.mg_of X G d3.a⟩
  have F4 := fun_mk (st := s_normal) d4.l d4.c d4.k
  have D4 : Df K mg "normal" s_normal ["top", "bottom"] := ⟨_, _, F4, F4.binds (ps := ["top", "bottom"]) fun _ _ _ _ _ _ us hl => match us, hl with | [_, _], _ => rfl, PySem.W.mg_of X G d4.a⟩
  have F5 := fun_mk (st := s_need_many) d5.l d5.c d5.k
  have D5 : Df K mg "need_many" s_need_many ["many"] := ⟨_, _, F5, F5.binds (ps := ["many"]) fun _ _ _ _ _ _ us hl => match us, hl with | [_], _ => rfl, PySem.W.mg_of X G d5.a⟩
  have F6 := fun_mk (st := s_need_from) d6.l d6.c d6.k
  have D6 : Df K mg "need_from" s_need_from ["thing", "low"] := ⟨_, _, F6, F6.binds (ps := ["thing", "low"]) fun _ _ _ _ _ _ us hl => match us, hl with | [_, _], _ => rfl, PySem.W.mg_of X G d6.a⟩
  have F7 := fun_mk (st := s_power_of) d7.l d7.c d7.k
  have D7 : Df K mg "power_of" s_power_of ["base", "many"] := ⟨_, _, F7, F7.binds (ps := ["base", "many"]) fun _ _ _ _ _ _ us hl => match us, hl with | [_, _], _ => rfl, PySem.W.mg_of X G d7.a⟩
  have F8 := fun_mk (st := s_common_divisor) d8.l d8.c d8.k
  have D8 : Df K mg "common_divisor" s_common_divisor ["numbers", "start"] := ⟨_, _, F8, F8.binds (ps := ["numbers", "start"]) fun _ _ _ _ _ _ us hl => match us, hl with | [_, _], _ => rfl, PySem.W.mg_of X G d8.a⟩
  have F9 := fun_mk (st := s_beginning_of) d9.l d9.c d9.k
  have D9 : Df K mg "beginning_of" s_beginning_of ["bottom", "tops"] := ⟨_, _, F9, F9.binds (ps := ["bottom", "tops"]) fun _ _ _ _ _ _ us hl => match us, hl with | [_, _], _ => rfl, PySem.W.mg_of X G d9.a⟩
  have F10 := fun_mk (st := s_series_product) d10.l d10.c d10.k
  have D10 : Df K mg "series_product" s_series_product ["one", "other"] := ⟨_, _, F10, F10.binds (ps := ["one", "other"]) fun _ _ _ _ _ _ us hl => match us, hl with | [_, _], _ => rfl, PySem.W.mg_of X G d10.a⟩
  have F11 := fun_mk (st := s_series_power) d11.l d11.c d11.k
  have D11 : Df K mg "series_power" s_series_power ["tops", "k"] := ⟨_, _, F11, F11.binds (ps := ["tops", "k"]) fun _ _ _ _ _ _ us hl => match us, hl with | [_, _], _ => rfl, PySem.W.mg_of X G d11.a⟩
  have F12 := fun_mk (st := s_series_inverse) d12.l d12.c d12.k
  have D12 : Df K mg "series_inverse" s_series_inverse ["tops"] := ⟨_, _, F12, F12.binds (ps := ["tops"]) fun _ _ _ _ _ _ us hl => match us, hl with | [_], _ => rfl, PySem.W.mg_of X G d12.a⟩
  have F13 := fun_mk (st := s_is_beginning) d13.l d13.c d13.k
  have D13 : Df K mg "is_beginning" s_is_beginning ["thing"] := ⟨_, _, F13, F13.binds (ps := ["thing"]) fun _ _ _ _ _ _ us hl => match us, hl with | [_], _ => rfl, PySem.W.mg_of X G d13.a⟩
  have F14 := fun_mk (st := s_need_beginnings) d14.l d14.c d14.k
  have D14 : Df K mg "need_beginnings" s_need_beginnings ["things"] := ⟨_, _, F14, F14.binds (ps := ["things"]) fun _ _ _ _ _ _ us hl => match us, hl with | [_], _ => rfl, PySem.W.mg_of X G d14.a⟩
  have F15 := fun_mk (st := s_multiplied) d15.l d15.c d15.k
  have D15 : Df K mg "multiplied" s_multiplied ["one", "other"] := ⟨_, _, F15, F15.binds (ps := ["one", "other"]) fun _ _ _ _ _ _ us hl => match us, hl with | [_, _], _ => rfl, PySem.W.mg_of X G d15.a⟩
  have F16 := fun_mk (st := s_power) d16.l d16.c d16.k
  have D16 : Df K mg "power" s_power ["beginning", "k"] := ⟨_, _, F16, F16.binds (ps := ["beginning", "k"]) fun _ _ _ _ _ _ us hl => match us, hl with | [_, _], _ => rfl, PySem.W.mg_of X G d16.a⟩
  have F17 := fun_mk (st := s_spread) d17.l d17.c d17.k
  have D17 : Df K mg "spread" s_spread ["beginning", "d"] := ⟨_, _, F17, F17.binds (ps := ["beginning", "d"]) fun _ _ _ _ _ _ us hl => match us, hl with | [_, _], _ => rfl, PySem.W.mg_of X G d17.a⟩
  have F18 := fun_mk (st := s_every) d18.l d18.c d18.k
  have D18 : Df K mg "every" s_every ["beginning", "d"] := ⟨_, _, F18, F18.binds (ps := ["beginning", "d"]) fun _ _ _ _ _ _ us hl => match us, hl with | [_, _], _ => rfl, PySem.W.mg_of X G d18.a⟩
  have F19 := fun_mk (st := s_is_product_value) d19.l d19.c d19.k
  have D19 : Df K mg "is_product_value" s_is_product_value ["thing"] := ⟨_, _, F19, F19.binds (ps := ["thing"]) fun _ _ _ _ _ _ us hl => match us, hl with | [_], _ => rfl, PySem.W.mg_of X G d19.a⟩
  have F20 := fun_mk (st := s_need_product) d20.l d20.c d20.k
  have D20 : Df K mg "need_product" s_need_product ["product"] := ⟨_, _, F20, F20.binds (ps := ["product"]) fun _ _ _ _ _ _ us hl => match us, hl with | [_], _ => rfl, PySem.W.mg_of X G d20.a⟩
  have F21 := fun_mk (st := s_step_sum) d21.l d21.c d21.k
  have D21 : Df K mg "step_sum" s_step_sum ["product"] := ⟨_, _, F21, F21.binds (ps := ["product"]) fun _ _ _ _ _ _ us hl => match us, hl with | [_], _ => rfl, PySem.W.mg_of X G d21.a⟩
  have F22 := fun_mk (st := s_power_sum) d22.l d22.c d22.k
  have D22 : Df K mg "power_sum" s_power_sum ["product"] := ⟨_, _, F22, F22.binds (ps := ["product"]) fun _ _ _ _ _ _ us hl => match us, hl with | [_], _ => rfl, PySem.W.mg_of X G d22.a⟩
  have F23 := fun_mk (st := s_raw_start) d23.l d23.c d23.k
  have D23 : Df K mg "raw_start" s_raw_start ["product"] := ⟨_, _, F23, F23.binds (ps := ["product"]) fun _ _ _ _ _ _ us hl => match us, hl with | [_], _ => rfl, PySem.W.mg_of X G d23.a⟩
  have F24 := fun_mk (st := s_raw_weight) d24.l d24.c d24.k
  have D24 : Df K mg "raw_weight" s_raw_weight ["product"] := ⟨_, _, F24, F24.binds (ps := ["product"]) fun _ _ _ _ _ _ us hl => match us, hl with | [_], _ => rfl, PySem.W.mg_of X G d24.a⟩
  have F25 := fun_mk (st := s_terms_list) d25.l d25.c d25.k
  have D25 : Df K mg "terms_list" s_terms_list ["product", "many"] := ⟨_, _, F25, F25.binds (ps := ["product", "many"]) fun _ _ _ _ _ _ us hl => match us, hl with | [_, _], _ => rfl, PySem.W.mg_of X G d25.a⟩
  have F26 := fun_mk (st := s_spread_pairs) d26.l d26.c d26.k
  have D26 : Df K mg "spread_pairs" s_spread_pairs ["product", "t"] := ⟨_, _, F26, F26.binds (ps := ["product", "t"]) fun _ _ _ _ _ _ us hl => match us, hl with | [_, _], _ => rfl, PySem.W.mg_of X G d26.a⟩
  have F27 := fun_mk (st := s_start_of) d27.l d27.c d27.k
  have D27 : Df K mg "start_of" s_start_of ["product"] := ⟨_, _, F27, F27.binds (ps := ["product"]) fun _ _ _ _ _ _ us hl => match us, hl with | [_], _ => rfl, PySem.W.mg_of X G d27.a⟩
  have F28 := fun_mk (st := s_product_weight) d28.l d28.c d28.k
  have D28 : Df K mg "product_weight" s_product_weight ["product"] := ⟨_, _, F28, F28.binds (ps := ["product"]) fun _ _ _ _ _ _ us hl => match us, hl with | [_], _ => rfl, PySem.W.mg_of X G d28.a⟩
  have F29 := fun_mk (st := s_product_terms) d29.l d29.c d29.k
  have D29 : Df K mg "product_terms" s_product_terms ["product", "many"] := ⟨_, _, F29, F29.binds (ps := ["product", "many"]) fun _ _ _ _ _ _ us hl => match us, hl with | [_, _], _ => rfl, PySem.W.mg_of X G d29.a⟩
  have F30 := fun_mk (st := s_settled) d30.l d30.c d30.k
  have D30 : Df K mg "settled" s_settled ["pairs"] := ⟨_, _, F30, F30.binds (ps := ["pairs"]) fun _ _ _ _ _ _ us hl => match us, hl with | [_], _ => rfl, PySem.W.mg_of X G d30.a⟩
  have F31 := fun_mk (st := s_joined_product) d31.l d31.c d31.k
  have D31 : Df K mg "joined_product" s_joined_product ["one", "other"] := ⟨_, _, F31, F31.binds (ps := ["one", "other"]) fun _ _ _ _ _ _ us hl => match us, hl with | [_, _], _ => rfl, PySem.W.mg_of X G d31.a⟩
  have F32 := fun_mk (st := s_undone_product) d32.l d32.c d32.k
  have D32 : Df K mg "undone_product" s_undone_product ["product"] := ⟨_, _, F32, F32.binds (ps := ["product"]) fun _ _ _ _ _ _ us hl => match us, hl with | [_], _ => rfl, PySem.W.mg_of X G d32.a⟩
  have F33 := fun_mk (st := s_spread_product) d33.l d33.c d33.k
  have D33 : Df K mg "spread_product" s_spread_product ["product", "t"] := ⟨_, _, F33, F33.binds (ps := ["product", "t"]) fun _ _ _ _ _ _ us hl => match us, hl with | [_, _], _ => rfl, PySem.W.mg_of X G d33.a⟩
  have F34 := fun_mk (st := s_law_deck) d34.l d34.c d34.k
  have D34 : Df K mg "_law_deck" s_law_deck ["_law_script"] := ⟨_, _, F34, F34.binds (ps := ["_law_script"]) fun _ _ _ _ _ _ us hl => match us, hl with | [_], _ => rfl, PySem.W.mg_of X G d34.a⟩
  have F35 := fun_mk (st := s_law_draw) d35.l d35.c d35.k
  have D35 : Df K mg "_law_draw" s_law_draw ["_law_deck_here", "_law_many"] := ⟨_, _, F35, F35.binds (ps := ["_law_deck_here", "_law_many"]) fun _ _ _ _ _ _ us hl => match us, hl with | [_, _], _ => rfl, PySem.W.mg_of X G d35.a⟩
  have F36 := fun_mk (st := s_law_pick) d36.l d36.c d36.k
  have D36 : Df K mg "_law_pick" s_law_pick ["_law_deck_here", "_law_some"] := ⟨_, _, F36, F36.binds (ps := ["_law_deck_here", "_law_some"]) fun _ _ _ _ _ _ us hl => match us, hl with | [_, _], _ => rfl, PySem.W.mg_of X G d36.a⟩
  have F37 := fun_mk (st := s_law_same) d37.l d37.c d37.k
  have D37 : Df K mg "_law_same" s_law_same ["_law_told", "_law_due"] := ⟨_, _, F37, F37.binds (ps := ["_law_told", "_law_due"]) fun _ _ _ _ _ _ us hl => match us, hl with | [_, _], _ => rfl, PySem.W.mg_of X G d37.a⟩
  have F38 := fun_mk (st := s_law_divisor) d38.l d38.c d38.k
  have D38 : Df K mg "_law_divisor" s_law_divisor ["_law_one", "_law_other"] := ⟨_, _, F38, F38.binds (ps := ["_law_one", "_law_other"]) fun _ _ _ _ _ _ us hl => match us, hl with | [_, _], _ => rfl, PySem.W.mg_of X G d38.a⟩
  have F39 := fun_mk (st := s_law_least) d39.l d39.c d39.k
  have D39 : Df K mg "_law_least" s_law_least ["_law_top", "_law_bottom"] := ⟨_, _, F39, F39.binds (ps := ["_law_top", "_law_bottom"]) fun _ _ _ _ _ _ us hl => match us, hl with | [_, _], _ => rfl, PySem.W.mg_of X G d39.a⟩
  have F40 := fun_mk (st := s_law_terms) d40.l d40.c d40.k
  have D40 : Df K mg "_law_terms" s_law_terms ["_law_product_here", "_law_many"] := ⟨_, _, F40, F40.binds (ps := ["_law_product_here", "_law_many"]) fun _ _ _ _ _ _ us hl => match us, hl with | [_, _], _ => rfl, PySem.W.mg_of X G d40.a⟩
  have F41 := fun_mk (st := s_law_product) d41.l d41.c d41.k
  have D41 : Df K mg "_law_product" s_law_product ["_law_deck_here", "_law_pairs", "_law_most", "_law_high"] := ⟨_, _, F41, F41.binds (ps := ["_law_deck_here", "_law_pairs", "_law_most", "_law_high"]) fun _ _ _ _ _ _ us hl => match us, hl with | [_, _, _, _], _ => rfl, PySem.W.mg_of X G d41.a⟩
  have F42 := fun_mk (st := s_law_joined) d42.l d42.c d42.k
  have D42 : Df K mg "_law_joined" s_law_joined ["_law_one", "_law_other"] := ⟨_, _, F42, F42.binds (ps := ["_law_one", "_law_other"]) fun _ _ _ _ _ _ us hl => match us, hl with | [_, _], _ => rfl, PySem.W.mg_of X G d42.a⟩
  have F43 := fun_mk (st := s_law_is_told_right) d43.l d43.c d43.k
  have D43 : Df K mg "_law_is_told_right" s_law_is_told_right ["_law_product_here", "_law_many"] := ⟨_, _, F43, F43.binds (ps := ["_law_product_here", "_law_many"]) fun _ _ _ _ _ _ us hl => match us, hl with | [_, _], _ => rfl, PySem.W.mg_of X G d43.a⟩
  have F44 := fun_mk (st := s_law_is_small) d44.l d44.c d44.k
  have D44 : Df K mg "_law_is_small" s_law_is_small ["_law_terms_here"] := ⟨_, _, F44, F44.binds (ps := ["_law_terms_here"]) fun _ _ _ _ _ _ us hl => match us, hl with | [_], _ => rfl, PySem.W.mg_of X G d44.a⟩
  have F45 := fun_mk (st := s_law_sum) d45.l d45.c d45.k
  have D45 : Df K mg "_law_sum" s_law_sum ["_law_one", "_law_other"] := ⟨_, _, F45, F45.binds (ps := ["_law_one", "_law_other"]) fun _ _ _ _ _ _ us hl => match us, hl with | [_, _], _ => rfl, PySem.W.mg_of X G d45.a⟩
  have F46 := fun_mk (st := s_law_are_both_right) d46.l d46.c d46.k
  have D46 : Df K mg "_law_are_both_right" s_law_are_both_right ["_law_one", "_law_other", "_law_many"] := ⟨_, _, F46, F46.binds (ps := ["_law_one", "_law_other", "_law_many"]) fun _ _ _ _ _ _ us hl => match us, hl with | [_, _, _], _ => rfl, PySem.W.mg_of X G d46.a⟩
  have F47 := fun_mk (st := s_law_is_undone_right) d47.l d47.c d47.k
  have D47 : Df K mg "_law_is_undone_right" s_law_is_undone_right ["_law_product_here", "_law_many"] := ⟨_, _, F47, F47.binds (ps := ["_law_product_here", "_law_many"]) fun _ _ _ _ _ _ us hl => match us, hl with | [_, _], _ => rfl, PySem.W.mg_of X G d47.a⟩
  have F48 := fun_mk (st := s_law_is_spread_right) d48.l d48.c d48.k
  have D48 : Df K mg "_law_is_spread_right" s_law_is_spread_right ["_law_product_here", "_law_t", "_law_many"] := ⟨_, _, F48, F48.binds (ps := ["_law_product_here", "_law_t", "_law_many"]) fun _ _ _ _ _ _ us hl => match us, hl with | [_, _, _], _ => rfl, PySem.W.mg_of X G d48.a⟩
  have T : Txt K mg := ⟨D0,
    D1,
    D2,
    D3,
    D4,
    D5,
    D6,
    D7,
    D8,
    D9,
    D10,
    D11,
    D12,
    D13,
    D14,
    D15,
    D16,
    D17,
    D18,
    D19,
    D20,
    D21,
    D22,
    D23,
    D24,
    D25,
    D26,
    D27,
    D28,
    D29,
    D30,
    D31,
    D32,
    D33,
    D34,
    D35,
    D36,
    D37,
    D38,
    D39,
    D40,
    D41,
    D42,
    D43,
    D44,
    D45,
    D46,
    D47,
    D48,
    PySem.W.mg_none_of X G m_isinstance,
    PySem.W.mg_none_of X G m_len,
    PySem.W.mg_none_of X G m_tuple,
    PySem.W.mg_none_of X G m_range,
    PySem.W.mg_none_of X G m_min,
    PySem.W.mg_none_of X G m_max,
    PySem.W.mg_none_of X G m_sum,
    PySem.W.mg_none_of X G m_list,
    PySem.W.mg_none_of X G m_all,
    PySem.W.mg_none_of X G m_any,
    PySem.W.mg_none_of X G m_enumerate,
    PySem.W.mg_none_of X G m_sorted,
    PySem.W.mg_none_of X G m_abs,
    PySem.W.mg_none_of X G m_int,
    PySem.W.mg_none_of X G m_repr,
    PySem.W.mg_none_of X G m_dict,
    PySem.W.mg_none_of X G m_bool,
    ⟨_, PySem.W.mg_of X G c_MOST_TERMS⟩,
    ⟨_, PySem.W.mg_of X G c_MOST_PAIRS⟩,
    ⟨_, PySem.W.mg_of X G c_MOST_STEP⟩,
    ⟨_, PySem.W.mg_of X G c_MOST_POWER⟩,
    PySem.W.mg_of X G gc,
    kbn D29.F (fun ws => swap2 ws) swap2_vals fun _ _ _ _ _ _ ws hl => match ws, hl with | [_, _], _ => rfl,
    kbn D27.F (fun ws => id ws) (fun r => r) fun _ _ _ _ _ _ ws hl => match ws, hl with | [_], _ => rfl,
    kbn D31.F (fun ws => swap2 ws) swap2_vals fun _ _ _ _ _ _ ws hl => match ws, hl with | [_, _], _ => rfl,
    kbn D32.F (fun ws => id ws) (fun r => r) fun _ _ _ _ _ _ ws hl => match ws, hl with | [_], _ => rfl,
    kbn D33.F (fun ws => swap2 ws) swap2_vals fun _ _ _ _ _ _ ws hl => match ws, hl with | [_, _], _ => rfl⟩
  exact ⟨_, fun s v => .of_eq rfl, fun base _ _ => ok_law T (fun_mk (st := s_law) d49.l d49.c d49.k)⟩
end K17
open PySem PySem.W PyProof.Rows in
set_option maxRecDepth 100000 in
set_option maxHeartbeats 0 in
theorem PySem.Challenge.cw_firstterms_k17_whole_terms_by_multiplyin_holds : PySem.Challenge.rw_firstterms_k17_whole_terms_by_multiplyin.Holds := by
  w_on; o_law; k_head; (case hw => w_witness2)
  k_fill
  refine K17.walk_ofG (l := PySem.Challenge.rw_firstterms_k17_whole_terms_by_multiplyin) (n := 63) (k := 8) (x := "_law_script") (sp := K17.sp_law) rfl (by decide) rfl ⟨rfl, by decide, by decide⟩ (fun w h Y => PySem.W.kIn_of Y) ?F (fun _ _ a ns hl hS => ⟨a, ns, rfl, hS, hl, fun _ => rfl⟩)
  case F =>
    intro w mg fa h KX G hmg
    refine' K17.all_mk KX G hmg ⟨?a0, ?l0, ?c0, ?k0⟩ ⟨?a1, ?l1, ?c1, ?k1⟩ ⟨?a2, ?l2, ?c2, ?k2⟩ ⟨?a3, ?l3, ?c3, ?k3⟩ ⟨?a4, ?l4, ?c4, ?k4⟩ ⟨?a5, ?l5, ?c5, ?k5⟩ ⟨?a6, ?l6, ?c6, ?k6⟩ ⟨?a7, ?l7, ?c7, ?k7⟩ ⟨?a8, ?l8, ?c8, ?k8⟩ ⟨?a9, ?l9, ?c9, ?k9⟩ ⟨?a10, ?l10, ?c10, ?k10⟩ ⟨?a11, ?l11, ?c11, ?k11⟩ ⟨?a12, ?l12, ?c12, ?k12⟩ ⟨?a13, ?l13, ?c13, ?k13⟩ ⟨?a14, ?l14, ?c14, ?k14⟩ ⟨?a15, ?l15, ?c15, ?k15⟩ ⟨?a16, ?l16, ?c16, ?k16⟩ ⟨?a17, ?l17, ?c17, ?k17⟩ ⟨?a18, ?l18, ?c18, ?k18⟩ ⟨?a19, ?l19, ?c19, ?k19⟩ ⟨?a20, ?l20, ?c20, ?k20⟩ ⟨?a21, ?l21, ?c21, ?k21⟩ ⟨?a22, ?l22, ?c22, ?k22⟩ ⟨?a23, ?l23, ?c23, ?k23⟩ ⟨?a24, ?l24, ?c24, ?k24⟩ ⟨?a25, ?l25, ?c25, ?k25⟩ ⟨?a26, ?l26, ?c26, ?k26⟩ ⟨?a27, ?l27, ?c27, ?k27⟩ ⟨?a28, ?l28, ?c28, ?k28⟩ ⟨?a29, ?l29, ?c29, ?k29⟩ ⟨?a30, ?l30, ?c30, ?k30⟩ ⟨?a31, ?l31, ?c31, ?k31⟩ ⟨?a32, ?l32, ?c32, ?k32⟩ ⟨?a33, ?l33, ?c33, ?k33⟩ ⟨?a34, ?l34, ?c34, ?k34⟩ ⟨?a35, ?l35, ?c35, ?k35⟩ ⟨?a36, ?l36, ?c36, ?k36⟩ ⟨?a37, ?l37, ?c37, ?k37⟩ ⟨?a38, ?l38, ?c38, ?k38⟩ ⟨?a39, ?l39, ?c39, ?k39⟩ ⟨?a40, ?l40, ?c40, ?k40⟩ ⟨?a41, ?l41, ?c41, ?k41⟩ ⟨?a42, ?l42, ?c42, ?k42⟩ ⟨?a43, ?l43, ?c43, ?k43⟩ ⟨?a44, ?l44, ?c44, ?k44⟩ ⟨?a45, ?l45, ?c45, ?k45⟩ ⟨?a46, ?l46, ?c46, ?k46⟩ ⟨?a47, ?l47, ?c47, ?k47⟩ ⟨?a48, ?l48, ?c48, ?k48⟩ ⟨?a49, ?l49, ?c49, ?k49⟩ ?m_isinstance ?m_len ?m_tuple ?m_range ?m_min ?m_max ?m_sum ?m_list ?m_all ?m_any ?m_enumerate ?m_sorted ?m_abs ?m_int ?m_repr ?m_dict ?m_bool ?c_MOST_TERMS ?c_MOST_PAIRS ?c_MOST_STEP ?c_MOST_POWER ?gc
    (case a0 => k_is)
    (case l0 => k_is)
    (case c0 => k_is)
    (case k0 => k_is)
    (case a1 => k_is)
    (case l1 => k_is)
    (case c1 => k_is)
    (case k1 => k_is)
    (case a2 => k_is)
    (case l2 => k_is)
    (case c2 => k_is)
    (case k2 => k_is)
    (case a3 => k_is)
    (case l3 => k_is)
    (case c3 => k_is)
    (case k3 => k_is)
    (case a4 => k_is)
    (case l4 => k_is)
    (case c4 => k_is)
    (case k4 => k_is)
    (case a5 => k_is)
    (case l5 => k_is)
    (case c5 => k_is)
    (case k5 => k_is)
    (case a6 => k_is)
    (case l6 => k_is)
    (case c6 => k_is)
    (case k6 => k_is)
    (case a7 => k_is)
    (case l7 => k_is)
    (case c7 => k_is)
    (case k7 => k_is)
    (case a8 => k_is)
    (case l8 => k_is)
    (case c8 => k_is)
    (case k8 => k_is)
    (case a9 => k_is)
    (case l9 => k_is)
    (case c9 => k_is)
    (case k9 => k_is)
    (case a10 => k_is)
    (case l10 => k_is)
    (case c10 => k_is)
    (case k10 => k_is)
    (case a11 => k_is)
    (case l11 => k_is)
    (case c11 => k_is)
    (case k11 => k_is)
    (case a12 => k_is)
    (case l12 => k_is)
    (case c12 => k_is)
    (case k12 => k_is)
    (case a13 => k_is)
    (case l13 => k_is)
    (case c13 => k_is)
    (case k13 => k_is)
    (case a14 => k_is)
    (case l14 => k_is)
    (case c14 => k_is)
    (case k14 => k_is)
    (case a15 => k_is)
    (case l15 => k_is)
    (case c15 => k_is)
    (case k15 => k_is)
    (case a16 => k_is)
    (case l16 => k_is)
    (case c16 => k_is)
    (case k16 => k_is)
    (case a17 => k_is)
    (case l17 => k_is)
    (case c17 => k_is)
    (case k17 => k_is)
    (case a18 => k_is)
    (case l18 => k_is)
    (case c18 => k_is)
    (case k18 => k_is)
    (case a19 => k_is)
    (case l19 => k_is)
    (case c19 => k_is)
    (case k19 => k_is)
    (case a20 => k_is)
    (case l20 => k_is)
    (case c20 => k_is)
    (case k20 => k_is)
    (case a21 => k_is)
    (case l21 => k_is)
    (case c21 => k_is)
    (case k21 => k_is)
    (case a22 => k_is)
    (case l22 => k_is)
    (case c22 => k_is)
    (case k22 => k_is)
    (case a23 => k_is)
    (case l23 => k_is)
    (case c23 => k_is)
    (case k23 => k_is)
    (case a24 => k_is)
    (case l24 => k_is)
    (case c24 => k_is)
    (case k24 => k_is)
    (case a25 => k_is)
    (case l25 => k_is)
    (case c25 => k_is)
    (case k25 => k_is)
    (case a26 => k_is)
    (case l26 => k_is)
    (case c26 => k_is)
    (case k26 => k_is)
    (case a27 => k_is)
    (case l27 => k_is)
    (case c27 => k_is)
    (case k27 => k_is)
    (case a28 => k_is)
    (case l28 => k_is)
    (case c28 => k_is)
    (case k28 => k_is)
    (case a29 => k_is)
    (case l29 => k_is)
    (case c29 => k_is)
    (case k29 => k_is)
    (case a30 => k_is)
    (case l30 => k_is)
    (case c30 => k_is)
    (case k30 => k_is)
    (case a31 => k_is)
    (case l31 => k_is)
    (case c31 => k_is)
    (case k31 => k_is)
    (case a32 => k_is)
    (case l32 => k_is)
    (case c32 => k_is)
    (case k32 => k_is)
    (case a33 => k_is)
    (case l33 => k_is)
    (case c33 => k_is)
    (case k33 => k_is)
    (case a34 => k_is)
    (case l34 => k_is)
    (case c34 => k_is)
    (case k34 => k_is)
    (case a35 => k_is)
    (case l35 => k_is)
    (case c35 => k_is)
    (case k35 => k_is)
    (case a36 => k_is)
    (case l36 => k_is)
    (case c36 => k_is)
    (case k36 => k_is)
    (case a37 => k_is)
    (case l37 => k_is)
    (case c37 => k_is)
    (case k37 => k_is)
    (case a38 => k_is)
    (case l38 => k_is)
    (case c38 => k_is)
    (case k38 => k_is)
    (case a39 => k_is)
    (case l39 => k_is)
    (case c39 => k_is)
    (case k39 => k_is)
    (case a40 => k_is)
    (case l40 => k_is)
    (case c40 => k_is)
    (case k40 => k_is)
    (case a41 => k_is)
    (case l41 => k_is)
    (case c41 => k_is)
    (case k41 => k_is)
    (case a42 => k_is)
    (case l42 => k_is)
    (case c42 => k_is)
    (case k42 => k_is)
    (case a43 => k_is)
    (case l43 => k_is)
    (case c43 => k_is)
    (case k43 => k_is)
    (case a44 => k_is)
    (case l44 => k_is)
    (case c44 => k_is)
    (case k44 => k_is)
    (case a45 => k_is)
    (case l45 => k_is)
    (case c45 => k_is)
    (case k45 => k_is)
    (case a46 => k_is)
    (case l46 => k_is)
    (case c46 => k_is)
    (case k46 => k_is)
    (case a47 => k_is)
    (case l47 => k_is)
    (case c47 => k_is)
    (case k47 => k_is)
    (case a48 => k_is)
    (case l48 => k_is)
    (case c48 => k_is)
    (case k48 => k_is)
    (case a49 => k_is)
    (case l49 => k_is)
    (case c49 => k_is)
    (case k49 => k_is)
    (case m_isinstance => k_is)
    (case m_len => k_is)
    (case m_tuple => k_is)
    (case m_range => k_is)
    (case m_min => k_is)
    (case m_max => k_is)
    (case m_sum => k_is)
    (case m_list => k_is)
    (case m_all => k_is)
    (case m_any => k_is)
    (case m_enumerate => k_is)
    (case m_sorted => k_is)
    (case m_abs => k_is)
    (case m_int => k_is)
    (case m_repr => k_is)
    (case m_dict => k_is)
    (case m_bool => k_is)
    (case c_MOST_TERMS => k_is)
    (case c_MOST_PAIRS => k_is)
    (case c_MOST_STEP => k_is)
    (case c_MOST_POWER => k_is)
    (case gc => k_is)
