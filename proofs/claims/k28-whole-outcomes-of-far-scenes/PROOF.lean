import PyProof.Rows.All
import Wide.All
import OpenK.AllK
import Wide.FinOn
import HandS.ForMost
import HandS.Walk
import HandS.Conv
import HandS.DictComp
import HandS.DictEq
import HandS.More
import HandS.Sort
import HandS.SortRule
import HandS.SortInts
import HandS.IsInst
import HandS.Exc
import HandS.Defaults
import HandS.MakeKwOnly
import HandS.Wide
import HandS.Evl
import HandS.Head0
import HandS.Head1
import HandS.Head2
import HandS.HeadEnd
import HandS.HeadHook1
import HandS.HeadHook2
import PySem.Challenge.RW_retryslots_k28_whole_outcomes_of_far_sce
/-! retryslots, whole outcomes of far scenes: joined by join.py -/
section
set_option autoImplicit false
namespace RS

/-- what follows the listed gaps -/
inductive Tail where
  | fin
  | tim (b : Int)
  | rep (c : Nat)

structure Rul where
  gaps : List Int
  tail : Tail

/-- the number of listed gaps -/
abbrev Rul.n (R : Rul) : Nat := R.gaps.length

structure Rul.Ok (R : Rul) : Prop where
  len : R.n ≤ 20
  pos : ∀ g ∈ R.gaps, 1 ≤ g ∧ g ≤ 1000000000000
  tim : ∀ b, R.tail = .tim b → 2 ≤ b ∧ b ≤ 1000 ∧ 1 ≤ R.n
  rep : ∀ c, R.tail = .rep c → 1 ≤ c ∧ c ≤ R.n

def gapAt (R : Rul) (k : Nat) : Int :=
  if k < R.n then R.gaps.getD k 1 else
  match R.tail with
  | .fin => 1
  | .tim b => R.gaps.getD (R.n - 1) 1 * b ^ (k + 1 - R.n)
  | .rep c => R.gaps.getD (R.n - c + (k - R.n) % c) 1

def off (R : Rul) : Nat → Int
  | 0 => 0
  | k + 1 => off R k + gapAt R k

def hasB (R : Rul) (k : Nat) : Bool := match R.tail with
  | .fin => decide (k ≤ R.n)
  | _ => true

theorem getD_mem {l : List Int} {k : Nat} (h : k < l.length) : l.getD k 1 ∈ l := by
  have e : l.getD k 1 = l[k] := by simp [h]
  rw [e]
  exact List.getElem_mem h

theorem Rul.Ok.gap {R : Rul} (ok : R.Ok) (k : Nat) : 1 ≤ R.gaps.getD k 1 ∧ R.gaps.getD k 1 ≤ 1000000000000 := by
  by_cases h : k < R.gaps.length
  · exact ok.pos _ (getD_mem h)
  · have e : R.gaps.getD k 1 = 1 := by
      rw [List.getD_eq_getElem?_getD, List.getElem?_eq_none (by omega)]
      rfl
    rw [e]
    omega

theorem one_le_mul {a b : Int} (ha : 1 ≤ a) (hb : 1 ≤ b) : 1 ≤ a * b := by
  have h := Int.mul_le_mul ha hb (by omega) (by omega)
  omega

theorem one_le_pow {b : Int} (hb : 1 ≤ b) : ∀ k : Nat, 1 ≤ b ^ k
  | 0 => by simp
  | k + 1 => by
    rw [Int.pow_succ]
    exact one_le_mul (one_le_pow hb k) hb

theorem pow_le {a b : Int} (ha : 0 ≤ a) (h : a ≤ b) : ∀ k : Nat, a ^ k ≤ b ^ k
  | 0 => by simp
  | k + 1 => by
    rw [Int.pow_succ, Int.pow_succ]
    exact Int.mul_le_mul (pow_le ha h k) h ha (Int.pow_nonneg (by omega))

theorem pow_mono {b : Int} (hb : 1 ≤ b) {j k : Nat} (h : j ≤ k) : b ^ j ≤ b ^ k := by
  obtain ⟨m, rfl⟩ := Nat.exists_eq_add_of_le h
  rw [Int.pow_add]
  have h1 := one_le_pow hb m
  have h2 := one_le_pow hb j
  have h3 := Int.mul_le_mul_of_nonneg_left h1 (show 0 ≤ b ^ j by omega)
  omega

theorem gapAt_pos {R : Rul} (ok : R.Ok) (k : Nat) : 1 ≤ gapAt R k := by
  unfold gapAt
  split
  · exact (ok.gap k).1
  · split
    · omega
    · rename_i b hb
      exact one_le_mul (ok.gap _).1 (one_le_pow (by have := ok.tim b hb; omega) _)
    · exact (ok.gap _).1

theorem off_succ (R : Rul) (k : Nat) : off R (k + 1) = off R k + gapAt R k := rfl

theorem off_add_le {R : Rul} (ok : R.Ok) (j : Nat) : ∀ m : Nat, off R j + (m : Int) ≤ off R (j + m)
  | 0 => by simp
  | m + 1 => by
    have h := off_add_le ok j m
    have g := gapAt_pos ok (j + m)
    rw [← Nat.add_assoc, off_succ]
    omega

theorem off_lt {R : Rul} (ok : R.Ok) {j k : Nat} (h : j < k) : off R j < off R k := by
  obtain ⟨m, rfl⟩ := Nat.exists_eq_add_of_lt h
  have := off_add_le ok j (m + 1)
  rw [← Nat.add_assoc] at this
  omega
theorem off_le {R : Rul} (ok : R.Ok) {j k : Nat} (h : j ≤ k) : off R j ≤ off R k := by
  rcases Nat.lt_or_eq_of_le h with h | h
  · exact Int.le_of_lt (off_lt ok h)
  · rw [h]; exact Int.le_refl _
theorem off_inj {R : Rul} (ok : R.Ok) {j k : Nat} (h : off R j = off R k) : j = k := by
  rcases Nat.lt_trichotomy j k with q | q | q
  · have := off_lt ok q; omega
  · exact q
  · have := off_lt ok q; omega
theorem lt_of_off {R : Rul} (ok : R.Ok) {j k : Nat} (h : off R j < off R k) : j < k := by
  apply Decidable.byContradiction
  intro q
  have := off_le ok (show k ≤ j by omega)
  omega
theorem off_ge {R : Rul} (ok : R.Ok) (k : Nat) : (k : Int) ≤ off R k := by
  have h := off_add_le ok 0 k
  rw [Nat.zero_add, show off R 0 = 0 from rfl] at h
  omega
theorem off_nonneg {R : Rul} (ok : R.Ok) (k : Nat) : 0 ≤ off R k := by
  have := off_ge ok k
  omega

/-! ### times -/
theorem off_tim {R : Rul} {b : Int} (h : R.tail = .tim b) : ∀ m : Nat, (off R (R.n + m) - off R R.n) * (b - 1) = R.gaps.getD (R.n - 1) 1 * b * (b ^ m - 1)
  | 0 => by simp
  | m + 1 => by
    have ih := off_tim h m
    have g : gapAt R (R.n + m) = R.gaps.getD (R.n - 1) 1 * b ^ (m + 1) := by
      unfold gapAt
      rw [if_neg (by omega), h]
      show R.gaps.getD (R.n - 1) 1 * b ^ (R.n + m + 1 - R.n) = _
      rw [show R.n + m + 1 - R.n = m + 1 by omega]
    rw [← Nat.add_assoc, off_succ, g]
    generalize R.gaps.getD (R.n - 1) 1 = L at *
    generalize off R (R.n + m) = x at *
    generalize off R R.n = y at *
    have e1 : (x + L * b ^ (m + 1) - y) * (b - 1) = (x - y) * (b - 1) + L * b ^ (m + 1) * (b - 1) := by
      rw [← Int.add_mul]
      congr 1
      omega
    rw [e1, ih, Int.pow_succ]
    generalize b ^ m = z
    simp only [Int.mul_sub, Int.mul_one]
    have e3 : L * b * z = L * (z * b) := by
      simp only [Int.mul_assoc, Int.mul_comm, Int.mul_left_comm]
    have e4 : L * b * (z * b) = L * (z * b) * b := by
      simp only [Int.mul_assoc, Int.mul_comm, Int.mul_left_comm]
    rw [e3, e4]
    omega

theorem off_tim_div {R : Rul} {b : Int} (h : R.tail = .tim b) (hb : 2 ≤ b) {k : Nat} (hk : R.n ≤ k) :
    off R k = off R R.n + (R.gaps.getD (R.n - 1) 1 * b * (b ^ (k - R.n) - 1)).fdiv (b - 1) := by
  obtain ⟨m, rfl⟩ := Nat.exists_eq_add_of_le hk
  have e := off_tim h m
  rw [show R.n + m - R.n = m by omega, ← e, Int.mul_fdiv_cancel _ (by omega)]
  omega

/-- the gaps grow -/
theorem gapAt_tim {R : Rul} (ok : R.Ok) {b : Int} (h : R.tail = .tim b) {k : Nat} (hk : R.n ≤ k) : (2 : Int) ^ (k + 1 - R.n) ≤ gapAt R k := by
  unfold gapAt
  rw [if_neg (by omega), h]
  show (2 : Int) ^ (k + 1 - R.n) ≤ R.gaps.getD (R.n - 1) 1 * b ^ (k + 1 - R.n)
  have h1 := pow_le (show (0 : Int) ≤ 2 by omega) (ok.tim b h).1 (k + 1 - R.n)
  have h2 := (ok.gap (R.n - 1)).1
  have h3 : (0 : Int) ≤ b ^ (k + 1 - R.n) := Int.pow_nonneg (by have := ok.tim b h; omega)
  have h4 := Int.mul_le_mul_of_nonneg_right h2 h3
  omega

/-- far attempts lie far apart -/
theorem off_far {R : Rul} (ok : R.Ok) {b : Int} (h : R.tail = .tim b) (a : Nat) : off R a + 2 ^ 99 ≤ off R (a + 119) := by
  have l := ok.len
  have g := gapAt_tim ok h (k := a + 118) (by omega)
  have m : (2 : Int) ^ 99 ≤ 2 ^ (a + 118 + 1 - R.n) := pow_mono (by omega) (by omega)
  have o := off_le ok (show a ≤ a + 118 by omega)
  rw [show a + 119 = a + 118 + 1 by omega, off_succ]
  omega

/-- two attempts, one of them late -/
theorem gap_far {R : Rul} (ok : R.Ok) {b : Int} (h : R.tail = .tim b) {k j : Nat} (hk : 119 ≤ k) (hj : j ≠ k) : 2 ^ 98 < off R k - off R j ∨ 2 ^ 98 < off R j - off R k := by
  have l := ok.len
  rcases Nat.lt_or_gt_of_ne hj with q | q
  · left
    have g := gapAt_tim ok h (k := k - 1) (by omega)
    have m : (2 : Int) ^ 99 ≤ 2 ^ (k - 1 + 1 - R.n) := pow_mono (by omega) (by omega)
    have o := off_le ok (show j ≤ k - 1 by omega)
    have e : off R k = off R (k - 1) + gapAt R (k - 1) := by
      rw [← off_succ, show k - 1 + 1 = k by omega]
    omega
  · right
    have g := gapAt_tim ok h (k := k) (by omega)
    have m : (2 : Int) ^ 99 ≤ 2 ^ (k + 1 - R.n) := pow_mono (by omega) (by omega)
    have o := off_le ok (show k + 1 ≤ j by omega)
    rw [off_succ] at o
    omega

/-! ### repeat -/
/-- the period -/
def per (R : Rul) (c : Nat) : Int := off R R.n - off R (R.n - c)
theorem gapAt_rep {R : Rul} {c : Nat} (h : R.tail = .rep c) (h1 : 1 ≤ c) (h2 : c ≤ R.n) {k : Nat} (hk : R.n - c ≤ k) : gapAt R (k + c) = gapAt R k := by
  unfold gapAt
  rw [if_neg (by omega), h]
  show R.gaps.getD (R.n - c + (k + c - R.n) % c) 1 = _
  by_cases q : k < R.n
  · rw [if_pos q, Nat.mod_eq_of_lt (by omega), show R.n - c + (k + c - R.n) = k by omega]
  · rw [if_neg q]
    show _ = R.gaps.getD (R.n - c + (k - R.n) % c) 1
    rw [show k + c - R.n = k - R.n + c by omega, Nat.add_mod_right]
theorem off_rep {R : Rul} {c : Nat} (h : R.tail = .rep c) (h1 : 1 ≤ c) (h2 : c ≤ R.n) : ∀ m : Nat, off R (R.n - c + m + c) = off R (R.n - c + m) + per R c
  | 0 => by
    rw [Nat.add_zero, show R.n - c + c = R.n by omega]
    unfold per
    omega
  | m + 1 => by
    have ih := off_rep h h1 h2 m
    have g := gapAt_rep h h1 h2 (show R.n - c ≤ R.n - c + m by omega)
    rw [show R.n - c + (m + 1) + c = (R.n - c + m + c) + 1 by omega, off_succ, g, ih, ← Nat.add_assoc, off_succ]
    omega
theorem off_rep' {R : Rul} {c : Nat} (h : R.tail = .rep c) (h1 : 1 ≤ c) (h2 : c ≤ R.n) {k : Nat} (hk : R.n - c ≤ k) : off R (k + c) = off R k + per R c := by
  obtain ⟨m, rfl⟩ := Nat.exists_eq_add_of_le hk
  exact off_rep h h1 h2 m
theorem off_reps {R : Rul} {c : Nat} (h : R.tail = .rep c) (h1 : 1 ≤ c) (h2 : c ≤ R.n) {k : Nat} (hk : R.n - c ≤ k) : ∀ q : Nat, off R (k + q * c) = off R k + (q : Int) * per R c
  | 0 => by simp
  | q + 1 => by
    have ih := off_reps h h1 h2 hk q
    rw [Nat.succ_mul, ← Nat.add_assoc, off_rep' h h1 h2 (by omega), ih]
    have e : ((q + 1 : Nat) : Int) * per R c = (q : Int) * per R c + per R c := by
      rw [show ((q + 1 : Nat) : Int) = (q : Int) + 1 by omega, Int.add_mul, Int.one_mul]
    rw [e]
    omega
theorem per_pos {R : Rul} (ok : R.Ok) {c : Nat} (h : R.tail = .rep c) : 1 ≤ per R c := by
  have := ok.rep c h
  have l := off_lt ok (show R.n - c < R.n by omega)
  unfold per
  omega
/-- the closed form -/
theorem off_rep_form {R : Rul} {c : Nat} (h : R.tail = .rep c) (h1 : 1 ≤ c) (h2 : c ≤ R.n) {k : Nat} (hk : R.n ≤ k) :
    off R k = off R R.n + (((k - R.n) / c : Nat) : Int) * per R c + (off R (R.n - c + (k - R.n) % c) - off R (R.n - c)) := by
  have e : k = (R.n - c + (k - R.n) % c) + ((k - R.n) / c + 1) * c := by
    have := Nat.div_add_mod (k - R.n) c
    rw [Nat.add_mul, Nat.one_mul, Nat.mul_comm ((k - R.n) / c) c]
    omega
  have q := off_reps h h1 h2 (show R.n - c ≤ R.n - c + (k - R.n) % c by omega) ((k - R.n) / c + 1)
  rw [← e] at q
  rw [q]
  have e2 : (((k - R.n) / c + 1 : Nat) : Int) * per R c = (((k - R.n) / c : Nat) : Int) * per R c + per R c := by
    rw [show (((k - R.n) / c + 1 : Nat) : Int) = (((k - R.n) / c : Nat) : Int) + 1 by omega, Int.add_mul, Int.one_mul]
  rw [e2]
  unfold per
  omega

/-! ### the first attempt from a distance on -/
def ffr (R : Rul) (d : Int) : Option Nat := (List.range (d.toNat + 1)).find? fun k => hasB R k && decide (d ≤ off R k)
def atr (R : Rul) (d : Int) : Option Nat := match ffr R d with
  | some k => if off R k = d then some k else none
  | none => none
theorem hasB_le {R : Rul} {j k : Nat} (h : j ≤ k) (hk : hasB R k = true) : hasB R j = true := by
  unfold hasB at *
  split at hk
  · have := of_decide_eq_true hk
    exact decide_eq_true (by omega)
  · rfl
theorem ffr_some {R : Rul} (ok : R.Ok) {d : Int} {k : Nat} : ffr R d = some k ↔ hasB R k = true ∧ d ≤ off R k ∧ ∀ j, j < k → off R j < d := by
  unfold ffr
  constructor
  · intro h
    rw [List.find?_range_eq_some] at h
    obtain ⟨h1, h2, h3⟩ := h
    rw [Bool.and_eq_true, decide_eq_true_eq] at h1
    refine ⟨h1.1, h1.2, fun j hj => ?_⟩
    have := h3 j hj
    rw [hasB_le (Nat.le_of_lt hj) h1.1] at this
    simp at this
    exact this
  · rintro ⟨h1, h2, h3⟩
    rw [List.find?_range_eq_some]
    refine ⟨by rw [h1, decide_eq_true h2]; rfl, ?_, fun j hj => ?_⟩
    · rw [List.mem_range]
      rcases Nat.eq_zero_or_pos k with q | q
      · omega
      · have := h3 (k - 1) (by omega)
        have := off_ge ok (k - 1)
        omega
    · have := h3 j hj
      simp
      exact .inr this
theorem ffr_none {R : Rul} (ok : R.Ok) {d : Int} : ffr R d = none ↔ ∀ k, hasB R k = true → off R k < d := by
  unfold ffr
  rw [List.find?_range_eq_none]
  constructor
  · intro h k hk
    apply Decidable.byContradiction
    intro q
    -- the least such attempt
    by_cases hd : k < d.toNat + 1
    · have := h k hd
      rw [hk] at this
      simp at this
      omega
    · have := h d.toNat (by omega)
      rw [hasB_le (by omega) hk] at this
      simp at this
      have := off_ge ok d.toNat
      omega
  · intro h k hk
    cases q : hasB R k with
    | false => rfl
    | true =>
      have := h k q
      simp
      omega
theorem atr_some {R : Rul} (ok : R.Ok) {d : Int} {k : Nat} : atr R d = some k ↔ hasB R k = true ∧ off R k = d := by
  unfold atr
  constructor
  · intro h
    split at h
    · rename_i j hj
      split at h
      · rename_i e
        cases h
        exact ⟨((ffr_some ok).mp hj).1, e⟩
      · cases h
    · cases h
  · rintro ⟨h1, h2⟩
    have e : ffr R d = some k := (ffr_some ok).mpr ⟨h1, by omega, fun j hj => by
      have := off_lt ok hj
      omega⟩
    rw [e]
    show (if off R k = d then some k else none) = some k
    rw [if_pos h2]
theorem atr_isSome {R : Rul} (ok : R.Ok) {d : Int} : (atr R d).isSome = true ↔ ∃ k, hasB R k = true ∧ off R k = d := by
  rw [Option.isSome_iff_exists]
  exact ⟨fun ⟨k, h⟩ => ⟨k, (atr_some ok).mp h⟩, fun ⟨k, h⟩ => ⟨k, (atr_some ok).mpr h⟩⟩
end RS
end

section
set_option autoImplicit false
namespace RS

structure Scn where
  rule : Rul
  starts : List Int
  outs : List (Int × Int)
  len : Int

abbrev Scn.m (S : Scn) : Nat := S.starts.length
def Scn.b (S : Scn) (c : Nat) : Int := S.starts.getD c 0

structure Scn.Ok (S : Scn) : Prop where
  rule : S.rule.Ok
  one : 1 ≤ S.m
  ten : S.m ≤ 10
  sts : ∀ s ∈ S.starts, 0 ≤ s ∧ s ≤ 2 ^ 97
  outs : ∀ o ∈ S.outs, o.1 < o.2 ∧ o.2 ≤ 2 ^ 97
  ol : S.outs.length ≤ 5
  ord : S.outs.Pairwise fun a b => a.2 ≤ b.1
  len : 1 ≤ S.len ∧ S.len ≤ 2 ^ 44

/-- the client's rule places an attempt in the slot -/
def At (S : Scn) (c : Nat) (s : Int) : Prop := ∃ k, hasB S.rule k = true ∧ S.b c + off S.rule k = s

structure Stt where
  sv : List (Nat × (Nat × Int))
  cl : List Nat
  wt : List (Nat × Nat)
  fr : Int

/-- the slots of the services -/
def svOf (sv : List (Nat × (Nat × Int))) (c : Nat) : Option Int := (sv.lookup c).map (·.2)

/-- the law's own word: an attempt of c in s fails, by the services svc -/
def Fails (S : Scn) (svc : Nat → Option Int) (c : Nat) (s : Int) : Prop :=
  (∃ o ∈ S.outs, o.1 ≤ s ∧ s < o.2) ∨
  (∃ d, d < S.m ∧ d ≠ c ∧ ∃ t, svc d = some t ∧ t < s ∧ s < t + S.len) ∨
  (∃ d, d < S.m ∧ d ≠ c ∧ (∀ t, svc d = some t → s ≤ t) ∧ At S d s)

abbrev slotOf (S : Scn) (p : Nat × Nat) : Int := S.b p.1 + off S.rule p.2

theorem lookup_app {α : Type} {l : List (Nat × α)} {c d : Nat} {x : α} (h : l.lookup c = none) : (l ++ [(c, x)]).lookup d = if d = c then some x else l.lookup d := by
  rw [List.lookup_append]
  by_cases e : d = c
  · subst e
    rw [h, if_pos rfl]
    show (List.lookup d [(d, x)]) = some x
    simp
  · rw [if_neg e]
    have q : List.lookup d [(c, x)] = none := by
      show (match d == c with | true => some x | false => none) = none
      rw [beq_false_of_ne e]
    rw [q]
    cases List.lookup d l <;> rfl
theorem svOf_of {sv : List (Nat × (Nat × Int))} {c k : Nat} {t : Int} (e : sv.lookup c = some (k, t)) : svOf sv c = some t := by unfold svOf; rw [e]; rfl
theorem svOf_eq {sv : List (Nat × (Nat × Int))} {c k : Nat} {t u : Int} (e : sv.lookup c = some (k, t)) (h : svOf sv c = some u) : t = u := by
  rw [svOf_of e] at h
  exact Option.some.inj h
theorem svOf_none {sv : List (Nat × (Nat × Int))} {c : Nat} {u : Int} (e : sv.lookup c = none) (h : svOf sv c = some u) : False := by
  unfold svOf at h
  rw [e] at h
  cases h
theorem svOf_app {sv : List (Nat × (Nat × Int))} {c k : Nat} {t : Int} (h : sv.lookup c = none) (d : Nat) : svOf (sv ++ [(c, (k, t))]) d = if d = c then some t else svOf sv d := by
  unfold svOf
  rw [lookup_app h]
  split <;> rfl

/-- a later service changes nothing of what lies at or before it -/
theorem fails_app {S : Scn} {sv : List (Nat × (Nat × Int))} {c k : Nat} {t : Int} (h : sv.lookup c = none) {d : Nat} {s : Int} (hs : s ≤ t) : Fails S (svOf (sv ++ [(c, (k, t))])) d s ↔ Fails S (svOf sv) d s := by
  have hn : svOf sv c = none := by unfold svOf; rw [h]; rfl
  unfold Fails
  refine or_congr Iff.rfl (or_congr ⟨?_, ?_⟩ ⟨?_, ?_⟩)
  · rintro ⟨e, h1, h2, u, h3, h4, h5⟩
    rw [svOf_app h] at h3
    split at h3
    · cases h3
      omega
    · exact ⟨e, h1, h2, u, h3, h4, h5⟩
  · rintro ⟨e, h1, h2, u, h3, h4, h5⟩
    refine ⟨e, h1, h2, u, ?_, h4, h5⟩
    rw [svOf_app h]
    split
    · rename_i q
      rw [q, hn] at h3
      cases h3
    · exact h3
  · rintro ⟨e, h1, h2, h3, h4⟩
    refine ⟨e, h1, h2, fun u hu => h3 u ?_, h4⟩
    rw [svOf_app h]
    split
    · rename_i q
      rw [q, hn] at hu
      cases hu
    · exact hu
  · rintro ⟨e, h1, h2, h3, h4⟩
    refine ⟨e, h1, h2, fun u hu => ?_, h4⟩
    rw [svOf_app h] at hu
    split at hu
    · cases hu
      exact hs
    · exact h3 u hu

/-- THE INVARIANT: all before T is settled -/
structure Inv (S : Scn) (st : Stt) (T : Int) : Prop where
  wtn : (st.wt.map (·.1)).Nodup
  wlt : ∀ p ∈ st.wt, p.1 < S.m ∧ hasB S.rule p.2 = true ∧ T ≤ slotOf S p ∧ ∀ j, j < p.2 → S.b p.1 + off S.rule j < T
  wsv : ∀ p ∈ st.wt, st.sv.lookup p.1 = none
  wcl : ∀ p ∈ st.wt, p.1 ∉ st.cl
  wuq : ∀ p ∈ st.wt, ∀ d, d < S.m → d ≠ p.1 → S.b d ≠ S.b p.1
  clt : ∀ c ∈ st.cl, c < S.m ∧ st.sv.lookup c = none
  cln : st.cl.Nodup
  cm : ∀ c ∈ st.cl, ∀ s, T ≤ s → At S c s → ∃ d, d ∈ st.cl ∧ d ≠ c ∧ At S d s
  rest : ∀ c, c < S.m → c ∉ st.cl → c ∉ st.wt.map (·.1) → st.sv.lookup c = none → ∀ s, At S c s → s < T
  fails : ∀ c, c < S.m → ∀ s, s < T → At S c s → (∀ t, svOf st.sv c = some t → s < t) → Fails S (svOf st.sv) c s
  svd : ∀ c k t, st.sv.lookup c = some (k, t) → c < S.m ∧ hasB S.rule k = true ∧ t = S.b c + off S.rule k ∧ t < T ∧ t + S.len ≤ st.fr ∧ ¬ Fails S (svOf st.sv) c t
  frT : st.fr ≤ T ∨ ∃ c k t, st.sv.lookup c = some (k, t) ∧ st.fr = t + S.len
  svn : (st.sv.map (·.1)).Nodup

section
variable {S : Scn} {st : Stt} {T : Int}

theorem closed_fails (I : Inv S st T) {c : Nat} {s : Int} (hc : c ∈ st.cl) (hs : T ≤ s) (ha : At S c s) : Fails S (svOf st.sv) c s := by
  obtain ⟨d, h1, h2, h3⟩ := I.cm c hc s hs ha
  refine .inr (.inr ⟨d, (I.clt d h1).1, h2, fun t ht => ?_, h3⟩)
  unfold svOf at ht
  rw [(I.clt d h1).2] at ht
  cases ht

theorem inj_fst {α β : Type} : ∀ {l : List (α × β)}, (l.map (·.1)).Nodup → ∀ {p q : α × β}, p ∈ l → q ∈ l → p.1 = q.1 → p = q
  | [], _, p, _, hp, _, _ => by cases hp
  | a :: r, h, p, q, hp, hq, e => by
    rw [List.map_cons, List.nodup_cons] at h
    rcases List.mem_cons.mp hp with h1 | h1
    · rcases List.mem_cons.mp hq with h2 | h2
      · rw [h1, h2]
      · refine (h.1 (List.mem_map.mpr ⟨q, h2, ?_⟩)).elim
        rw [← h1, e]
    · rcases List.mem_cons.mp hq with h2 | h2
      · refine (h.1 (List.mem_map.mpr ⟨p, h1, ?_⟩)).elim
        rw [← h2, e]
      · exact inj_fst h.2 h1 h2 e

/-- time goes on; the attempts on the way fail -/
theorem forward (I : Inv S st T) {T' : Int} (hT : T ≤ T') {wt' : List (Nat × Nat)}
    (hn : (wt'.map (·.1)).Nodup)
    (hw : ∀ q ∈ wt', ∃ p ∈ st.wt, q.1 = p.1 ∧ hasB S.rule q.2 = true ∧ T' ≤ slotOf S q ∧ ∀ j, j < q.2 → S.b q.1 + off S.rule j < T')
    (hd : ∀ p ∈ st.wt, p.1 ∉ wt'.map (·.1) → ∀ s, At S p.1 s → s < T')
    (hf : ∀ p ∈ st.wt, ∀ s, T ≤ s → s < T' → At S p.1 s → Fails S (svOf st.sv) p.1 s) : Inv S { st with wt := wt' } T' where
  wtn := hn
  wlt := fun q hq => by
    obtain ⟨p, hp, e, h1, h2, h3⟩ := hw q hq
    exact ⟨by rw [e]; exact (I.wlt p hp).1, h1, h2, h3⟩
  wsv := fun q hq => by
    obtain ⟨p, hp, e, _⟩ := hw q hq
    rw [e]
    exact I.wsv p hp
  wcl := fun q hq => by
    obtain ⟨p, hp, e, _⟩ := hw q hq
    rw [e]
    exact I.wcl p hp
  wuq := fun q hq => by
    obtain ⟨p, hp, e, _⟩ := hw q hq
    rw [e]
    exact I.wuq p hp
  clt := I.clt
  cln := I.cln
  cm := fun c hc s hs ha => I.cm c hc s (by omega) ha
  rest := fun c h1 h2 h3 h4 s hs => by
    by_cases e : c ∈ st.wt.map (·.1)
    · obtain ⟨p, hp, rfl⟩ := List.mem_map.mp e
      exact hd p hp h3 s hs
    · have := I.rest c h1 h2 e h4 s hs
      omega
  fails := fun c hc s hs ha hv => by
    by_cases q : s < T
    · exact I.fails c hc s q ha hv
    · by_cases e : c ∈ st.wt.map (·.1)
      · obtain ⟨p, hp, rfl⟩ := List.mem_map.mp e
        exact hf p hp s (by omega) hs ha
      · by_cases e2 : c ∈ st.cl
        · exact closed_fails I e2 (by omega) ha
        · cases e3 : st.sv.lookup c with
          | none => have := I.rest c hc e2 e e3 s ha; omega
          | some x =>
            obtain ⟨k, t⟩ := x
            have h1 := (I.svd c k t e3).2.2.2.1
            have h2 := hv t (by show svOf st.sv c = some t; unfold svOf; rw [e3]; rfl)
            omega
  svd := fun c k t h => by
    obtain ⟨h1, h2, h3, h4, h5⟩ := I.svd c k t h
    exact ⟨h1, h2, h3, by omega, h5⟩
  frT := by
    rcases I.frT with h | h
    · exact .inl (by show st.fr ≤ T'; omega)
    · exact .inr h
  svn := I.svn

/-- a waiting client's attempts from T on lie at its own next attempt or behind -/
theorem from_next (I : Inv S st T) (ok : S.rule.Ok) {p : Nat × Nat} (hp : p ∈ st.wt) {s : Int} (hs : T ≤ s) (ha : At S p.1 s) : slotOf S p ≤ s := by
  obtain ⟨k, _, e⟩ := ha
  obtain ⟨_, _, _, h4⟩ := I.wlt p hp
  by_cases q : k < p.2
  · have := h4 k q
    omega
  · have := off_le ok (show p.2 ≤ k by omega)
    show S.b p.1 + off S.rule p.2 ≤ s
    omega

/-- nothing happens up to the next attempt -/
theorem raise (I : Inv S st T) (ok : S.rule.Ok) {T' : Int} (hT : T ≤ T') (h : ∀ p ∈ st.wt, T' ≤ slotOf S p) : Inv S st T' := by
  have := forward I hT (wt' := st.wt) I.wtn (fun q hq => ⟨q, hq, rfl, (I.wlt q hq).2.1, h q hq, fun j hj => by have := (I.wlt q hq).2.2.2 j hj; omega⟩)
    (fun p hp hn => absurd (List.mem_map.mpr ⟨p, hp, rfl⟩) hn) (fun p hp s h1 h2 ha => by
      have := from_next I ok hp h1 ha
      have := h p hp
      omega)
  exact this

/-- a client alone is served -/
theorem serve (I : Inv S st T) (ok : S.Ok) {p : Nat × Nat} (hp : p ∈ st.wt) (hs : slotOf S p = T) (h1 : ∀ q ∈ st.wt, slotOf S q = T → q = p) (h2 : ∀ d ∈ st.cl, ¬ At S d T) (h3 : ∀ o ∈ S.outs, ¬ (o.1 ≤ T ∧ T < o.2)) (h4 : st.fr ≤ T) :
    Inv S { st with sv := st.sv ++ [(p.1, (p.2, T))], wt := st.wt.filter (fun q => q.1 ≠ p.1), fr := T + S.len } (T + 1) := by
  have hn := I.wsv p hp
  have hlen := ok.len.1
  have sub : ∀ q, q ∈ st.wt.filter (fun q => q.1 ≠ p.1) → q ∈ st.wt ∧ q.1 ≠ p.1 := fun q hq => by
    have := List.mem_filter.mp hq
    exact ⟨this.1, by simpa using this.2⟩
  have lk : ∀ d, (st.sv ++ [(p.1, (p.2, T))]).lookup d = if d = p.1 then some (p.2, T) else st.sv.lookup d := fun d => lookup_app hn
  -- the service itself is none that fails
  have nf : ¬ Fails S (svOf st.sv) p.1 T := by
    rintro (⟨o, ho, h⟩ | ⟨d, hd, hne, t, ht, h5, h6⟩ | ⟨d, hd, hne, hv, ha⟩)
    · exact h3 o ho h
    · cases e : st.sv.lookup d with
      | none => exact svOf_none e ht
      | some x =>
        obtain ⟨k, u⟩ := x
        have eu := svOf_eq e ht
        subst eu
        have := (I.svd d k u e).2.2.2.2.1
        omega
    · by_cases e1 : d ∈ st.cl
      · exact h2 d e1 ha
      · by_cases e2 : d ∈ st.wt.map (·.1)
        · obtain ⟨q, hq, rfl⟩ := List.mem_map.mp e2
          have g1 := from_next I ok.rule hq (Int.le_refl _) ha
          have g2 := (I.wlt q hq).2.2.1
          have := h1 q hq (by omega)
          exact hne (by rw [this])
        · cases e3 : st.sv.lookup d with
          | none => have := I.rest d hd e1 e2 e3 T ha; omega
          | some x =>
            obtain ⟨k, u⟩ := x
            have g1 := (I.svd d k u e3).2.2.2.1
            have g2 := hv u (by unfold svOf; rw [e3]; rfl)
            omega
  refine ⟨?_, ?_, ?_, ?_, ?_, ?_, I.cln, ?_, ?_, ?_, ?_, ?_, ?_⟩
  · exact I.wtn.sublist (List.filter_sublist.map _)
  · intro q hq
    obtain ⟨hq1, hq2⟩ := sub q hq
    obtain ⟨g1, g2, g3, g4⟩ := I.wlt q hq1
    refine ⟨g1, g2, ?_, fun j hj => by have := g4 j hj; omega⟩
    have : slotOf S q ≠ T := fun e => hq2 (by rw [h1 q hq1 e])
    omega
  · intro q hq
    obtain ⟨hq1, hq2⟩ := sub q hq
    show (st.sv ++ [(p.1, (p.2, T))]).lookup q.1 = none
    rw [lk, if_neg hq2]
    exact I.wsv q hq1
  · intro q hq
    exact I.wcl q (sub q hq).1
  · intro q hq
    exact I.wuq q (sub q hq).1
  · intro c hc
    refine ⟨(I.clt c hc).1, ?_⟩
    show (st.sv ++ [(p.1, (p.2, T))]).lookup c = none
    have hcp : c ≠ p.1 := fun e => I.wcl p hp (by rw [← e]; exact hc)
    rw [lk, if_neg hcp]
    exact (I.clt c hc).2
  · intro c hc s hs' ha
    exact I.cm c hc s (by omega) ha
  · intro c g1 g2 g3 g4 s ha
    have g4' : (st.sv ++ [(p.1, (p.2, T))]).lookup c = none := g4
    rw [lk] at g4'
    split at g4'
    · cases g4'
    · rename_i hne
      have g3' : c ∉ st.wt.map (·.1) := fun hm => by
        obtain ⟨q, hq, rfl⟩ := List.mem_map.mp hm
        exact g3 (List.mem_map.mpr ⟨q, List.mem_filter.mpr ⟨hq, by simpa using hne⟩, rfl⟩)
      have := I.rest c g1 g2 g3' g4' s ha
      omega
  · intro c hc s hs' ha hv
    show Fails S (svOf (st.sv ++ [(p.1, (p.2, T))])) c s
    rw [fails_app hn (by omega)]
    have hv' : ∀ t, svOf (st.sv ++ [(p.1, (p.2, T))]) c = some t → s < t := hv
    by_cases q : s < T
    · refine I.fails c hc s q ha fun t ht => hv' t ?_
      rw [svOf_app hn]
      split
      · rename_i e
        unfold svOf at ht
        rw [e, hn] at ht
        cases ht
      · exact ht
    · have e : s = T := by omega
      subst e
      by_cases e0 : c = p.1
      · have := hv' s (by rw [svOf_app hn, if_pos e0])
        omega
      · by_cases e1 : c ∈ st.cl
        · exact absurd ha (h2 c e1)
        · by_cases e2 : c ∈ st.wt.map (·.1)
          · obtain ⟨q, hq, rfl⟩ := List.mem_map.mp e2
            have g1 := from_next I ok.rule hq (Int.le_refl _) ha
            have g2 := (I.wlt q hq).2.2.1
            exact absurd (by rw [h1 q hq (by omega)]) e0
          · cases e3 : st.sv.lookup c with
            | none => have := I.rest c hc e1 e2 e3 s ha; omega
            | some x =>
              obtain ⟨k, u⟩ := x
              have g1 := (I.svd c k u e3).2.2.2.1
              have g2 := hv' u (by rw [svOf_app hn, if_neg e0]; unfold svOf; rw [e3]; rfl)
              omega
  · intro c k t h
    have h' : (st.sv ++ [(p.1, (p.2, T))]).lookup c = some (k, t) := h
    show c < S.m ∧ hasB S.rule k = true ∧ t = S.b c + off S.rule k ∧ t < T + 1 ∧ t + S.len ≤ T + S.len ∧ ¬ Fails S (svOf (st.sv ++ [(p.1, (p.2, T))])) c t
    rw [lk] at h'
    split at h'
    · rename_i e
      cases h'
      rw [fails_app hn (by omega), e]
      exact ⟨(I.wlt p hp).1, (I.wlt p hp).2.1, hs.symm, by omega, by omega, nf⟩
    · obtain ⟨g1, g2, g3, g4, g5, g6⟩ := I.svd c k t h'
      rw [fails_app hn (by omega)]
      exact ⟨g1, g2, g3, by omega, by omega, g6⟩
  · right
    exact ⟨p.1, p.2, T, by show (st.sv ++ [(p.1, (p.2, T))]).lookup p.1 = _; rw [lk, if_pos rfl], rfl⟩
  · show ((st.sv ++ [(p.1, (p.2, T))]).map (·.1)).Nodup
    rw [List.map_append, List.nodup_append]
    refine ⟨I.svn, by simp, ?_⟩
    intro a ha b hb e
    simp at hb
    subst hb
    subst e
    obtain ⟨x, hx, e⟩ := List.mem_map.mp ha
    have : st.sv.lookup x.1 ≠ none := by
      rw [Ne, List.lookup_eq_none_iff]
      intro q
      have := q x hx
      simp at this
    rw [e] at this
    exact this hn

/-- clients that meet one another for ever are put aside -/
theorem closing (I : Inv S st T) {f : Nat → Bool}
    (h : ∀ c ∈ (st.wt.map (·.1)).filter f, ∀ s, T ≤ s → At S c s → ∃ d, d ∈ st.cl ++ (st.wt.map (·.1)).filter f ∧ d ≠ c ∧ At S d s) :
    Inv S { st with cl := st.cl ++ (st.wt.map (·.1)).filter f, wt := st.wt.filter fun q => !f q.1 } T := by
  have sub : ∀ q, q ∈ st.wt.filter (fun q => !f q.1) → q ∈ st.wt ∧ f q.1 = false := fun q hq => by
    have := List.mem_filter.mp hq
    exact ⟨this.1, by simpa using this.2⟩
  have fs : ∀ c, c ∈ (st.wt.map (·.1)).filter f → ∃ p ∈ st.wt, p.1 = c ∧ f c = true := fun c hc => by
    obtain ⟨h1, h2⟩ := List.mem_filter.mp hc
    obtain ⟨p, hp, e⟩ := List.mem_map.mp h1
    exact ⟨p, hp, e, h2⟩
  refine ⟨?_, ?_, ?_, ?_, ?_, ?_, ?_, ?_, ?_, I.fails, I.svd, I.frT, I.svn⟩
  · exact I.wtn.sublist (List.filter_sublist.map _)
  · exact fun q hq => I.wlt q (sub q hq).1
  · exact fun q hq => I.wsv q (sub q hq).1
  · intro q hq hm
    rcases List.mem_append.mp hm with hm | hm
    · exact I.wcl q (sub q hq).1 hm
    · have := (List.mem_filter.mp hm).2
      rw [(sub q hq).2] at this
      cases this
  · exact fun q hq => I.wuq q (sub q hq).1
  · intro c hc
    rcases List.mem_append.mp hc with hc | hc
    · exact I.clt c hc
    · obtain ⟨p, hp, rfl, _⟩ := fs c hc
      exact ⟨(I.wlt p hp).1, I.wsv p hp⟩
  · show (st.cl ++ (st.wt.map (·.1)).filter f).Nodup
    rw [List.nodup_append]
    refine ⟨I.cln, I.wtn.sublist List.filter_sublist, ?_⟩
    intro a ha b hb e
    obtain ⟨p, hp, e2, _⟩ := fs b hb
    exact I.wcl p hp (by rw [e2, ← e]; exact ha)
  · intro c hc s hs ha
    rcases List.mem_append.mp hc with hc | hc
    · obtain ⟨d, h1, h2, h3⟩ := I.cm c hc s hs ha
      exact ⟨d, List.mem_append_left _ h1, h2, h3⟩
    · exact h c hc s hs ha
  · intro c h1 h2 h3 h4 s ha
    have h2' : c ∉ st.cl ++ (st.wt.map (·.1)).filter f := h2
    rw [List.mem_append, not_or] at h2'
    refine I.rest c h1 h2'.1 (fun hm => ?_) h4 s ha
    obtain ⟨q, hq, rfl⟩ := List.mem_map.mp hm
    cases e : f q.1 with
    | true => exact h2'.2 (List.mem_filter.mpr ⟨hm, e⟩)
    | false => exact h3 (List.mem_map.mpr ⟨q, List.mem_filter.mpr ⟨hq, by rw [e]; rfl⟩, rfl⟩)
end

/-! ### what is left at the end -/
structure Good (S : Scn) (sv : List (Nat × (Nat × Int))) : Prop where
  keys : (sv.map (·.1)).Nodup
  svd : ∀ c k t, sv.lookup c = some (k, t) → c < S.m ∧ hasB S.rule k = true ∧ t = S.b c + off S.rule k ∧ ¬ Fails S (svOf sv) c t
  bef : ∀ c k t, sv.lookup c = some (k, t) → ∀ j, j < k → Fails S (svOf sv) c (S.b c + off S.rule j)
  un : ∀ c, c < S.m → sv.lookup c = none → ∀ j, hasB S.rule j = true → Fails S (svOf sv) c (S.b c + off S.rule j)

theorem good_of {S : Scn} {st : Stt} {T : Int} (ok : S.rule.Ok) (I : Inv S st T) (h : st.wt = []) : Good S st.sv where
  keys := I.svn
  svd := fun c k t e => by
    obtain ⟨h1, h2, h3, _, _, h6⟩ := I.svd c k t e
    exact ⟨h1, h2, h3, h6⟩
  bef := fun c k t e j hj => by
    obtain ⟨h1, h2, h3, h4, _, _⟩ := I.svd c k t e
    have g := off_lt ok hj
    refine I.fails c h1 _ (by omega) ⟨j, hasB_le (Nat.le_of_lt hj) h2, rfl⟩ fun u hu => ?_
    have := svOf_eq e hu
    omega
  un := fun c hc e j hj => by
    have ha : At S c (S.b c + off S.rule j) := ⟨j, hj, rfl⟩
    by_cases h1 : c ∈ st.cl
    · by_cases q : S.b c + off S.rule j < T
      · refine I.fails c hc _ q ha fun u hu => (svOf_none e hu).elim
      · exact closed_fails I h1 (by omega) ha
    · have := I.rest c hc h1 (by rw [h]; simp) e _ ha
      refine I.fails c hc _ this ha fun u hu => (svOf_none e hu).elim

/-- two services lie apart -/
theorem Good.apart {S : Scn} {sv : List (Nat × (Nat × Int))} (G : Good S sv) {c d k j : Nat} {t u : Int} (hc : sv.lookup c = some (k, t)) (hd : sv.lookup d = some (j, u)) (hne : c ≠ d) (hl : t ≤ u) : t + S.len ≤ u := by
  obtain ⟨h1, h2, h3, h4⟩ := G.svd c k t hc
  obtain ⟨g1, g2, g3, g4⟩ := G.svd d j u hd
  apply Decidable.byContradiction
  intro q
  rcases Int.lt_or_eq_of_le hl with l | l
  · exact g4 (.inr (.inl ⟨c, h1, hne, t, by unfold svOf; rw [hc]; rfl, l, by omega⟩))
  · refine g4 (.inr (.inr ⟨c, h1, hne, fun v hv => ?_, ⟨k, h2, by omega⟩⟩))
    have := svOf_eq hc hv
    omega
end RS
end

section
set_option autoImplicit false
namespace RS

/-! ### least and greatest -/
def minL : List Int → Int
  | [] => 0
  | x :: r => r.foldl min x
def maxL : List Int → Int
  | [] => 0
  | x :: r => r.foldl max x
theorem foldl_min : ∀ (l : List Int) (a : Int), (l.foldl min a = a ∨ l.foldl min a ∈ l) ∧ l.foldl min a ≤ a ∧ ∀ x ∈ l, l.foldl min a ≤ x
  | [], a => ⟨.inl rfl, Int.le_refl _, fun x hx => by cases hx⟩
  | y :: r, a => by
    obtain ⟨h1, h2, h3⟩ := foldl_min r (min a y)
    show (r.foldl min (min a y) = a ∨ r.foldl min (min a y) ∈ y :: r) ∧ r.foldl min (min a y) ≤ a ∧ ∀ x ∈ y :: r, r.foldl min (min a y) ≤ x
    generalize r.foldl min (min a y) = m at *
    refine ⟨?_, by omega, fun x hx => ?_⟩
    · rcases h1 with h1 | h1
      · by_cases q : a ≤ y
        · left; omega
        · right; exact List.mem_cons.mpr (.inl (by omega))
      · right; exact List.mem_cons_of_mem _ h1
    · rcases List.mem_cons.mp hx with e | e
      · rw [e]; omega
      · exact h3 x e
theorem foldl_max : ∀ (l : List Int) (a : Int), (l.foldl max a = a ∨ l.foldl max a ∈ l) ∧ a ≤ l.foldl max a ∧ ∀ x ∈ l, x ≤ l.foldl max a
  | [], a => ⟨.inl rfl, Int.le_refl _, fun x hx => by cases hx⟩
  | y :: r, a => by
    obtain ⟨h1, h2, h3⟩ := foldl_max r (max a y)
    show (r.foldl max (max a y) = a ∨ r.foldl max (max a y) ∈ y :: r) ∧ a ≤ r.foldl max (max a y) ∧ ∀ x ∈ y :: r, x ≤ r.foldl max (max a y)
    generalize r.foldl max (max a y) = m at *
    refine ⟨?_, by omega, fun x hx => ?_⟩
    · rcases h1 with h1 | h1
      · by_cases q : y ≤ a
        · left; omega
        · right; exact List.mem_cons.mpr (.inl (by omega))
      · right; exact List.mem_cons_of_mem _ h1
    · rcases List.mem_cons.mp hx with e | e
      · rw [e]; omega
      · exact h3 x e
theorem minL_spec {l : List Int} (h : l ≠ []) : minL l ∈ l ∧ ∀ x ∈ l, minL l ≤ x := by
  cases l with
  | nil => exact absurd rfl h
  | cons a r =>
    obtain ⟨h1, h2, h3⟩ := foldl_min r a
    refine ⟨?_, fun x hx => ?_⟩
    · rcases h1 with h1 | h1
      · exact List.mem_cons.mpr (.inl h1)
      · exact List.mem_cons_of_mem _ h1
    · rcases List.mem_cons.mp hx with e | e
      · rw [e]; exact h2
      · exact h3 x e
theorem maxL_spec {l : List Int} (h : l ≠ []) : maxL l ∈ l ∧ ∀ x ∈ l, x ≤ maxL l := by
  cases l with
  | nil => exact absurd rfl h
  | cons a r =>
    obtain ⟨h1, h2, h3⟩ := foldl_max r a
    refine ⟨?_, fun x hx => ?_⟩
    · rcases h1 with h1 | h1
      · exact List.mem_cons.mpr (.inl h1)
      · exact List.mem_cons_of_mem _ h1
    · rcases List.mem_cons.mp hx with e | e
      · rw [e]; exact h2
      · exact h3 x e
theorem minL_eq {l : List Int} {m : Int} (h : m ∈ l) (h2 : ∀ x ∈ l, m ≤ x) : minL l = m := by
  obtain ⟨g1, g2⟩ := minL_spec (List.ne_nil_of_mem h)
  have := h2 _ g1
  have := g2 _ h
  omega
theorem maxL_eq {l : List Int} {m : Int} (h : m ∈ l) (h2 : ∀ x ∈ l, x ≤ m) : maxL l = m := by
  obtain ⟨g1, g2⟩ := maxL_spec (List.ne_nil_of_mem h)
  have := h2 _ g1
  have := g2 _ h
  omega

/-! ### the mirror -/
/-- the slots of the attempts up to the first that repeats -/
def listed (S : Scn) (c i : Nat) : List Int := (List.range (S.rule.n - c + 1)).map fun k => S.b i + off S.rule k
def rawM (S : Scn) : List Int := S.starts ++ (S.outs.flatMap fun o => [o.1, o.2]) ++ match S.rule.tail with
  | .rep c => (List.range S.m).flatMap fun i => listed S c i
  | _ => []
structure MOk (S : Scn) (M : List Int) : Prop where
  mem : ∀ x, x ∈ M ↔ x ∈ rawM S
  hd : ∀ x ∈ M, M.headD 0 ≤ x

def latest (M : List Int) (fr s : Int) : Int := maxL ((M ++ [fr]).filter fun x => decide (x ≤ s))
def failUntil (S : Scn) (fr s : Int) : Int := if s < fr then fr else match S.outs.find? fun o => decide (o.1 ≤ s) && decide (s < o.2) with
  | none => s
  | some o => o.2
def period (R : Rul) : Option Int := match R.tail with
  | .rep c => some (per R c)
  | _ => none
def repeated (S : Scn) (M : List Int) (fr s : Int) : Bool := match period S.rule with
  | none => false
  | some P => decide (P < s - latest M fr s)
/-- the slot of the first attempt that repeats -/
def lastListed (S : Scn) (i : Nat) : Int := match S.rule.tail with
  | .rep c => S.b i + off S.rule (S.rule.n - c)
  | _ => 0
def skipTo (S : Scn) (st : Stt) (e : Int) : Stt := { st with wt := st.wt.filterMap fun p => (ffr S.rule (e - S.b p.1)).map fun k => (p.1, k) }
def freshB (S : Scn) (bg : Int) (c : Nat) : Bool := decide (lastListed S c ≤ bg)
def closeAt (S : Scn) (M : List Int) (st : Stt) (s : Int) : Stt :=
  { st with cl := st.cl ++ (st.wt.map (·.1)).filter (freshB S (latest M st.fr s)), wt := st.wt.filter fun q => !freshB S (latest M st.fr s) q.1 }
def here (S : Scn) (st : Stt) (s : Int) : List (Nat × Nat) := st.wt.filter fun p => decide (slotOf S p = s)
def others (S : Scn) (st : Stt) (s : Int) : List Nat := st.cl.filter fun c => (atr S.rule (s - S.b c)).isSome
def decideAt (S : Scn) (st : Stt) (s : Int) : Stt :=
  match here S st s, others S st s with
  | [p], [] => { st with sv := st.sv ++ [(p.1, (p.2, s))], wt := st.wt.filter (fun q => q.1 ≠ p.1), fr := s + S.len }
  | _, _ => { st with wt := st.wt.filterMap fun p => if slotOf S p = s then (if hasB S.rule (p.2 + 1) = true then some (p.1, p.2 + 1) else none) else some p }
def nextSlot (S : Scn) (st : Stt) : Int := minL (st.wt.map (slotOf S))
def adv (S : Scn) (M : List Int) (st : Stt) : Stt :=
  let s := nextSlot S st
  let e := failUntil S st.fr s
  if s < e then skipTo S st e
  else if repeated S M st.fr s = true then closeAt S M st s
  else decideAt S st s

section
variable {S : Scn} {st : Stt} {T : Int} {M : List Int}

theorem At_iff (ok : S.Ok) {c : Nat} {s : Int} : (atr S.rule (s - S.b c)).isSome = true ↔ At S c s := by
  rw [atr_isSome ok.rule]
  unfold At
  constructor
  · rintro ⟨k, h1, h2⟩
    exact ⟨k, h1, by omega⟩
  · rintro ⟨k, h1, h2⟩
    exact ⟨k, h1, by omega⟩

theorem next_spec (h : st.wt ≠ []) : (∃ p ∈ st.wt, slotOf S p = nextSlot S st) ∧ ∀ p ∈ st.wt, nextSlot S st ≤ slotOf S p := by
  have hne : st.wt.map (slotOf S) ≠ [] := by simpa using h
  obtain ⟨g1, g2⟩ := minL_spec hne
  obtain ⟨p, hp, e⟩ := List.mem_map.mp g1
  exact ⟨⟨p, hp, e⟩, fun q hq => g2 _ (List.mem_map.mpr ⟨q, hq, rfl⟩)⟩

theorem nodup_fmap {f : Nat × Nat → Option (Nat × Nat)} (hf : ∀ p q, f p = some q → q.1 = p.1) : ∀ {l : List (Nat × Nat)}, (l.map (·.1)).Nodup → ((l.filterMap f).map (·.1)).Nodup
  | [], _ => by simp
  | p :: r, h => by
    rw [List.map_cons, List.nodup_cons] at h
    have ih := nodup_fmap hf h.2
    cases e : f p with
    | none => rw [List.filterMap_cons, e]; exact ih
    | some q =>
      rw [List.filterMap_cons, e, List.map_cons, List.nodup_cons]
      refine ⟨fun hm => ?_, ih⟩
      obtain ⟨u, hu, e2⟩ := List.mem_map.mp hm
      obtain ⟨v, hv, e3⟩ := List.mem_filterMap.mp hu
      have h1 := hf p q e
      have h2 := hf v u e3
      exact h.1 (List.mem_map.mpr ⟨v, hv, by rw [← h2, e2, h1]⟩)

/-- the end of an outage or a busy time -/
theorem failUntil_spec (I : Inv S st T) {s : Int} (hs : T ≤ s) :
    (failUntil S st.fr s = s ∧ st.fr ≤ s ∧ ∀ o ∈ S.outs, ¬ (o.1 ≤ s ∧ s < o.2)) ∨
    (s < failUntil S st.fr s ∧ (∀ c, st.sv.lookup c = none → ∀ u, s ≤ u → u < failUntil S st.fr s → Fails S (svOf st.sv) c u) ∧
      ((∃ o ∈ S.outs, failUntil S st.fr s = o.2) ∨ (s < st.fr ∧ failUntil S st.fr s = st.fr))) := by
  unfold failUntil
  by_cases h : s < st.fr
  · rw [if_pos h]
    refine .inr ⟨h, fun c hc u h1 h2 => ?_, .inr ⟨h, rfl⟩⟩
    rcases I.frT with g | ⟨d, k, t, g1, g2⟩
    · omega
    · obtain ⟨q1, q2, q3, q4, q5, q6⟩ := I.svd d k t g1
      refine .inr (.inl ⟨d, q1, fun e => ?_, t, svOf_of g1, by omega, by omega⟩)
      rw [e, hc] at g1
      cases g1
  · rw [if_neg h]
    cases e : S.outs.find? fun o => decide (o.1 ≤ s) && decide (s < o.2) with
    | none =>
      refine .inl ⟨rfl, by omega, fun o ho hh => ?_⟩
      have := List.find?_eq_none.mp e o ho
      simp [hh.1, hh.2] at this
    | some o =>
      have h1 := List.mem_of_find?_eq_some e
      have h2 := List.find?_some e
      simp at h2
      refine .inr ⟨by show s < o.2; omega, fun c _ u g1 g2 => .inl ⟨o, h1, by omega, g2⟩, .inl ⟨o, h1, rfl⟩⟩

theorem skip_inv (ok : S.Ok) (I : Inv S st T) {s e : Int} (h1 : T ≤ s) (h2 : ∀ p ∈ st.wt, s ≤ slotOf S p) (he : s ≤ e)
    (hf : ∀ c, st.sv.lookup c = none → ∀ u, s ≤ u → u < e → Fails S (svOf st.sv) c u) : Inv S (skipTo S st e) e := by
  have J := raise I ok.rule h1 h2
  refine forward J he ?_ ?_ ?_ ?_
  · refine nodup_fmap (fun p q e => ?_) I.wtn
    obtain ⟨k, _, rfl⟩ := Option.map_eq_some_iff.mp e
    rfl
  · intro q hq
    obtain ⟨p, hp, e1⟩ := List.mem_filterMap.mp hq
    obtain ⟨k, hk, rfl⟩ := Option.map_eq_some_iff.mp e1
    obtain ⟨g1, g2, g3⟩ := (ffr_some ok.rule).mp hk
    exact ⟨p, hp, rfl, g1, by show e ≤ S.b p.1 + off S.rule k; omega, fun j hj => by have := g3 j hj; show S.b p.1 + off S.rule j < e; omega⟩
  · intro p hp hn u hu
    obtain ⟨k, hk, rfl⟩ := hu
    cases q : ffr S.rule (e - S.b p.1) with
    | none =>
      have := (ffr_none ok.rule).mp q k hk
      omega
    | some j => exact (hn (List.mem_map.mpr ⟨(p.1, j), List.mem_filterMap.mpr ⟨p, hp, by rw [q]; rfl⟩, rfl⟩)).elim
  · intro p hp u g1 g2 _
    exact hf p.1 (I.wsv p hp) u g1 g2

theorem mem_listed {c i k : Nat} (h : k ≤ S.rule.n - c) : S.b i + off S.rule k ∈ listed S c i := by
  unfold listed
  exact List.mem_map.mpr ⟨k, List.mem_range.mpr (by omega), rfl⟩
theorem mem_raw_rep (mok : MOk S M) {c i k : Nat} (hr : S.rule.tail = .rep c) (hi : i < S.m) (h : k ≤ S.rule.n - c) : S.b i + off S.rule k ∈ M := by
  rw [mok.mem]
  unfold rawM
  rw [hr]
  exact List.mem_append_right _ (List.mem_flatMap.mpr ⟨i, List.mem_range.mpr hi, mem_listed h⟩)
theorem mem_raw_out (mok : MOk S M) {o : Int × Int} (ho : o ∈ S.outs) : o.1 ∈ M ∧ o.2 ∈ M := by
  rw [mok.mem, mok.mem]
  unfold rawM
  have h : ∀ x, x = o.1 ∨ x = o.2 → x ∈ S.outs.flatMap fun o => [o.1, o.2] := fun x hx => List.mem_flatMap.mpr ⟨o, ho, by simpa using hx⟩
  exact ⟨List.mem_append_left _ (List.mem_append_right _ (h _ (.inl rfl))), List.mem_append_left _ (List.mem_append_right _ (h _ (.inr rfl)))⟩
theorem mem_raw_start (mok : MOk S M) {c : Nat} (hc : c < S.m) : S.b c ∈ M := by
  rw [mok.mem]
  unfold rawM
  refine List.mem_append_left _ (List.mem_append_left _ ?_)
  unfold Scn.b
  have e : S.starts.getD c 0 = S.starts[c] := by simp [hc]
  rw [e]
  exact List.getElem_mem hc

theorem latest_spec {fr s : Int} (h : fr ≤ s) : latest M fr s ≤ s ∧ (latest M fr s ∈ M ∨ latest M fr s = fr) ∧ fr ≤ latest M fr s ∧ ∀ x ∈ M, x ≤ s → x ≤ latest M fr s := by
  have hm : fr ∈ (M ++ [fr]).filter fun x => decide (x ≤ s) := List.mem_filter.mpr ⟨by simp, by simpa using h⟩
  obtain ⟨g1, g2⟩ := maxL_spec (List.ne_nil_of_mem hm)
  have g3 := List.mem_filter.mp g1
  unfold latest
  refine ⟨by simpa using g3.2, ?_, g2 _ hm, fun x hx hs => g2 _ (List.mem_filter.mpr ⟨List.mem_append_left _ hx, by simpa using hs⟩)⟩
  rcases List.mem_append.mp g3.1 with q | q
  · exact .inl q
  · exact .inr (by simpa using q)

/-- clients that fail for a whole period meet for ever -/
theorem close_inv (ok : S.Ok) (mok : MOk S M) (I : Inv S st T) {s : Int} (h1 : T ≤ s) (h2 : ∀ p ∈ st.wt, s ≤ slotOf S p) (hfr : st.fr ≤ s) (hout : ∀ o ∈ S.outs, ¬ (o.1 ≤ s ∧ s < o.2))
    (hrep : repeated S M st.fr s = true) : Inv S (closeAt S M st s) s := by
  have J := raise I ok.rule h1 h2
  unfold repeated period at hrep
  split at hrep
  · cases hrep
  · rename_i P hP
    split at hP
    · rename_i c0 hc
      cases hP
      have hrep := of_decide_eq_true hrep
      obtain ⟨r1, r2⟩ := ok.rule.rep c0 hc
      have pp := per_pos ok.rule hc
      obtain ⟨l1, l2, l3, l4⟩ := latest_spec (M := M) hfr
      generalize hbg : latest M st.fr s = bg at *
      have hasT : ∀ k, hasB S.rule k = true := fun k => by unfold hasB; rw [hc]
      have ll : ∀ i, lastListed S i = S.b i + off S.rule (S.rule.n - c0) := fun i => by unfold lastListed; rw [hc]
      -- the clients that are put aside
      have key : ∀ c ∈ (st.wt.map (·.1)).filter (freshB S bg), ∀ k, bg < S.b c + off S.rule k →
          ∃ d, d ∈ st.cl ++ (st.wt.map (·.1)).filter (freshB S bg) ∧ d ≠ c ∧ ∃ j, S.rule.n - c0 ≤ j ∧ S.b d + off S.rule j = S.b c + off S.rule k := by
        intro c hcf
        obtain ⟨hcw, hcb⟩ := List.mem_filter.mp hcf
        obtain ⟨p, hp, rfl⟩ := List.mem_map.mp hcw
        have hcb := of_decide_eq_true (show decide (lastListed S p.1 ≤ bg) = true from hcb)
        rw [ll] at hcb
        intro k
        induction k using Nat.strongRecOn with
        | ind k ih =>
          intro hk
          by_cases hs : S.b p.1 + off S.rule k ≤ bg + per S.rule c0
          · -- in the window: it has failed, so it met another one
            have hf := J.fails p.1 (I.wlt p hp).1 (S.b p.1 + off S.rule k) (by omega) ⟨k, hasT k, rfl⟩ fun t ht => (svOf_none (I.wsv p hp) ht).elim
            rcases hf with ⟨o, ho, g1, g2⟩ | ⟨d, hd, hne, t, ht, g1, g2⟩ | ⟨d, hd, hne, hv, j, _, hj⟩
            · obtain ⟨m1, m2⟩ := mem_raw_out mok ho
              by_cases q : o.2 ≤ s
              · have := l4 _ m2 q
                omega
              · exact (hout o ho ⟨by omega, by omega⟩).elim
            · cases e : st.sv.lookup d with
              | none => exact (svOf_none e ht).elim
              | some x =>
                obtain ⟨k', u⟩ := x
                have eu := svOf_eq e ht
                have := (I.svd d k' u e).2.2.2.2.1
                omega
            · have hjn : S.rule.n - c0 ≤ j := by
                apply Decidable.byContradiction
                intro q
                have := l4 _ (mem_raw_rep mok hc hd (show j ≤ S.rule.n - c0 by omega)) (by omega)
                omega
              have hsv : st.sv.lookup d = none := by
                cases e : st.sv.lookup d with
                | none => rfl
                | some x =>
                  obtain ⟨k', u⟩ := x
                  have g1 := (I.svd d k' u e).2.2.2.2.1
                  have g2 := hv u (svOf_of e)
                  have := ok.len.1
                  omega
              refine ⟨d, ?_, hne, j, hjn, hj⟩
              rw [List.mem_append]
              by_cases e1 : d ∈ st.cl
              · exact .inl e1
              · right
                by_cases e2 : d ∈ st.wt.map (·.1)
                · refine List.mem_filter.mpr ⟨e2, decide_eq_true ?_⟩
                  show lastListed S d ≤ bg
                  rw [ll]
                  have g := off_le ok.rule hjn
                  exact l4 _ (mem_raw_rep mok hc hd (Nat.le_refl _)) (by omega)
                · -- a client that repeats has no last attempt
                  exfalso
                  have g := off_ge ok.rule (s - S.b d).toNat
                  have := J.rest d hd e1 e2 hsv _ ⟨(s - S.b d).toNat, hasT _, rfl⟩
                  omega
          · -- one period earlier
            have g1 : off S.rule S.rule.n < off S.rule k := by
              have : per S.rule c0 = off S.rule S.rule.n - off S.rule (S.rule.n - c0) := rfl
              omega
            have g2 := lt_of_off ok.rule g1
            have g3 := off_rep' hc r1 r2 (show S.rule.n - c0 ≤ k - c0 by omega)
            rw [show k - c0 + c0 = k by omega] at g3
            obtain ⟨d, hd, hne, j, hj, e⟩ := ih (k - c0) (by omega) (by omega)
            exact ⟨d, hd, hne, j + c0, by omega, by rw [off_rep' hc r1 r2 hj]; omega⟩
      have res := closing J (f := freshB S bg) fun c hcf u hu ha => by
        obtain ⟨k, _, e⟩ := ha
        obtain ⟨d, hd, hne, j, _, hj⟩ := key c hcf k (by omega)
        exact ⟨d, hd, hne, j, hasT j, by omega⟩
      have e : closeAt S M st s = { st with cl := st.cl ++ (st.wt.map (·.1)).filter (freshB S bg), wt := st.wt.filter fun q => !freshB S bg q.1 } := by
        unfold closeAt
        rw [hbg]
      rw [e]
      exact res
    · cases hP

theorem filter_lt {α : Type} {f : α → Bool} {l : List α} {p : α} (hp : p ∈ l) (h : f p = false) : (l.filter f).length < l.length := by
  have h1 : (l.filter f).length ≤ l.length := List.length_filter_le _ _
  rcases Nat.lt_or_eq_of_le h1 with q | q
  · exact q
  · rw [List.length_filter_eq_length_iff] at q
    have := q p hp
    rw [h] at this
    cases this

/-- someone is put aside -/
theorem close_less (ok : S.Ok) (mok : MOk S M) {s : Int} (I : Inv S st T) {p : Nat × Nat} (hp : p ∈ st.wt) (hs : slotOf S p = s) (hfr : st.fr ≤ s) (hrep : repeated S M st.fr s = true) : (closeAt S M st s).wt.length < st.wt.length := by
  unfold repeated period at hrep
  split at hrep
  · cases hrep
  · rename_i P hP
    split at hP
    · rename_i c0 hc
      cases hP
      have hrep := of_decide_eq_true hrep
      have pp := per_pos ok.rule hc
      obtain ⟨l1, l2, l3, l4⟩ := latest_spec (M := M) hfr
      refine filter_lt hp ?_
      have : freshB S (latest M st.fr s) p.1 = true := by
        refine decide_eq_true ?_
        unfold lastListed
        rw [hc]
        show S.b p.1 + off S.rule (S.rule.n - c0) ≤ latest M st.fr s
        refine l4 _ (mem_raw_rep mok hc (I.wlt p hp).1 (Nat.le_refl _)) ?_
        apply Decidable.byContradiction
        intro q
        have g : p.2 ≤ S.rule.n - c0 := by
          apply Decidable.byContradiction
          intro g
          have := off_le ok.rule (show S.rule.n - c0 ≤ p.2 by omega)
          have : S.b p.1 + off S.rule p.2 = s := hs
          omega
        have := l4 _ (mem_raw_rep mok hc (I.wlt p hp).1 g) (by have : S.b p.1 + off S.rule p.2 = s := hs; omega)
        have : S.b p.1 + off S.rule p.2 = s := hs
        omega
      rw [this]
      rfl
    · cases hP

/-- another one makes an attempt in the slot -/
def Meets (S : Scn) (st : Stt) (s : Int) (c : Nat) : Prop := (∃ q ∈ st.wt, q.1 ≠ c ∧ slotOf S q = s) ∨ ∃ d ∈ st.cl, d ≠ c ∧ At S d s
theorem meets_fails (I : Inv S st T) {s : Int} {c : Nat} (h : Meets S st s c) : Fails S (svOf st.sv) c s := by
  rcases h with ⟨q, hq, h1, h2⟩ | ⟨d, hd, h1, h2⟩
  · exact .inr (.inr ⟨q.1, (I.wlt q hq).1, h1, fun t ht => (svOf_none (I.wsv q hq) ht).elim, ⟨q.2, (I.wlt q hq).2.1, h2⟩⟩)
  · exact .inr (.inr ⟨d, (I.clt d hd).1, h1, fun t ht => (svOf_none (I.clt d hd).2 ht).elim, h2⟩)

theorem here_mem {s : Int} {q : Nat × Nat} : q ∈ here S st s ↔ q ∈ st.wt ∧ slotOf S q = s := by
  unfold here
  rw [List.mem_filter, decide_eq_true_eq]
theorem others_mem (ok : S.Ok) {s : Int} {d : Nat} : d ∈ others S st s ↔ d ∈ st.cl ∧ At S d s := by
  unfold others
  rw [List.mem_filter, At_iff ok]

/-- the two ways of a decision -/
theorem decide_ways (ok : S.Ok) (I : Inv S st T) {s : Int} {p : Nat × Nat} (hp : p ∈ st.wt) (hs : slotOf S p = s) :
    (∃ p ∈ st.wt, slotOf S p = s ∧ (∀ q ∈ st.wt, slotOf S q = s → q = p) ∧ (∀ d ∈ st.cl, ¬ At S d s) ∧ here S st s = [p] ∧ others S st s = [] ∧
      decideAt S st s = { st with sv := st.sv ++ [(p.1, (p.2, s))], wt := st.wt.filter (fun q => q.1 ≠ p.1), fr := s + S.len }) ∨
    ((here S st s).length + (others S st s).length ≠ 1 ∧ (∀ p ∈ st.wt, slotOf S p = s → Meets S st s p.1) ∧
      decideAt S st s = { st with wt := st.wt.filterMap fun p => if slotOf S p = s then (if hasB S.rule (p.2 + 1) = true then some (p.1, p.2 + 1) else none) else some p }) := by
  have hph : p ∈ here S st s := here_mem.mpr ⟨hp, hs⟩
  unfold decideAt
  match eh : here S st s, eo : others S st s with
  | [], _ => rw [eh] at hph; cases hph
  | [q], [] =>
    left
    have hq := here_mem.mp (show q ∈ here S st s by rw [eh]; simp)
    refine ⟨q, hq.1, hq.2, fun r h1 h2 => ?_, fun d h1 h2 => ?_, rfl, rfl, rfl⟩
    · have : r ∈ here S st s := here_mem.mpr ⟨h1, h2⟩
      rw [eh] at this
      simpa using this
    · have : d ∈ others S st s := (others_mem ok).mpr ⟨h1, h2⟩
      rw [eo] at this
      cases this
  | [q], d :: r =>
    right
    have hd := (others_mem ok).mp (show d ∈ others S st s by rw [eo]; simp)
    refine ⟨by simp, fun u h1 h2 => .inr ⟨d, hd.1, fun e => I.wcl u h1 (e ▸ hd.1), hd.2⟩, rfl⟩
  | q :: q' :: r, o =>
    right
    have hq := here_mem.mp (show q ∈ here S st s by rw [eh]; simp)
    have hq' := here_mem.mp (show q' ∈ here S st s by rw [eh]; simp)
    have hn : ((here S st s).map (·.1)).Nodup := I.wtn.sublist (List.filter_sublist.map _)
    rw [eh] at hn
    have ne : q.1 ≠ q'.1 := fun e => by
      rw [List.map_cons, List.map_cons, List.nodup_cons] at hn
      exact hn.1 (by rw [e]; simp)
    refine ⟨by simp; omega, fun u h1 h2 => ?_, rfl⟩
    by_cases e : u.1 = q.1
    · exact .inl ⟨q', hq'.1, fun e2 => ne (by rw [← e, ← e2]), hq'.2⟩
    · exact .inl ⟨q, hq.1, fun e2 => e e2.symm, hq.2⟩

theorem fmap_le {α β : Type} {f : α → Option β} : ∀ l : List α, (l.filterMap f).length ≤ l.length := List.length_filterMap_le f

theorem meet_inv (ok : S.Ok) (I : Inv S st T) {s : Int} (h1 : T ≤ s) (h2 : ∀ p ∈ st.wt, s ≤ slotOf S p) (h3 : ∀ p ∈ st.wt, slotOf S p = s → Meets S st s p.1) :
    Inv S { st with wt := st.wt.filterMap fun p => if slotOf S p = s then (if hasB S.rule (p.2 + 1) = true then some (p.1, p.2 + 1) else none) else some p } (s + 1) := by
  have J := raise I ok.rule h1 h2
  have hf : ∀ p q : Nat × Nat, (if slotOf S p = s then (if hasB S.rule (p.2 + 1) = true then some (p.1, p.2 + 1) else none) else some p) = some q →
      q.1 = p.1 ∧ ((slotOf S p = s ∧ hasB S.rule (p.2 + 1) = true ∧ q.2 = p.2 + 1) ∨ (slotOf S p ≠ s ∧ q = p)) := fun p q e => by
    split at e
    · split at e
      · cases e
        exact ⟨rfl, .inl ⟨by assumption, by assumption, rfl⟩⟩
      · cases e
    · cases e
      exact ⟨rfl, .inr ⟨by assumption, rfl⟩⟩
  refine forward J (by omega) ?_ ?_ ?_ ?_
  · exact nodup_fmap (fun p q e => (hf p q e).1) I.wtn
  · intro q hq
    obtain ⟨p, hp, e⟩ := List.mem_filterMap.mp hq
    obtain ⟨e1, e2⟩ := hf p q e
    refine ⟨p, hp, e1, ?_⟩
    obtain ⟨g1, g2, g3, g4⟩ := J.wlt p hp
    rcases e2 with ⟨q1, q2, q3⟩ | ⟨q1, rfl⟩
    · have := off_lt ok.rule (show p.2 < p.2 + 1 by omega)
      have q1 : S.b p.1 + off S.rule p.2 = s := q1
      rw [q3, e1]
      refine ⟨q2, ?_, fun j hj => ?_⟩
      · show s + 1 ≤ S.b q.1 + off S.rule q.2
        rw [q3, e1]
        omega
      · have := off_le ok.rule (show j ≤ p.2 by omega)
        omega
    · exact ⟨g2, by omega, fun j hj => by have := g4 j hj; omega⟩
  · intro p hp hn u hu
    obtain ⟨k, hk, e⟩ := hu
    -- it has no further attempt
    by_cases q : slotOf S p = s
    · cases e2 : hasB S.rule (p.2 + 1) with
      | true => exact (hn (List.mem_map.mpr ⟨(p.1, p.2 + 1), List.mem_filterMap.mpr ⟨p, hp, by rw [if_pos q, if_pos e2]⟩, rfl⟩)).elim
      | false =>
        have kl : k ≤ p.2 := by
          apply Decidable.byContradiction
          intro z
          have := hasB_le (show p.2 + 1 ≤ k by omega) hk
          rw [e2] at this
          cases this
        have := off_le ok.rule kl
        have q : S.b p.1 + off S.rule p.2 = s := q
        omega
    · exact (hn (List.mem_map.mpr ⟨p, List.mem_filterMap.mpr ⟨p, hp, by rw [if_neg q]⟩, rfl⟩)).elim
  · intro p hp u g1 g2 ha
    have e : u = s := by omega
    subst e
    have q := from_next J ok.rule hp (Int.le_refl _) ha
    have := h2 p hp
    exact meets_fails I (h3 p hp (by omega))

/-! ### sizes, where the gaps are multiplied -/
def Sz (S : Scn) (st : Stt) : Prop := ∀ b, S.rule.tail = .tim b → (∀ p ∈ st.wt, p.2 ≤ 119 + st.sv.length) ∧ ∀ x ∈ st.sv, x.2.1 ≤ 118 + st.sv.length
/-- a distance that some attempt of moderate size reaches -/
def SzD (R : Rul) (d : Int) : Prop := ∀ b, R.tail = .tim b → ∃ k, k ≤ 2000 ∧ d ≤ off R k
def SzK (R : Rul) (k : Nat) : Prop := ∀ b, R.tail = .tim b → k ≤ 2000
end

theorem off_next {R : Rul} (ok : R.Ok) {b : Int} (h : R.tail = .tim b) (k : Nat) : off R k + 2 ^ 99 ≤ off R (max 119 (k + 1)) := by
  have l := ok.len
  by_cases q : k ≤ 118
  · have g := gapAt_tim ok h (k := 118) (by omega)
    have m : (2 : Int) ^ 99 ≤ 2 ^ (118 + 1 - R.n) := pow_mono (by omega) (by omega)
    have o := off_le ok q
    rw [show max 119 (k + 1) = 118 + 1 by omega, off_succ]
    omega
  · have g := gapAt_tim ok h (k := k) (by omega)
    have m : (2 : Int) ^ 99 ≤ 2 ^ (k + 1 - R.n) := pow_mono (by omega) (by omega)
    rw [show max 119 (k + 1) = k + 1 by omega, off_succ]
    omega

theorem Scn.Ok.b {S : Scn} (ok : S.Ok) (c : Nat) : 0 ≤ S.b c ∧ S.b c ≤ 2 ^ 97 := by
  unfold Scn.b
  by_cases h : c < S.starts.length
  · have e : S.starts.getD c 0 = S.starts[c] := by simp [h]
    rw [e]
    exact ok.sts _ (List.getElem_mem h)
  · have e : S.starts.getD c 0 = 0 := by
      rw [List.getD_eq_getElem?_getD, List.getElem?_eq_none (by omega)]
      rfl
    rw [e]
    omega

theorem nodup_lt : ∀ (m : Nat) {l : List Nat}, l.Nodup → (∀ x ∈ l, x < m) → l.length ≤ m
  | 0, l, _, h => by
    cases l with
    | nil => simp
    | cons a r => exact absurd (h a (by simp)) (by omega)
  | m + 1, l, hn, h => by
    have h1 := nodup_lt m (l := l.filter fun x => decide (x < m)) (hn.sublist List.filter_sublist) (fun x hx => by have := (List.mem_filter.mp hx).2; simpa using this)
    have h2 : l.length ≤ (l.filter fun x => decide (x < m)).length + 1 := by
      clear h1
      induction l with
      | nil => simp
      | cons a r ih =>
        rw [List.nodup_cons] at hn
        by_cases e : a < m
        · have := ih hn.2 (fun x hx => h x (List.mem_cons_of_mem _ hx))
          rw [List.filter_cons, if_pos (by simpa using e)]
          simp only [List.length_cons]
          omega
        · have ea : a = m := by have := h a (by simp); omega
          rw [List.filter_cons, if_neg (by simpa using e)]
          have : r.filter (fun x => decide (x < m)) = r := by
            rw [List.filter_eq_self]
            intro x hx
            have g1 := h x (List.mem_cons_of_mem _ hx)
            have g2 : x ≠ a := fun z => hn.1 (z ▸ hx)
            simp
            omega
          rw [this]
          simp
    omega

section
variable {S : Scn} {st : Stt} {T : Int} {M : List Int}
theorem sv_len (I : Inv S st T) : st.sv.length ≤ S.m := by
  have := nodup_lt S.m I.svn fun x hx => by
    obtain ⟨y, hy, rfl⟩ := List.mem_map.mp hx
    cases e : st.sv.lookup y.1 with
    | none =>
      rw [List.lookup_eq_none_iff] at e
      have := e y hy
      simp at this
    | some v => exact (I.svd y.1 v.1 v.2 e).1
  simpa using this

/-- the end of a busy time is soon reached -/
theorem until_reach (ok : S.Ok) (I : Inv S st T) (Z : Sz S st) {s : Int} (hs : T ≤ s) (c : Nat) (h : s < failUntil S st.fr s) {b : Int} (ht : S.rule.tail = .tim b) : failUntil S st.fr s - S.b c ≤ off S.rule (119 + st.sv.length) := by
  rcases failUntil_spec I hs with ⟨e, _⟩ | ⟨_, _, ⟨o, ho, e⟩ | ⟨h1, e⟩⟩
  · omega
  · have h1 := (ok.outs o ho).2
    have h2 := (ok.b c).1
    have h3 := off_far ok.rule ht 0
    have h4 := off_le ok.rule (show 0 + 119 ≤ 119 + st.sv.length by omega)
    rw [show off S.rule 0 = 0 from rfl] at h3
    omega
  · rcases I.frT with g | ⟨d, k, t, g1, g2⟩
    · omega
    · obtain ⟨_, _, q3, _⟩ := I.svd d k t g1
      have hx : (d, (k, t)) ∈ st.sv := by
        have : ∀ {l : List (Nat × (Nat × Int))}, l.lookup d = some (k, t) → (d, (k, t)) ∈ l := by
          intro l
          induction l with
          | nil => intro z; cases z
          | cons a r ih =>
            intro z
            obtain ⟨a1, a2⟩ := a
            rw [List.lookup_cons] at z
            split at z
            · rename_i q
              cases z
              rw [beq_iff_eq.mp q]
              simp
            · exact List.mem_cons_of_mem _ (ih z)
        exact this g1
      have hk := (Z b ht).2 _ hx
      have h3 := off_next ok.rule ht k
      have h4 := off_le ok.rule (show max 119 (k + 1) ≤ 119 + st.sv.length by have : k ≤ 118 + st.sv.length := hk; omega)
      have h5 := (ok.b c).1
      have h6 := (ok.b d).2
      have h7 := ok.len.2
      omega

theorem skip_sz (ok : S.Ok) (I : Inv S st T) (Z : Sz S st) {s : Int} (hs : T ≤ s) (h : s < failUntil S st.fr s) : Sz S (skipTo S st (failUntil S st.fr s)) := by
  intro b hb
  refine ⟨fun q hq => ?_, (Z b hb).2⟩
  obtain ⟨p, hp, e1⟩ := List.mem_filterMap.mp hq
  obtain ⟨k, hk, rfl⟩ := Option.map_eq_some_iff.mp e1
  obtain ⟨g1, g2, g3⟩ := (ffr_some ok.rule).mp hk
  show k ≤ 119 + st.sv.length
  apply Decidable.byContradiction
  intro z
  have := g3 (119 + st.sv.length) (by omega)
  have := until_reach ok I Z hs p.1 h hb
  omega

/-- two clients with one slot: no late attempt -/
theorem early (ok : S.Ok) {b : Int} (hb : S.rule.tail = .tim b) {c d k j : Nat} (h : S.b c + off S.rule k = S.b d + off S.rule j) (hne : S.b c ≠ S.b d) : k < 119 := by
  apply Decidable.byContradiction
  intro z
  have hj : j ≠ k := fun e => by rw [e] at h; omega
  have h1 := ok.b c
  have h2 := ok.b d
  rcases gap_far ok.rule hb (show 119 ≤ k by omega) hj with g | g
  · omega
  · omega

theorem meet_sz (ok : S.Ok) (I : Inv S st T) (Z : Sz S st) {s : Int} (h3 : ∀ p ∈ st.wt, slotOf S p = s → Meets S st s p.1) :
    Sz S { st with wt := st.wt.filterMap fun p => if slotOf S p = s then (if hasB S.rule (p.2 + 1) = true then some (p.1, p.2 + 1) else none) else some p } := by
  intro b hb
  refine ⟨fun q hq => ?_, (Z b hb).2⟩
  show q.2 ≤ 119 + st.sv.length
  obtain ⟨p, hp, e⟩ := List.mem_filterMap.mp hq
  split at e
  · rename_i hs
    split at e
    · cases e
      show p.2 + 1 ≤ 119 + st.sv.length
      have hs : S.b p.1 + off S.rule p.2 = s := hs
      rcases h3 p hp hs with ⟨u, hu, g1, g2⟩ | ⟨d, hd, g1, j, g2, g3⟩
      · have g2 : S.b u.1 + off S.rule u.2 = s := g2
        have := early ok hb (c := p.1) (d := u.1) (k := p.2) (j := u.2) (by omega) (fun z => I.wuq p hp u.1 (I.wlt u hu).1 g1 z.symm)
        omega
      · have := early ok hb (c := p.1) (d := d) (k := p.2) (j := j) (by omega) (fun z => I.wuq p hp d (I.clt d hd).1 g1 z.symm)
        omega
    · cases e
  · have e := Option.some.inj e
    rw [← e]
    exact (Z b hb).1 p hp

theorem serve_sz (Z : Sz S st) {p : Nat × Nat} (hp : p ∈ st.wt) {s f : Int} : Sz S { st with sv := st.sv ++ [(p.1, (p.2, s))], wt := st.wt.filter (fun q => q.1 ≠ p.1), fr := f } := by
  intro b hb
  obtain ⟨z1, z2⟩ := Z b hb
  have e : (st.sv ++ [(p.1, (p.2, s))]).length = st.sv.length + 1 := by simp
  show (∀ q ∈ st.wt.filter (fun q => q.1 ≠ p.1), q.2 ≤ 119 + (st.sv ++ [(p.1, (p.2, s))]).length) ∧ ∀ x ∈ st.sv ++ [(p.1, (p.2, s))], x.2.1 ≤ 118 + (st.sv ++ [(p.1, (p.2, s))]).length
  rw [e]
  refine ⟨fun q hq => ?_, fun x hx => ?_⟩
  · have := z1 q (List.mem_filter.mp hq).1
    omega
  · rcases List.mem_append.mp hx with h | h
    · have := z2 x h
      omega
    · have := z1 p hp
      have e : x = (p.1, (p.2, s)) := by simpa using h
      rw [e]
      show p.2 ≤ _
      omega

/-! ### one step -/
/-- beyond this slot no step leaves all as it is -/
def Bd (S : Scn) (M : List Int) (fr : Int) : Int := maxL (fr :: M) + off S.rule (S.rule.n + 119)
theorem bd_mem {fr x : Int} (h : x = fr ∨ x ∈ M) : x ≤ maxL (fr :: M) := by
  obtain ⟨_, g⟩ := maxL_spec (l := fr :: M) (by simp)
  exact g x (List.mem_cons.mpr h)

theorem adv_ok (ok : S.Ok) (mok : MOk S M) (I : Inv S st T) (Z : Sz S st) (hne : st.wt ≠ []) :
    ∃ T', Inv S (adv S M st) T' ∧ Sz S (adv S M st) ∧ ((adv S M st).wt.length < st.wt.length ∨ ((adv S M st).wt.length ≤ st.wt.length ∧ (adv S M st).fr = st.fr ∧ T < T' ∧ T ≤ Bd S M st.fr)) := by
  obtain ⟨⟨p, hp, hps⟩, hmin⟩ := next_spec (S := S) hne
  have hT : T ≤ nextSlot S st := by rw [← hps]; exact (I.wlt p hp).2.2.1
  unfold adv
  generalize nextSlot S st = s at *
  have nn := off_nonneg ok.rule (S.rule.n + 119)
  dsimp only
  rcases failUntil_spec I hT with ⟨e, hfr, hout⟩ | ⟨he, hf, hw⟩
  · rw [e, if_neg (by omega)]
    by_cases hr : repeated S M st.fr s = true
    · rw [if_pos hr]
      refine ⟨s, close_inv ok mok I hT hmin hfr hout hr, fun b hb => ?_, .inl (close_less ok mok I hp hps hfr hr)⟩
      have : repeated S M st.fr s = false := by unfold repeated period; rw [hb]
      rw [this] at hr
      cases hr
    · rw [if_neg hr]
      rcases decide_ways ok I hp hps with ⟨q, hq, h1, h2, h3, _, _, h6⟩ | ⟨_, h2, h3⟩
      · rw [h6]
        have J := raise I ok.rule hT hmin
        refine ⟨s + 1, serve J ok hq h1 h2 h3 hout hfr, serve_sz Z hq, .inl ?_⟩
        exact filter_lt hq (by simp)
      · rw [h3]
        refine ⟨s + 1, meet_inv ok I hT hmin h2, meet_sz ok I Z h2, .inr ⟨fmap_le _, rfl, by omega, ?_⟩⟩
        -- the slot lies below the bound
        refine Int.le_trans hT ?_
        unfold Bd
        have hps : S.b p.1 + off S.rule p.2 = s := hps
        have b0 := bd_mem (fr := st.fr) (.inr (mem_raw_start mok (I.wlt p hp).1))
        cases ht : S.rule.tail with
        | fin =>
          have := (I.wlt p hp).2.1
          unfold hasB at this
          rw [ht] at this
          have := of_decide_eq_true this
          have := off_le ok.rule (show p.2 ≤ S.rule.n + 119 by omega)
          omega
        | tim b =>
          have hk : p.2 < 119 := by
            rcases h2 p hp hps with ⟨u, hu, g1, g2⟩ | ⟨d, hd, g1, j, g2, g3⟩
            · have g2 : S.b u.1 + off S.rule u.2 = s := g2
              exact early ok ht (c := p.1) (d := u.1) (k := p.2) (j := u.2) (by omega) (fun z => I.wuq p hp u.1 (I.wlt u hu).1 g1 z.symm)
            · exact early ok ht (c := p.1) (d := d) (k := p.2) (j := j) (by omega) (fun z => I.wuq p hp d (I.clt d hd).1 g1 z.symm)
          have := off_le ok.rule (show p.2 ≤ S.rule.n + 119 by omega)
          omega
        | rep c =>
          obtain ⟨l1, l2, l3, l4⟩ := latest_spec (M := M) hfr
          have hb := bd_mem (fr := st.fr) l2.symm
          have : ¬ per S.rule c < s - latest M st.fr s := fun z => by
            apply hr
            unfold repeated period
            rw [ht]
            exact decide_eq_true z
          have o1 := off_nonneg ok.rule (S.rule.n - c)
          have o2 := off_le ok.rule (show S.rule.n ≤ S.rule.n + 119 by omega)
          have : per S.rule c = off S.rule S.rule.n - off S.rule (S.rule.n - c) := rfl
          omega
  · rw [if_pos he]
    refine ⟨_, skip_inv ok I hT hmin (by omega) hf, skip_sz ok I Z hT he, .inr ⟨fmap_le _, rfl, by omega, ?_⟩⟩
    unfold Bd
    rcases hw with ⟨o, ho, e⟩ | ⟨_, e⟩
    · have := bd_mem (fr := st.fr) (.inr (mem_raw_out mok ho).2)
      omega
    · have := bd_mem (fr := st.fr) (M := M) (.inl rfl)
      omega

/-! ### the end is reached -/
def Ends (S : Scn) (M : List Int) : Nat → Stt → Prop
  | 0, st => st.wt = []
  | n + 1, st => st.wt ≠ [] ∧ Ends S M n (adv S M st)
theorem ends (ok : S.Ok) (mok : MOk S M) : ∀ (n : Nat) (m : Nat) {st : Stt} {T : Int}, Inv S st T → Sz S st → st.wt.length ≤ n → (Bd S M st.fr + 1 - T).toNat ≤ m → ∃ k, Ends S M k st := by
  intro n
  induction n with
  | zero =>
    intro m st T _ _ h _
    exact ⟨0, List.length_eq_zero_iff.mp (by omega)⟩
  | succ n ihn =>
    intro m
    induction m with
    | zero =>
      intro st T I Z hn hm
      by_cases hne : st.wt = []
      · exact ⟨0, hne⟩
      · obtain ⟨T', I', Z', h⟩ := adv_ok ok mok I Z hne
        rcases h with h | ⟨h1, h2, h3, h4⟩
        · obtain ⟨k, hk⟩ := ihn _ I' Z' (by omega) (Nat.le_refl _)
          exact ⟨k + 1, hne, hk⟩
        · omega
    | succ m ihm =>
      intro st T I Z hn hm
      by_cases hne : st.wt = []
      · exact ⟨0, hne⟩
      · obtain ⟨T', I', Z', h⟩ := adv_ok ok mok I Z hne
        rcases h with h | ⟨h1, h2, h3, h4⟩
        · obtain ⟨k, hk⟩ := ihn _ I' Z' (by omega) (Nat.le_refl _)
          exact ⟨k + 1, hne, hk⟩
        · obtain ⟨k, hk⟩ := ihm I' Z' (by omega) (by rw [h2]; omega)
          exact ⟨k + 1, hne, hk⟩
theorem ends_any (ok : S.Ok) (mok : MOk S M) (I : Inv S st T) (Z : Sz S st) : ∃ k, Ends S M k st := ends ok mok _ _ I Z (Nat.le_refl _) (Nat.le_refl _)
end
end RS
end

section
set_option Elab.async false
set_option linter.all false
set_option maxRecDepth 100000
set_option maxHeartbeats 4000000
namespace RW
open PySem L2
def top (i : Nat) : Stmt := PySem.Challenge.pw_retryslots_k28_whole_outcomes_of_far_sce.main.body.getD i (.Pass ⟨0, 0, 0, 0⟩)
abbrev s_is_integer : Stmt := top 10
abbrev s_is_between : Stmt := top 11
abbrev s_power : Stmt := top 12
abbrev s_is_tail : Stmt := top 18
abbrev s_R_init : Stmt := inClass (top 19) 0
abbrev s_R_gaps : Stmt := inClass (top 19) 2
abbrev s_R_tail : Stmt := inClass (top 19) 3
abbrev s_R_attempts : Stmt := inClass (top 19) 4
abbrev s_R_check_attempt : Stmt := inClass (top 19) 5
abbrev s_R_offset : Stmt := inClass (top 19) 7
abbrev s_R_offset_of : Stmt := inClass (top 19) 8
abbrev s_R_period : Stmt := inClass (top 19) 9
abbrev s_R_first_from : Stmt := inClass (top 19) 11
abbrev s_R_attempt_at : Stmt := inClass (top 19) 12
abbrev s_check_starts : Stmt := top 23
abbrev s_is_window : Stmt := top 24
abbrev s_check_outages : Stmt := top 25
abbrev s_S_init : Stmt := inClass (top 26) 0
abbrev s_S_rule : Stmt := inClass (top 26) 3
abbrev s_S_starts : Stmt := inClass (top 26) 4
abbrev s_S_outages : Stmt := inClass (top 26) 5
abbrev s_S_length : Stmt := inClass (top 26) 6
abbrev s_S_check_client : Stmt := inClass (top 26) 7
abbrev s_S_slot_of : Stmt := inClass (top 26) 8
abbrev s_S_outage_at : Stmt := inClass (top 26) 10
abbrev s_S_listed_slots : Stmt := inClass (top 26) 11
abbrev s_S_moments : Stmt := inClass (top 26) 12
abbrev s_U_init : Stmt := inClass (top 28) 0
abbrev s_U_advance : Stmt := inClass (top 28) 1
abbrev s_U_failing_until : Stmt := inClass (top 28) 2
abbrev s_U_skip_to : Stmt := inClass (top 28) 3
abbrev s_U_latest_moment : Stmt := inClass (top 28) 4
abbrev s_U_is_repeated : Stmt := inClass (top 28) 5
abbrev s_U_close : Stmt := inClass (top 28) 6
abbrev s_U_decide : Stmt := inClass (top 28) 7
abbrev s_U_outcome : Stmt := inClass (top 28) 9
abbrev s_U_outcomes : Stmt := inClass (top 28) 10
abbrev s_U_order : Stmt := inClass (top 28) 11
abbrev s_law_mixed : Stmt := top 30
abbrev s_law_well : Stmt := top 31
abbrev s_law_draw : Stmt := top 32
abbrev s_law_one : Stmt := top 33
abbrev s_law_made : Stmt := top 34
abbrev s_law_has : Stmt := top 35
abbrev s_law_wide : Stmt := top 36
abbrev s_law_fails : Stmt := top 37
abbrev s_law_client_right : Stmt := top 38
abbrev s_law_right : Stmt := top 39
abbrev s_law : Stmt := top 40
/-! ### the defs -/
def d_is_integer : He.DefD := { at_ := ("is_integer", none), name := "is_integer", qual := "is_integer", params := defArgs s_is_integer, body := defBody s_is_integer, scope := defScope s_is_integer }
def d_is_between : He.DefD := { at_ := ("is_between", none), name := "is_between", qual := "is_between", params := defArgs s_is_between, body := defBody s_is_between, scope := defScope s_is_between }
def d_power : He.DefD := { at_ := ("power", none), name := "power", qual := "power", params := defArgs s_power, body := defBody s_power, scope := defScope s_power }
def d_is_tail : He.DefD := { at_ := ("is_tail", none), name := "is_tail", qual := "is_tail", params := defArgs s_is_tail, body := defBody s_is_tail, scope := defScope s_is_tail }
def d_R_init : He.DefD := { at_ := ("Rule", some "__init__"), name := "__init__", qual := "Rule.__init__", params := defArgs s_R_init, body := defBody s_R_init, scope := defScope s_R_init }
def d_R_gaps : He.DefD := { at_ := ("Rule", some "gaps"), name := "gaps", qual := "Rule.gaps", params := defArgs s_R_gaps, body := defBody s_R_gaps, scope := defScope s_R_gaps }
def d_R_tail : He.DefD := { at_ := ("Rule", some "tail"), name := "tail", qual := "Rule.tail", params := defArgs s_R_tail, body := defBody s_R_tail, scope := defScope s_R_tail }
def d_R_attempts : He.DefD := { at_ := ("Rule", some "attempts"), name := "attempts", qual := "Rule.attempts", params := defArgs s_R_attempts, body := defBody s_R_attempts, scope := defScope s_R_attempts }
def d_R_check_attempt : He.DefD := { at_ := ("Rule", some "check_attempt"), name := "check_attempt", qual := "Rule.check_attempt", params := defArgs s_R_check_attempt, body := defBody s_R_check_attempt, scope := defScope s_R_check_attempt }
def d_R_offset : He.DefD := { at_ := ("Rule", some "offset"), name := "offset", qual := "Rule.offset", params := defArgs s_R_offset, body := defBody s_R_offset, scope := defScope s_R_offset }
def d_R_offset_of : He.DefD := { at_ := ("Rule", some "offset_of"), name := "offset_of", qual := "Rule.offset_of", params := defArgs s_R_offset_of, body := defBody s_R_offset_of, scope := defScope s_R_offset_of }
def d_R_period : He.DefD := { at_ := ("Rule", some "period"), name := "period", qual := "Rule.period", params := defArgs s_R_period, body := defBody s_R_period, scope := defScope s_R_period }
def d_R_first_from : He.DefD := { at_ := ("Rule", some "first_from"), name := "first_from", qual := "Rule.first_from", params := defArgs s_R_first_from, body := defBody s_R_first_from, scope := defScope s_R_first_from }
def d_R_attempt_at : He.DefD := { at_ := ("Rule", some "attempt_at"), name := "attempt_at", qual := "Rule.attempt_at", params := defArgs s_R_attempt_at, body := defBody s_R_attempt_at, scope := defScope s_R_attempt_at }
def d_check_starts : He.DefD := { at_ := ("check_starts", none), name := "check_starts", qual := "check_starts", params := defArgs s_check_starts, body := defBody s_check_starts, scope := defScope s_check_starts }
def d_is_window : He.DefD := { at_ := ("is_window", none), name := "is_window", qual := "is_window", params := defArgs s_is_window, body := defBody s_is_window, scope := defScope s_is_window }
def d_check_outages : He.DefD := { at_ := ("check_outages", none), name := "check_outages", qual := "check_outages", params := defArgs s_check_outages, body := defBody s_check_outages, scope := defScope s_check_outages }
def d_S_init : He.DefD := { at_ := ("Scene", some "__init__"), name := "__init__", qual := "Scene.__init__", params := defArgs s_S_init, body := defBody s_S_init, scope := defScope s_S_init, kwd := [("outages", He.Dv.non), ("length", He.Dv.int 1)] }
def d_S_rule : He.DefD := { at_ := ("Scene", some "rule"), name := "rule", qual := "Scene.rule", params := defArgs s_S_rule, body := defBody s_S_rule, scope := defScope s_S_rule }
def d_S_starts : He.DefD := { at_ := ("Scene", some "starts"), name := "starts", qual := "Scene.starts", params := defArgs s_S_starts, body := defBody s_S_starts, scope := defScope s_S_starts }
def d_S_outages : He.DefD := { at_ := ("Scene", some "outages"), name := "outages", qual := "Scene.outages", params := defArgs s_S_outages, body := defBody s_S_outages, scope := defScope s_S_outages }
def d_S_length : He.DefD := { at_ := ("Scene", some "length"), name := "length", qual := "Scene.length", params := defArgs s_S_length, body := defBody s_S_length, scope := defScope s_S_length }
def d_S_check_client : He.DefD := { at_ := ("Scene", some "check_client"), name := "check_client", qual := "Scene.check_client", params := defArgs s_S_check_client, body := defBody s_S_check_client, scope := defScope s_S_check_client }
def d_S_slot_of : He.DefD := { at_ := ("Scene", some "slot_of"), name := "slot_of", qual := "Scene.slot_of", params := defArgs s_S_slot_of, body := defBody s_S_slot_of, scope := defScope s_S_slot_of }
def d_S_outage_at : He.DefD := { at_ := ("Scene", some "outage_at"), name := "outage_at", qual := "Scene.outage_at", params := defArgs s_S_outage_at, body := defBody s_S_outage_at, scope := defScope s_S_outage_at }
def d_S_listed_slots : He.DefD := { at_ := ("Scene", some "listed_slots"), name := "listed_slots", qual := "Scene.listed_slots", params := defArgs s_S_listed_slots, body := defBody s_S_listed_slots, scope := defScope s_S_listed_slots }
def d_S_moments : He.DefD := { at_ := ("Scene", some "moments"), name := "moments", qual := "Scene.moments", params := defArgs s_S_moments, body := defBody s_S_moments, scope := defScope s_S_moments }
def d_U_init : He.DefD := { at_ := ("Run", some "__init__"), name := "__init__", qual := "Run.__init__", params := defArgs s_U_init, body := defBody s_U_init, scope := defScope s_U_init }
def d_U_advance : He.DefD := { at_ := ("Run", some "advance"), name := "advance", qual := "Run.advance", params := defArgs s_U_advance, body := defBody s_U_advance, scope := defScope s_U_advance }
def d_U_failing_until : He.DefD := { at_ := ("Run", some "failing_until"), name := "failing_until", qual := "Run.failing_until", params := defArgs s_U_failing_until, body := defBody s_U_failing_until, scope := defScope s_U_failing_until }
def d_U_skip_to : He.DefD := { at_ := ("Run", some "skip_to"), name := "skip_to", qual := "Run.skip_to", params := defArgs s_U_skip_to, body := defBody s_U_skip_to, scope := defScope s_U_skip_to }
def d_U_latest_moment : He.DefD := { at_ := ("Run", some "latest_moment"), name := "latest_moment", qual := "Run.latest_moment", params := defArgs s_U_latest_moment, body := defBody s_U_latest_moment, scope := defScope s_U_latest_moment }
def d_U_is_repeated : He.DefD := { at_ := ("Run", some "is_repeated"), name := "is_repeated", qual := "Run.is_repeated", params := defArgs s_U_is_repeated, body := defBody s_U_is_repeated, scope := defScope s_U_is_repeated }
def d_U_close : He.DefD := { at_ := ("Run", some "close"), name := "close", qual := "Run.close", params := defArgs s_U_close, body := defBody s_U_close, scope := defScope s_U_close }
def d_U_decide : He.DefD := { at_ := ("Run", some "decide"), name := "decide", qual := "Run.decide", params := defArgs s_U_decide, body := defBody s_U_decide, scope := defScope s_U_decide }
def d_U_outcome : He.DefD := { at_ := ("Run", some "outcome"), name := "outcome", qual := "Run.outcome", params := defArgs s_U_outcome, body := defBody s_U_outcome, scope := defScope s_U_outcome }
def d_U_outcomes : He.DefD := { at_ := ("Run", some "outcomes"), name := "outcomes", qual := "Run.outcomes", params := defArgs s_U_outcomes, body := defBody s_U_outcomes, scope := defScope s_U_outcomes }
def d_U_order : He.DefD := { at_ := ("Run", some "order"), name := "order", qual := "Run.order", params := defArgs s_U_order, body := defBody s_U_order, scope := defScope s_U_order }
def d_law_mixed : He.DefD := { at_ := ("_law_mixed", none), name := "_law_mixed", qual := "_law_mixed", params := defArgs s_law_mixed, body := defBody s_law_mixed, scope := defScope s_law_mixed }
def d_law_well : He.DefD := { at_ := ("_law_well", none), name := "_law_well", qual := "_law_well", params := defArgs s_law_well, body := defBody s_law_well, scope := defScope s_law_well }
def d_law_draw : He.DefD := { at_ := ("_law_draw", none), name := "_law_draw", qual := "_law_draw", params := defArgs s_law_draw, body := defBody s_law_draw, scope := defScope s_law_draw }
def d_law_one : He.DefD := { at_ := ("_law_one", none), name := "_law_one", qual := "_law_one", params := defArgs s_law_one, body := defBody s_law_one, scope := defScope s_law_one }
def d_law_made : He.DefD := { at_ := ("_law_made", none), name := "_law_made", qual := "_law_made", params := defArgs s_law_made, body := defBody s_law_made, scope := defScope s_law_made }
def d_law_has : He.DefD := { at_ := ("_law_has", none), name := "_law_has", qual := "_law_has", params := defArgs s_law_has, body := defBody s_law_has, scope := defScope s_law_has }
def d_law_wide : He.DefD := { at_ := ("_law_wide", none), name := "_law_wide", qual := "_law_wide", params := defArgs s_law_wide, body := defBody s_law_wide, scope := defScope s_law_wide }
def d_law_fails : He.DefD := { at_ := ("_law_fails", none), name := "_law_fails", qual := "_law_fails", params := defArgs s_law_fails, body := defBody s_law_fails, scope := defScope s_law_fails }
def d_law_client_right : He.DefD := { at_ := ("_law_client_right", none), name := "_law_client_right", qual := "_law_client_right", params := defArgs s_law_client_right, body := defBody s_law_client_right, scope := defScope s_law_client_right }
def d_law_right : He.DefD := { at_ := ("_law_right", none), name := "_law_right", qual := "_law_right", params := defArgs s_law_right, body := defBody s_law_right, scope := defScope s_law_right }
def d_law : He.DefD := { at_ := ("law", none), name := "law", qual := "law", params := defArgs s_law, body := defBody s_law, scope := defScope s_law }
def fn : List He.DefD := [d_is_integer, d_is_between, d_power, d_is_tail, d_R_init, d_R_gaps, d_R_tail, d_R_attempts, d_R_check_attempt, d_R_offset, d_R_offset_of, d_R_period, d_R_first_from, d_R_attempt_at, d_check_starts, d_is_window, d_check_outages, d_S_init, d_S_rule, d_S_starts, d_S_outages, d_S_length, d_S_check_client, d_S_slot_of, d_S_outage_at, d_S_listed_slots, d_S_moments, d_U_init, d_U_advance, d_U_failing_until, d_U_skip_to, d_U_latest_moment, d_U_is_repeated, d_U_close, d_U_decide, d_U_outcome, d_U_outcomes, d_U_order, d_law_mixed, d_law_well, d_law_draw, d_law_one, d_law_made, d_law_has, d_law_wide, d_law_fails, d_law_client_right, d_law_right, d_law]
def fa : List He.Fa := [.glo "is_integer",
  .glo "is_between",
  .glo "power",
  .glo "is_tail",
  .glo "Rule",
  .glo "check_starts",
  .glo "is_window",
  .glo "check_outages",
  .glo "Scene",
  .glo "Run",
  .glo "_law_mixed",
  .glo "_law_well",
  .glo "_law_draw",
  .glo "_law_one",
  .glo "_law_made",
  .glo "_law_has",
  .glo "_law_wide",
  .glo "_law_fails",
  .glo "_law_client_right",
  .glo "_law_right",
  .glo "law",
  .free "len",
  .free "isinstance",
  .free "all",
  .free "list",
  .free "int",
  .free "bool",
  .free "tuple",
  .free "str",
  .free "enumerate",
  .free "range",
  .free "sorted",
  .free "max",
  .free "min",
  .free "sum",
  .free "dict",
  .free "zip",
  .int "MOST_GAPS" 20,
  .int "MOST_GAP" 1000000000000,
  .int "MOST_FACTOR" 1000,
  .int "MOST_ATTEMPT" 1000,
  .int "MOST_CLIENTS" 40,
  .int "MOST_OUTAGES" 10,
  .cls "Rule",
  .mkr "Rule",
  .noat "Rule" "listed",
  .noat "Rule" "ending",
  .noat "Rule" "sums",
  .cls "Scene",
  .mkr "Scene",
  .noat "Scene" "its_rule",
  .noat "Scene" "its_starts",
  .noat "Scene" "windows",
  .noat "Scene" "its_length",
  .cls "Run",
  .mkr "Run",
  .noat "Run" "its_scene",
  .noat "Run" "pattern",
  .noat "Run" "begins",
  .noat "Run" "changes",
  .noat "Run" "services",
  .noat "Run" "closed",
  .noat "Run" "waiting",
  .noat "Run" "free_from",
  .meth "Rule" "gaps",
  .meth "Rule" "tail",
  .meth "Rule" "attempts",
  .meth "Rule" "check_attempt",
  .meth "Rule" "offset",
  .meth "Rule" "offset_of",
  .meth "Rule" "period",
  .meth "Rule" "first_from",
  .meth "Rule" "attempt_at",
  .meth "Scene" "rule",
  .meth "Scene" "starts",
  .meth "Scene" "outages",
  .meth "Scene" "length",
  .meth "Scene" "check_client",
  .meth "Scene" "slot_of",
  .meth "Scene" "outage_at",
  .meth "Scene" "listed_slots",
  .meth "Scene" "moments",
  .meth "Run" "advance",
  .meth "Run" "failing_until",
  .meth "Run" "skip_to",
  .meth "Run" "latest_moment",
  .meth "Run" "is_repeated",
  .meth "Run" "close",
  .meth "Run" "decide",
  .meth "Run" "outcome",
  .meth "Run" "outcomes",
  .meth "Run" "order"]
/-- what isinstance asks of an own class -/
def isiB (K : PySem.W.Frag) (x : Str) : Bool := He.eqO (PySem.W.findIn K (.ref (He.ga K x)) "__class__") (some (some (.builtin "object.__class__"))) && decide (PySem.W.mroIn K (He.ga K x) (.type "object") = some true)
def exB (K : PySem.W.Frag) : Bool := isiB K "Rule" && (isiB K "Scene" && (He.eqO (PySem.W.specialIn K (.builtin "object.__class__") "__get__") (some (some (.builtin "getset_descriptor.__get__"))) && decide (PySem.W.takesIn K (.builtin "object.__class__") = some true)))
/-- the head's facts -/
structure Says (K : PySem.W.Frag) : Prop where
  d : He.SaysD fa fn K
  ex : exB K = true
/-- the facts, with the module's names -/
structure Wd (K : PySem.W.Frag) (mg : Str → Option Value) : Prop where
  s : Says K
  g : ∃ h : Heap, K.In h ∧ h.Ns mainGlobals mg
def fdOf (K : PySem.W.Frag) (p : Str × Option Str) : FuncData := match K.lookup (He.fAd K p) with
  | some ⟨_, _, .func fd, _⟩ => fd
  | _ => default
theorem fdOf_eq {K : PySem.W.Frag} {p : Str × Option Str} {oc : Value} {od : Option Addr} {fd : FuncData} {osl : Array (Option Value)} (h : K.lookup (He.fAd K p) = some ⟨oc, od, .func fd, osl⟩) : fdOf K p = fd := by
  unfold fdOf
  rw [h]
theorem fd_of {K : PySem.W.Frag} (c : He.SaysD fa fn K) (i : Nat) {d : He.DefD} (h : fn[i]? = some d) : FunD K d.name d.qual d.params d.body d.scope (d.dvs K) (d.kws K) (He.fAd K d.at_) (fdOf K d.at_) := by
  obtain ⟨fd, F⟩ := c.def_ i h
  obtain ⟨oc, od, dV, kV, doc, pm, an, cdv, ct, osl, e1, e2, e3⟩ := F.ex
  rw [fdOf_eq e2]
  exact F
section
variable {K : PySem.W.Frag} {mg : Str → Option Value} (W : Wd K mg)
include W
theorem Wd.glo (i : Nat) {x : Str} (h : fa[i]? = some (.glo x)) : mg x = some (.ref (He.ga K x)) := let ⟨_, X, G⟩ := W.g; He.glo_ok X G (W.s.d.fact i h)
theorem Wd.free (i : Nat) {x : Str} (h : fa[i]? = some (.free x)) : mg x = none := let ⟨_, X, G⟩ := W.g; He.free_ok X G (W.s.d.fact i h)
theorem Wd.int (i : Nat) {x : Str} {n : Int} (h : fa[i]? = some (.int x n)) : ∃ u, mg x = some u ∧ RelV (.int n) u := by
  obtain ⟨_, X, G⟩ := W.g
  obtain ⟨t, e⟩ := He.int_ok X G (W.s.d.fact i h)
  exact ⟨_, e, t, rfl⟩

theorem g_is_integer : mg "is_integer" = some (.ref (He.ga K "is_integer")) := W.glo 0 rfl
theorem g_is_between : mg "is_between" = some (.ref (He.ga K "is_between")) := W.glo 1 rfl
theorem g_power : mg "power" = some (.ref (He.ga K "power")) := W.glo 2 rfl
theorem g_is_tail : mg "is_tail" = some (.ref (He.ga K "is_tail")) := W.glo 3 rfl
theorem g_Rule : mg "Rule" = some (.ref (He.ga K "Rule")) := W.glo 4 rfl
theorem g_check_starts : mg "check_starts" = some (.ref (He.ga K "check_starts")) := W.glo 5 rfl
theorem g_is_window : mg "is_window" = some (.ref (He.ga K "is_window")) := W.glo 6 rfl
theorem g_check_outages : mg "check_outages" = some (.ref (He.ga K "check_outages")) := W.glo 7 rfl
theorem g_Scene : mg "Scene" = some (.ref (He.ga K "Scene")) := W.glo 8 rfl
theorem g_Run : mg "Run" = some (.ref (He.ga K "Run")) := W.glo 9 rfl
theorem g_law_mixed : mg "_law_mixed" = some (.ref (He.ga K "_law_mixed")) := W.glo 10 rfl
theorem g_law_well : mg "_law_well" = some (.ref (He.ga K "_law_well")) := W.glo 11 rfl
theorem g_law_draw : mg "_law_draw" = some (.ref (He.ga K "_law_draw")) := W.glo 12 rfl
theorem g_law_one : mg "_law_one" = some (.ref (He.ga K "_law_one")) := W.glo 13 rfl
theorem g_law_made : mg "_law_made" = some (.ref (He.ga K "_law_made")) := W.glo 14 rfl
theorem g_law_has : mg "_law_has" = some (.ref (He.ga K "_law_has")) := W.glo 15 rfl
theorem g_law_wide : mg "_law_wide" = some (.ref (He.ga K "_law_wide")) := W.glo 16 rfl
theorem g_law_fails : mg "_law_fails" = some (.ref (He.ga K "_law_fails")) := W.glo 17 rfl
theorem g_law_client_right : mg "_law_client_right" = some (.ref (He.ga K "_law_client_right")) := W.glo 18 rfl
theorem g_law_right : mg "_law_right" = some (.ref (He.ga K "_law_right")) := W.glo 19 rfl
theorem g_law : mg "law" = some (.ref (He.ga K "law")) := W.glo 20 rfl
theorem n_len : mg "len" = none := W.free 21 rfl
theorem n_isinstance : mg "isinstance" = none := W.free 22 rfl
theorem n_all : mg "all" = none := W.free 23 rfl
theorem n_list : mg "list" = none := W.free 24 rfl
theorem n_int : mg "int" = none := W.free 25 rfl
theorem n_bool : mg "bool" = none := W.free 26 rfl
theorem n_tuple : mg "tuple" = none := W.free 27 rfl
theorem n_str : mg "str" = none := W.free 28 rfl
theorem n_enumerate : mg "enumerate" = none := W.free 29 rfl
theorem n_range : mg "range" = none := W.free 30 rfl
theorem n_sorted : mg "sorted" = none := W.free 31 rfl
theorem n_max : mg "max" = none := W.free 32 rfl
theorem n_min : mg "min" = none := W.free 33 rfl
theorem n_sum : mg "sum" = none := W.free 34 rfl
theorem n_dict : mg "dict" = none := W.free 35 rfl
theorem n_zip : mg "zip" = none := W.free 36 rfl
theorem i_MOST_GAPS : ∃ u, mg "MOST_GAPS" = some u ∧ RelV (.int 20) u := W.int 37 rfl
theorem i_MOST_GAP : ∃ u, mg "MOST_GAP" = some u ∧ RelV (.int 1000000000000) u := W.int 38 rfl
theorem i_MOST_FACTOR : ∃ u, mg "MOST_FACTOR" = some u ∧ RelV (.int 1000) u := W.int 39 rfl
theorem i_MOST_ATTEMPT : ∃ u, mg "MOST_ATTEMPT" = some u ∧ RelV (.int 1000) u := W.int 40 rfl
theorem i_MOST_CLIENTS : ∃ u, mg "MOST_CLIENTS" = some u ∧ RelV (.int 40) u := W.int 41 rfl
theorem i_MOST_OUTAGES : ∃ u, mg "MOST_OUTAGES" = some u ∧ RelV (.int 10) u := W.int 42 rfl
theorem cl_Rule : Cls K (He.ga K "Rule") := He.cls_ok (W.s.d.fact 43 rfl)
theorem mk_Rule : Mk K (He.ga K "Rule") (He.ma K (He.ga K "Rule") "__init__") := He.mkr_ok (W.s.d.fact 44 rfl)
theorem na_listed : NoAttr K (He.ga K "Rule") "listed" := He.noat_ok (W.s.d.fact 45 rfl)
theorem na_ending : NoAttr K (He.ga K "Rule") "ending" := He.noat_ok (W.s.d.fact 46 rfl)
theorem na_sums : NoAttr K (He.ga K "Rule") "sums" := He.noat_ok (W.s.d.fact 47 rfl)
theorem cl_Scene : Cls K (He.ga K "Scene") := He.cls_ok (W.s.d.fact 48 rfl)
theorem mk_Scene : Mk K (He.ga K "Scene") (He.ma K (He.ga K "Scene") "__init__") := He.mkr_ok (W.s.d.fact 49 rfl)
theorem na_its_rule : NoAttr K (He.ga K "Scene") "its_rule" := He.noat_ok (W.s.d.fact 50 rfl)
theorem na_its_starts : NoAttr K (He.ga K "Scene") "its_starts" := He.noat_ok (W.s.d.fact 51 rfl)
theorem na_windows : NoAttr K (He.ga K "Scene") "windows" := He.noat_ok (W.s.d.fact 52 rfl)
theorem na_its_length : NoAttr K (He.ga K "Scene") "its_length" := He.noat_ok (W.s.d.fact 53 rfl)
theorem cl_Run : Cls K (He.ga K "Run") := He.cls_ok (W.s.d.fact 54 rfl)
theorem mk_Run : Mk K (He.ga K "Run") (He.ma K (He.ga K "Run") "__init__") := He.mkr_ok (W.s.d.fact 55 rfl)
theorem na_its_scene : NoAttr K (He.ga K "Run") "its_scene" := He.noat_ok (W.s.d.fact 56 rfl)
theorem na_pattern : NoAttr K (He.ga K "Run") "pattern" := He.noat_ok (W.s.d.fact 57 rfl)
theorem na_begins : NoAttr K (He.ga K "Run") "begins" := He.noat_ok (W.s.d.fact 58 rfl)
theorem na_changes : NoAttr K (He.ga K "Run") "changes" := He.noat_ok (W.s.d.fact 59 rfl)
theorem na_services : NoAttr K (He.ga K "Run") "services" := He.noat_ok (W.s.d.fact 60 rfl)
theorem na_closed : NoAttr K (He.ga K "Run") "closed" := He.noat_ok (W.s.d.fact 61 rfl)
theorem na_waiting : NoAttr K (He.ga K "Run") "waiting" := He.noat_ok (W.s.d.fact 62 rfl)
theorem na_free_from : NoAttr K (He.ga K "Run") "free_from" := He.noat_ok (W.s.d.fact 63 rfl)
abbrev a_is_integer (K : PySem.W.Frag) : Addr := He.ga K "is_integer"
abbrev f_is_integer (K : PySem.W.Frag) : FuncData := fdOf K ("is_integer", none)
theorem F_is_integer : FunD K "is_integer" "is_integer" (defArgs s_is_integer) (defBody s_is_integer) (defScope s_is_integer) [] [] (a_is_integer K) (f_is_integer K) := fd_of W.s.d 0 rfl
theorem b_is_integer : Binds K (f_is_integer K) ["value"] [] := (F_is_integer W).bindsN fun _ _ _ _ _ _ us hl => match us, hl with | [_], _ => rfl
abbrev a_is_between (K : PySem.W.Frag) : Addr := He.ga K "is_between"
abbrev f_is_between (K : PySem.W.Frag) : FuncData := fdOf K ("is_between", none)
theorem F_is_between : FunD K "is_between" "is_between" (defArgs s_is_between) (defBody s_is_between) (defScope s_is_between) [] [] (a_is_between K) (f_is_between K) := fd_of W.s.d 1 rfl
theorem b_is_between : Binds K (f_is_between K) ["value", "low", "high"] [] := (F_is_between W).bindsN fun _ _ _ _ _ _ us hl => match us, hl with | [_, _, _], _ => rfl
abbrev a_power (K : PySem.W.Frag) : Addr := He.ga K "power"
abbrev f_power (K : PySem.W.Frag) : FuncData := fdOf K ("power", none)
theorem F_power : FunD K "power" "power" (defArgs s_power) (defBody s_power) (defScope s_power) [] [] (a_power K) (f_power K) := fd_of W.s.d 2 rfl
theorem b_power : Binds K (f_power K) ["base", "exponent"] [] := (F_power W).bindsN fun _ _ _ _ _ _ us hl => match us, hl with | [_, _], _ => rfl
abbrev a_is_tail (K : PySem.W.Frag) : Addr := He.ga K "is_tail"
abbrev f_is_tail (K : PySem.W.Frag) : FuncData := fdOf K ("is_tail", none)
theorem F_is_tail : FunD K "is_tail" "is_tail" (defArgs s_is_tail) (defBody s_is_tail) (defScope s_is_tail) [] [] (a_is_tail K) (f_is_tail K) := fd_of W.s.d 3 rfl
theorem b_is_tail : Binds K (f_is_tail K) ["tail", "gap_count"] [] := (F_is_tail W).bindsN fun _ _ _ _ _ _ us hl => match us, hl with | [_, _], _ => rfl
abbrev a_R_init (K : PySem.W.Frag) : Addr := He.ma K (He.ga K "Rule") "__init__"
abbrev f_R_init (K : PySem.W.Frag) : FuncData := fdOf K ("Rule", some "__init__")
theorem F_R_init : FunD K "__init__" "Rule.__init__" (defArgs s_R_init) (defBody s_R_init) (defScope s_R_init) [] [] (a_R_init K) (f_R_init K) := fd_of W.s.d 4 rfl
theorem b_R_init : Binds K (f_R_init K) ["self", "gaps", "tail"] [] := (F_R_init W).bindsN fun _ _ _ _ _ _ us hl => match us, hl with | [_, _, _], _ => rfl
abbrev a_R_gaps (K : PySem.W.Frag) : Addr := He.ma K (He.ga K "Rule") "gaps"
abbrev f_R_gaps (K : PySem.W.Frag) : FuncData := fdOf K ("Rule", some "gaps")
theorem F_R_gaps : FunD K "gaps" "Rule.gaps" (defArgs s_R_gaps) (defBody s_R_gaps) (defScope s_R_gaps) [] [] (a_R_gaps K) (f_R_gaps K) := fd_of W.s.d 5 rfl
theorem m_R_gaps : Meth K (He.ga K "Rule") "gaps" (a_R_gaps K) := He.meth_ok (W.s.d.fact 64 rfl)
theorem b_R_gaps : Binds K (f_R_gaps K) ["self"] [] := (F_R_gaps W).bindsN fun _ _ _ _ _ _ us hl => match us, hl with | [_], _ => rfl
abbrev a_R_tail (K : PySem.W.Frag) : Addr := He.ma K (He.ga K "Rule") "tail"
abbrev f_R_tail (K : PySem.W.Frag) : FuncData := fdOf K ("Rule", some "tail")
theorem F_R_tail : FunD K "tail" "Rule.tail" (defArgs s_R_tail) (defBody s_R_tail) (defScope s_R_tail) [] [] (a_R_tail K) (f_R_tail K) := fd_of W.s.d 6 rfl
theorem m_R_tail : Meth K (He.ga K "Rule") "tail" (a_R_tail K) := He.meth_ok (W.s.d.fact 65 rfl)
theorem b_R_tail : Binds K (f_R_tail K) ["self"] [] := (F_R_tail W).bindsN fun _ _ _ _ _ _ us hl => match us, hl with | [_], _ => rfl
abbrev a_R_attempts (K : PySem.W.Frag) : Addr := He.ma K (He.ga K "Rule") "attempts"
abbrev f_R_attempts (K : PySem.W.Frag) : FuncData := fdOf K ("Rule", some "attempts")
theorem F_R_attempts : FunD K "attempts" "Rule.attempts" (defArgs s_R_attempts) (defBody s_R_attempts) (defScope s_R_attempts) [] [] (a_R_attempts K) (f_R_attempts K) := fd_of W.s.d 7 rfl
theorem m_R_attempts : Meth K (He.ga K "Rule") "attempts" (a_R_attempts K) := He.meth_ok (W.s.d.fact 66 rfl)
theorem b_R_attempts : Binds K (f_R_attempts K) ["self"] [] := (F_R_attempts W).bindsN fun _ _ _ _ _ _ us hl => match us, hl with | [_], _ => rfl
abbrev a_R_check_attempt (K : PySem.W.Frag) : Addr := He.ma K (He.ga K "Rule") "check_attempt"
abbrev f_R_check_attempt (K : PySem.W.Frag) : FuncData := fdOf K ("Rule", some "check_attempt")
theorem F_R_check_attempt : FunD K "check_attempt" "Rule.check_attempt" (defArgs s_R_check_attempt) (defBody s_R_check_attempt) (defScope s_R_check_attempt) [] [] (a_R_check_attempt K) (f_R_check_attempt K) := fd_of W.s.d 8 rfl
theorem m_R_check_attempt : Meth K (He.ga K "Rule") "check_attempt" (a_R_check_attempt K) := He.meth_ok (W.s.d.fact 67 rfl)
theorem b_R_check_attempt : Binds K (f_R_check_attempt K) ["self", "attempt"] [] := (F_R_check_attempt W).bindsN fun _ _ _ _ _ _ us hl => match us, hl with | [_, _], _ => rfl
abbrev a_R_offset (K : PySem.W.Frag) : Addr := He.ma K (He.ga K "Rule") "offset"
abbrev f_R_offset (K : PySem.W.Frag) : FuncData := fdOf K ("Rule", some "offset")
theorem F_R_offset : FunD K "offset" "Rule.offset" (defArgs s_R_offset) (defBody s_R_offset) (defScope s_R_offset) [] [] (a_R_offset K) (f_R_offset K) := fd_of W.s.d 9 rfl
theorem m_R_offset : Meth K (He.ga K "Rule") "offset" (a_R_offset K) := He.meth_ok (W.s.d.fact 68 rfl)
theorem b_R_offset : Binds K (f_R_offset K) ["self", "attempt"] [] := (F_R_offset W).bindsN fun _ _ _ _ _ _ us hl => match us, hl with | [_, _], _ => rfl
abbrev a_R_offset_of (K : PySem.W.Frag) : Addr := He.ma K (He.ga K "Rule") "offset_of"
abbrev f_R_offset_of (K : PySem.W.Frag) : FuncData := fdOf K ("Rule", some "offset_of")
theorem F_R_offset_of : FunD K "offset_of" "Rule.offset_of" (defArgs s_R_offset_of) (defBody s_R_offset_of) (defScope s_R_offset_of) [] [] (a_R_offset_of K) (f_R_offset_of K) := fd_of W.s.d 10 rfl
theorem m_R_offset_of : Meth K (He.ga K "Rule") "offset_of" (a_R_offset_of K) := He.meth_ok (W.s.d.fact 69 rfl)
theorem b_R_offset_of : Binds K (f_R_offset_of K) ["self", "attempt"] [] := (F_R_offset_of W).bindsN fun _ _ _ _ _ _ us hl => match us, hl with | [_, _], _ => rfl
abbrev a_R_period (K : PySem.W.Frag) : Addr := He.ma K (He.ga K "Rule") "period"
abbrev f_R_period (K : PySem.W.Frag) : FuncData := fdOf K ("Rule", some "period")
theorem F_R_period : FunD K "period" "Rule.period" (defArgs s_R_period) (defBody s_R_period) (defScope s_R_period) [] [] (a_R_period K) (f_R_period K) := fd_of W.s.d 11 rfl
theorem m_R_period : Meth K (He.ga K "Rule") "period" (a_R_period K) := He.meth_ok (W.s.d.fact 70 rfl)
theorem b_R_period : Binds K (f_R_period K) ["self"] [] := (F_R_period W).bindsN fun _ _ _ _ _ _ us hl => match us, hl with | [_], _ => rfl
abbrev a_R_first_from (K : PySem.W.Frag) : Addr := He.ma K (He.ga K "Rule") "first_from"
abbrev f_R_first_from (K : PySem.W.Frag) : FuncData := fdOf K ("Rule", some "first_from")
theorem F_R_first_from : FunD K "first_from" "Rule.first_from" (defArgs s_R_first_from) (defBody s_R_first_from) (defScope s_R_first_from) [] [] (a_R_first_from K) (f_R_first_from K) := fd_of W.s.d 12 rfl
theorem m_R_first_from : Meth K (He.ga K "Rule") "first_from" (a_R_first_from K) := He.meth_ok (W.s.d.fact 71 rfl)
theorem b_R_first_from : Binds K (f_R_first_from K) ["self", "distance"] [] := (F_R_first_from W).bindsN fun _ _ _ _ _ _ us hl => match us, hl with | [_, _], _ => rfl
abbrev a_R_attempt_at (K : PySem.W.Frag) : Addr := He.ma K (He.ga K "Rule") "attempt_at"
abbrev f_R_attempt_at (K : PySem.W.Frag) : FuncData := fdOf K ("Rule", some "attempt_at")
theorem F_R_attempt_at : FunD K "attempt_at" "Rule.attempt_at" (defArgs s_R_attempt_at) (defBody s_R_attempt_at) (defScope s_R_attempt_at) [] [] (a_R_attempt_at K) (f_R_attempt_at K) := fd_of W.s.d 13 rfl
theorem m_R_attempt_at : Meth K (He.ga K "Rule") "attempt_at" (a_R_attempt_at K) := He.meth_ok (W.s.d.fact 72 rfl)
theorem b_R_attempt_at : Binds K (f_R_attempt_at K) ["self", "distance"] [] := (F_R_attempt_at W).bindsN fun _ _ _ _ _ _ us hl => match us, hl with | [_, _], _ => rfl
abbrev a_check_starts (K : PySem.W.Frag) : Addr := He.ga K "check_starts"
abbrev f_check_starts (K : PySem.W.Frag) : FuncData := fdOf K ("check_starts", none)
theorem F_check_starts : FunD K "check_starts" "check_starts" (defArgs s_check_starts) (defBody s_check_starts) (defScope s_check_starts) [] [] (a_check_starts K) (f_check_starts K) := fd_of W.s.d 14 rfl
theorem b_check_starts : Binds K (f_check_starts K) ["starts"] [] := (F_check_starts W).bindsN fun _ _ _ _ _ _ us hl => match us, hl with | [_], _ => rfl
abbrev a_is_window (K : PySem.W.Frag) : Addr := He.ga K "is_window"
abbrev f_is_window (K : PySem.W.Frag) : FuncData := fdOf K ("is_window", none)
theorem F_is_window : FunD K "is_window" "is_window" (defArgs s_is_window) (defBody s_is_window) (defScope s_is_window) [] [] (a_is_window K) (f_is_window K) := fd_of W.s.d 15 rfl
theorem b_is_window : Binds K (f_is_window K) ["value"] [] := (F_is_window W).bindsN fun _ _ _ _ _ _ us hl => match us, hl with | [_], _ => rfl
abbrev a_check_outages (K : PySem.W.Frag) : Addr := He.ga K "check_outages"
abbrev f_check_outages (K : PySem.W.Frag) : FuncData := fdOf K ("check_outages", none)
theorem F_check_outages : FunD K "check_outages" "check_outages" (defArgs s_check_outages) (defBody s_check_outages) (defScope s_check_outages) [] [] (a_check_outages K) (f_check_outages K) := fd_of W.s.d 16 rfl
theorem b_check_outages : Binds K (f_check_outages K) ["outages"] [] := (F_check_outages W).bindsN fun _ _ _ _ _ _ us hl => match us, hl with | [_], _ => rfl
abbrev a_S_init (K : PySem.W.Frag) : Addr := He.ma K (He.ga K "Scene") "__init__"
abbrev f_S_init (K : PySem.W.Frag) : FuncData := fdOf K ("Scene", some "__init__")
theorem F_S_init : FunD K "__init__" "Scene.__init__" (defArgs s_S_init) (defBody s_S_init) (defScope s_S_init) [] [("outages", .non), ("length", .int 1)] (a_S_init K) (f_S_init K) := fd_of W.s.d 17 rfl
abbrev a_S_rule (K : PySem.W.Frag) : Addr := He.ma K (He.ga K "Scene") "rule"
abbrev f_S_rule (K : PySem.W.Frag) : FuncData := fdOf K ("Scene", some "rule")
theorem F_S_rule : FunD K "rule" "Scene.rule" (defArgs s_S_rule) (defBody s_S_rule) (defScope s_S_rule) [] [] (a_S_rule K) (f_S_rule K) := fd_of W.s.d 18 rfl
theorem m_S_rule : Meth K (He.ga K "Scene") "rule" (a_S_rule K) := He.meth_ok (W.s.d.fact 73 rfl)
theorem b_S_rule : Binds K (f_S_rule K) ["self"] [] := (F_S_rule W).bindsN fun _ _ _ _ _ _ us hl => match us, hl with | [_], _ => rfl
abbrev a_S_starts (K : PySem.W.Frag) : Addr := He.ma K (He.ga K "Scene") "starts"
abbrev f_S_starts (K : PySem.W.Frag) : FuncData := fdOf K ("Scene", some "starts")
theorem F_S_starts : FunD K "starts" "Scene.starts" (defArgs s_S_starts) (defBody s_S_starts) (defScope s_S_starts) [] [] (a_S_starts K) (f_S_starts K) := fd_of W.s.d 19 rfl
theorem m_S_starts : Meth K (He.ga K "Scene") "starts" (a_S_starts K) := He.meth_ok (W.s.d.fact 74 rfl)
theorem b_S_starts : Binds K (f_S_starts K) ["self"] [] := (F_S_starts W).bindsN fun _ _ _ _ _ _ us hl => match us, hl with | [_], _ => rfl
abbrev a_S_outages (K : PySem.W.Frag) : Addr := He.ma K (He.ga K "Scene") "outages"
abbrev f_S_outages (K : PySem.W.Frag) : FuncData := fdOf K ("Scene", some "outages")
theorem F_S_outages : FunD K "outages" "Scene.outages" (defArgs s_S_outages) (defBody s_S_outages) (defScope s_S_outages) [] [] (a_S_outages K) (f_S_outages K) := fd_of W.s.d 20 rfl
theorem m_S_outages : Meth K (He.ga K "Scene") "outages" (a_S_outages K) := He.meth_ok (W.s.d.fact 75 rfl)
theorem b_S_outages : Binds K (f_S_outages K) ["self"] [] := (F_S_outages W).bindsN fun _ _ _ _ _ _ us hl => match us, hl with | [_], _ => rfl
abbrev a_S_length (K : PySem.W.Frag) : Addr := He.ma K (He.ga K "Scene") "length"
abbrev f_S_length (K : PySem.W.Frag) : FuncData := fdOf K ("Scene", some "length")
theorem F_S_length : FunD K "length" "Scene.length" (defArgs s_S_length) (defBody s_S_length) (defScope s_S_length) [] [] (a_S_length K) (f_S_length K) := fd_of W.s.d 21 rfl
theorem m_S_length : Meth K (He.ga K "Scene") "length" (a_S_length K) := He.meth_ok (W.s.d.fact 76 rfl)
theorem b_S_length : Binds K (f_S_length K) ["self"] [] := (F_S_length W).bindsN fun _ _ _ _ _ _ us hl => match us, hl with | [_], _ => rfl
abbrev a_S_check_client (K : PySem.W.Frag) : Addr := He.ma K (He.ga K "Scene") "check_client"
abbrev f_S_check_client (K : PySem.W.Frag) : FuncData := fdOf K ("Scene", some "check_client")
theorem F_S_check_client : FunD K "check_client" "Scene.check_client" (defArgs s_S_check_client) (defBody s_S_check_client) (defScope s_S_check_client) [] [] (a_S_check_client K) (f_S_check_client K) := fd_of W.s.d 22 rfl
theorem m_S_check_client : Meth K (He.ga K "Scene") "check_client" (a_S_check_client K) := He.meth_ok (W.s.d.fact 77 rfl)
theorem b_S_check_client : Binds K (f_S_check_client K) ["self", "client"] [] := (F_S_check_client W).bindsN fun _ _ _ _ _ _ us hl => match us, hl with | [_, _], _ => rfl
abbrev a_S_slot_of (K : PySem.W.Frag) : Addr := He.ma K (He.ga K "Scene") "slot_of"
abbrev f_S_slot_of (K : PySem.W.Frag) : FuncData := fdOf K ("Scene", some "slot_of")
theorem F_S_slot_of : FunD K "slot_of" "Scene.slot_of" (defArgs s_S_slot_of) (defBody s_S_slot_of) (defScope s_S_slot_of) [] [] (a_S_slot_of K) (f_S_slot_of K) := fd_of W.s.d 23 rfl
theorem m_S_slot_of : Meth K (He.ga K "Scene") "slot_of" (a_S_slot_of K) := He.meth_ok (W.s.d.fact 78 rfl)
theorem b_S_slot_of : Binds K (f_S_slot_of K) ["self", "client", "attempt"] [] := (F_S_slot_of W).bindsN fun _ _ _ _ _ _ us hl => match us, hl with | [_, _, _], _ => rfl
abbrev a_S_outage_at (K : PySem.W.Frag) : Addr := He.ma K (He.ga K "Scene") "outage_at"
abbrev f_S_outage_at (K : PySem.W.Frag) : FuncData := fdOf K ("Scene", some "outage_at")
theorem F_S_outage_at : FunD K "outage_at" "Scene.outage_at" (defArgs s_S_outage_at) (defBody s_S_outage_at) (defScope s_S_outage_at) [] [] (a_S_outage_at K) (f_S_outage_at K) := fd_of W.s.d 24 rfl
theorem m_S_outage_at : Meth K (He.ga K "Scene") "outage_at" (a_S_outage_at K) := He.meth_ok (W.s.d.fact 79 rfl)
theorem b_S_outage_at : Binds K (f_S_outage_at K) ["self", "slot"] [] := (F_S_outage_at W).bindsN fun _ _ _ _ _ _ us hl => match us, hl with | [_, _], _ => rfl
abbrev a_S_listed_slots (K : PySem.W.Frag) : Addr := He.ma K (He.ga K "Scene") "listed_slots"
abbrev f_S_listed_slots (K : PySem.W.Frag) : FuncData := fdOf K ("Scene", some "listed_slots")
theorem F_S_listed_slots : FunD K "listed_slots" "Scene.listed_slots" (defArgs s_S_listed_slots) (defBody s_S_listed_slots) (defScope s_S_listed_slots) [] [] (a_S_listed_slots K) (f_S_listed_slots K) := fd_of W.s.d 25 rfl
theorem m_S_listed_slots : Meth K (He.ga K "Scene") "listed_slots" (a_S_listed_slots K) := He.meth_ok (W.s.d.fact 80 rfl)
theorem b_S_listed_slots : Binds K (f_S_listed_slots K) ["self", "client"] [] := (F_S_listed_slots W).bindsN fun _ _ _ _ _ _ us hl => match us, hl with | [_, _], _ => rfl
abbrev a_S_moments (K : PySem.W.Frag) : Addr := He.ma K (He.ga K "Scene") "moments"
abbrev f_S_moments (K : PySem.W.Frag) : FuncData := fdOf K ("Scene", some "moments")
theorem F_S_moments : FunD K "moments" "Scene.moments" (defArgs s_S_moments) (defBody s_S_moments) (defScope s_S_moments) [] [] (a_S_moments K) (f_S_moments K) := fd_of W.s.d 26 rfl
theorem m_S_moments : Meth K (He.ga K "Scene") "moments" (a_S_moments K) := He.meth_ok (W.s.d.fact 81 rfl)
theorem b_S_moments : Binds K (f_S_moments K) ["self"] [] := (F_S_moments W).bindsN fun _ _ _ _ _ _ us hl => match us, hl with | [_], _ => rfl
abbrev a_U_init (K : PySem.W.Frag) : Addr := He.ma K (He.ga K "Run") "__init__"
abbrev f_U_init (K : PySem.W.Frag) : FuncData := fdOf K ("Run", some "__init__")
theorem F_U_init : FunD K "__init__" "Run.__init__" (defArgs s_U_init) (defBody s_U_init) (defScope s_U_init) [] [] (a_U_init K) (f_U_init K) := fd_of W.s.d 27 rfl
theorem b_U_init : Binds K (f_U_init K) ["self", "scene"] [] := (F_U_init W).bindsN fun _ _ _ _ _ _ us hl => match us, hl with | [_, _], _ => rfl
abbrev a_U_advance (K : PySem.W.Frag) : Addr := He.ma K (He.ga K "Run") "advance"
abbrev f_U_advance (K : PySem.W.Frag) : FuncData := fdOf K ("Run", some "advance")
theorem F_U_advance : FunD K "advance" "Run.advance" (defArgs s_U_advance) (defBody s_U_advance) (defScope s_U_advance) [] [] (a_U_advance K) (f_U_advance K) := fd_of W.s.d 28 rfl
theorem m_U_advance : Meth K (He.ga K "Run") "advance" (a_U_advance K) := He.meth_ok (W.s.d.fact 82 rfl)
theorem b_U_advance : Binds K (f_U_advance K) ["self"] [] := (F_U_advance W).bindsN fun _ _ _ _ _ _ us hl => match us, hl with | [_], _ => rfl
abbrev a_U_failing_until (K : PySem.W.Frag) : Addr := He.ma K (He.ga K "Run") "failing_until"
abbrev f_U_failing_until (K : PySem.W.Frag) : FuncData := fdOf K ("Run", some "failing_until")
theorem F_U_failing_until : FunD K "failing_until" "Run.failing_until" (defArgs s_U_failing_until) (defBody s_U_failing_until) (defScope s_U_failing_until) [] [] (a_U_failing_until K) (f_U_failing_until K) := fd_of W.s.d 29 rfl
theorem m_U_failing_until : Meth K (He.ga K "Run") "failing_until" (a_U_failing_until K) := He.meth_ok (W.s.d.fact 83 rfl)
theorem b_U_failing_until : Binds K (f_U_failing_until K) ["self", "slot"] [] := (F_U_failing_until W).bindsN fun _ _ _ _ _ _ us hl => match us, hl with | [_, _], _ => rfl
abbrev a_U_skip_to (K : PySem.W.Frag) : Addr := He.ma K (He.ga K "Run") "skip_to"
abbrev f_U_skip_to (K : PySem.W.Frag) : FuncData := fdOf K ("Run", some "skip_to")
theorem F_U_skip_to : FunD K "skip_to" "Run.skip_to" (defArgs s_U_skip_to) (defBody s_U_skip_to) (defScope s_U_skip_to) [] [] (a_U_skip_to K) (f_U_skip_to K) := fd_of W.s.d 30 rfl
theorem m_U_skip_to : Meth K (He.ga K "Run") "skip_to" (a_U_skip_to K) := He.meth_ok (W.s.d.fact 84 rfl)
theorem b_U_skip_to : Binds K (f_U_skip_to K) ["self", "slot"] [] := (F_U_skip_to W).bindsN fun _ _ _ _ _ _ us hl => match us, hl with | [_, _], _ => rfl
abbrev a_U_latest_moment (K : PySem.W.Frag) : Addr := He.ma K (He.ga K "Run") "latest_moment"
abbrev f_U_latest_moment (K : PySem.W.Frag) : FuncData := fdOf K ("Run", some "latest_moment")
theorem F_U_latest_moment : FunD K "latest_moment" "Run.latest_moment" (defArgs s_U_latest_moment) (defBody s_U_latest_moment) (defScope s_U_latest_moment) [] [] (a_U_latest_moment K) (f_U_latest_moment K) := fd_of W.s.d 31 rfl
theorem m_U_latest_moment : Meth K (He.ga K "Run") "latest_moment" (a_U_latest_moment K) := He.meth_ok (W.s.d.fact 85 rfl)
theorem b_U_latest_moment : Binds K (f_U_latest_moment K) ["self", "slot"] [] := (F_U_latest_moment W).bindsN fun _ _ _ _ _ _ us hl => match us, hl with | [_, _], _ => rfl
abbrev a_U_is_repeated (K : PySem.W.Frag) : Addr := He.ma K (He.ga K "Run") "is_repeated"
abbrev f_U_is_repeated (K : PySem.W.Frag) : FuncData := fdOf K ("Run", some "is_repeated")
theorem F_U_is_repeated : FunD K "is_repeated" "Run.is_repeated" (defArgs s_U_is_repeated) (defBody s_U_is_repeated) (defScope s_U_is_repeated) [] [] (a_U_is_repeated K) (f_U_is_repeated K) := fd_of W.s.d 32 rfl
theorem m_U_is_repeated : Meth K (He.ga K "Run") "is_repeated" (a_U_is_repeated K) := He.meth_ok (W.s.d.fact 86 rfl)
theorem b_U_is_repeated : Binds K (f_U_is_repeated K) ["self", "slot"] [] := (F_U_is_repeated W).bindsN fun _ _ _ _ _ _ us hl => match us, hl with | [_, _], _ => rfl
abbrev a_U_close (K : PySem.W.Frag) : Addr := He.ma K (He.ga K "Run") "close"
abbrev f_U_close (K : PySem.W.Frag) : FuncData := fdOf K ("Run", some "close")
theorem F_U_close : FunD K "close" "Run.close" (defArgs s_U_close) (defBody s_U_close) (defScope s_U_close) [] [] (a_U_close K) (f_U_close K) := fd_of W.s.d 33 rfl
theorem m_U_close : Meth K (He.ga K "Run") "close" (a_U_close K) := He.meth_ok (W.s.d.fact 87 rfl)
theorem b_U_close : Binds K (f_U_close K) ["self", "slot"] [] := (F_U_close W).bindsN fun _ _ _ _ _ _ us hl => match us, hl with | [_, _], _ => rfl
abbrev a_U_decide (K : PySem.W.Frag) : Addr := He.ma K (He.ga K "Run") "decide"
abbrev f_U_decide (K : PySem.W.Frag) : FuncData := fdOf K ("Run", some "decide")
theorem F_U_decide : FunD K "decide" "Run.decide" (defArgs s_U_decide) (defBody s_U_decide) (defScope s_U_decide) [] [] (a_U_decide K) (f_U_decide K) := fd_of W.s.d 34 rfl
theorem m_U_decide : Meth K (He.ga K "Run") "decide" (a_U_decide K) := He.meth_ok (W.s.d.fact 88 rfl)
theorem b_U_decide : Binds K (f_U_decide K) ["self", "slot", "clients"] [] := (F_U_decide W).bindsN fun _ _ _ _ _ _ us hl => match us, hl with | [_, _, _], _ => rfl
abbrev a_U_outcome (K : PySem.W.Frag) : Addr := He.ma K (He.ga K "Run") "outcome"
abbrev f_U_outcome (K : PySem.W.Frag) : FuncData := fdOf K ("Run", some "outcome")
theorem F_U_outcome : FunD K "outcome" "Run.outcome" (defArgs s_U_outcome) (defBody s_U_outcome) (defScope s_U_outcome) [] [] (a_U_outcome K) (f_U_outcome K) := fd_of W.s.d 35 rfl
theorem m_U_outcome : Meth K (He.ga K "Run") "outcome" (a_U_outcome K) := He.meth_ok (W.s.d.fact 89 rfl)
theorem b_U_outcome : Binds K (f_U_outcome K) ["self", "client"] [] := (F_U_outcome W).bindsN fun _ _ _ _ _ _ us hl => match us, hl with | [_, _], _ => rfl
abbrev a_U_outcomes (K : PySem.W.Frag) : Addr := He.ma K (He.ga K "Run") "outcomes"
abbrev f_U_outcomes (K : PySem.W.Frag) : FuncData := fdOf K ("Run", some "outcomes")
theorem F_U_outcomes : FunD K "outcomes" "Run.outcomes" (defArgs s_U_outcomes) (defBody s_U_outcomes) (defScope s_U_outcomes) [] [] (a_U_outcomes K) (f_U_outcomes K) := fd_of W.s.d 36 rfl
theorem m_U_outcomes : Meth K (He.ga K "Run") "outcomes" (a_U_outcomes K) := He.meth_ok (W.s.d.fact 90 rfl)
theorem b_U_outcomes : Binds K (f_U_outcomes K) ["self"] [] := (F_U_outcomes W).bindsN fun _ _ _ _ _ _ us hl => match us, hl with | [_], _ => rfl
abbrev a_U_order (K : PySem.W.Frag) : Addr := He.ma K (He.ga K "Run") "order"
abbrev f_U_order (K : PySem.W.Frag) : FuncData := fdOf K ("Run", some "order")
theorem F_U_order : FunD K "order" "Run.order" (defArgs s_U_order) (defBody s_U_order) (defScope s_U_order) [] [] (a_U_order K) (f_U_order K) := fd_of W.s.d 37 rfl
theorem m_U_order : Meth K (He.ga K "Run") "order" (a_U_order K) := He.meth_ok (W.s.d.fact 91 rfl)
theorem b_U_order : Binds K (f_U_order K) ["self"] [] := (F_U_order W).bindsN fun _ _ _ _ _ _ us hl => match us, hl with | [_], _ => rfl
abbrev a_law_mixed (K : PySem.W.Frag) : Addr := He.ga K "_law_mixed"
abbrev f_law_mixed (K : PySem.W.Frag) : FuncData := fdOf K ("_law_mixed", none)
theorem F_law_mixed : FunD K "_law_mixed" "_law_mixed" (defArgs s_law_mixed) (defBody s_law_mixed) (defScope s_law_mixed) [] [] (a_law_mixed K) (f_law_mixed K) := fd_of W.s.d 38 rfl
theorem b_law_mixed : Binds K (f_law_mixed K) ["_law_cell", "_law_k"] [] := (F_law_mixed W).bindsN fun _ _ _ _ _ _ us hl => match us, hl with | [_, _], _ => rfl
abbrev a_law_well (K : PySem.W.Frag) : Addr := He.ga K "_law_well"
abbrev f_law_well (K : PySem.W.Frag) : FuncData := fdOf K ("_law_well", none)
theorem F_law_well : FunD K "_law_well" "_law_well" (defArgs s_law_well) (defBody s_law_well) (defScope s_law_well) [] [] (a_law_well K) (f_law_well K) := fd_of W.s.d 39 rfl
theorem b_law_well : Binds K (f_law_well K) ["_law_cell"] [] := (F_law_well W).bindsN fun _ _ _ _ _ _ us hl => match us, hl with | [_], _ => rfl
abbrev a_law_draw (K : PySem.W.Frag) : Addr := He.ga K "_law_draw"
abbrev f_law_draw (K : PySem.W.Frag) : FuncData := fdOf K ("_law_draw", none)
theorem F_law_draw : FunD K "_law_draw" "_law_draw" (defArgs s_law_draw) (defBody s_law_draw) (defScope s_law_draw) [] [] (a_law_draw K) (f_law_draw K) := fd_of W.s.d 40 rfl
theorem b_law_draw : Binds K (f_law_draw K) ["_law_well_here", "_law_many"] [] := (F_law_draw W).bindsN fun _ _ _ _ _ _ us hl => match us, hl with | [_, _], _ => rfl
abbrev a_law_one (K : PySem.W.Frag) : Addr := He.ga K "_law_one"
abbrev f_law_one (K : PySem.W.Frag) : FuncData := fdOf K ("_law_one", none)
theorem F_law_one : FunD K "_law_one" "_law_one" (defArgs s_law_one) (defBody s_law_one) (defScope s_law_one) [] [] (a_law_one K) (f_law_one K) := fd_of W.s.d 41 rfl
theorem b_law_one : Binds K (f_law_one K) ["_law_well_here", "_law_some"] [] := (F_law_one W).bindsN fun _ _ _ _ _ _ us hl => match us, hl with | [_, _], _ => rfl
abbrev a_law_made (K : PySem.W.Frag) : Addr := He.ga K "_law_made"
abbrev f_law_made (K : PySem.W.Frag) : FuncData := fdOf K ("_law_made", none)
theorem F_law_made : FunD K "_law_made" "_law_made" (defArgs s_law_made) (defBody s_law_made) (defScope s_law_made) [] [] (a_law_made K) (f_law_made K) := fd_of W.s.d 42 rfl
theorem b_law_made : Binds K (f_law_made K) ["_law_parts"] [] := (F_law_made W).bindsN fun _ _ _ _ _ _ us hl => match us, hl with | [_], _ => rfl
abbrev a_law_has (K : PySem.W.Frag) : Addr := He.ga K "_law_has"
abbrev f_law_has (K : PySem.W.Frag) : FuncData := fdOf K ("_law_has", none)
theorem F_law_has : FunD K "_law_has" "_law_has" (defArgs s_law_has) (defBody s_law_has) (defScope s_law_has) [] [] (a_law_has K) (f_law_has K) := fd_of W.s.d 43 rfl
theorem b_law_has : Binds K (f_law_has K) ["_law_steps", "_law_ending", "_law_distance"] [] := (F_law_has W).bindsN fun _ _ _ _ _ _ us hl => match us, hl with | [_, _, _], _ => rfl
abbrev a_law_wide (K : PySem.W.Frag) : Addr := He.ga K "_law_wide"
abbrev f_law_wide (K : PySem.W.Frag) : FuncData := fdOf K ("_law_wide", none)
theorem F_law_wide : FunD K "_law_wide" "_law_wide" (defArgs s_law_wide) (defBody s_law_wide) (defScope s_law_wide) [] [] (a_law_wide K) (f_law_wide K) := fd_of W.s.d 44 rfl
theorem b_law_wide : Binds K (f_law_wide K) ["_law_well_here"] [] := (F_law_wide W).bindsN fun _ _ _ _ _ _ us hl => match us, hl with | [_], _ => rfl
abbrev a_law_fails (K : PySem.W.Frag) : Addr := He.ga K "_law_fails"
abbrev f_law_fails (K : PySem.W.Frag) : FuncData := fdOf K ("_law_fails", none)
theorem F_law_fails : FunD K "_law_fails" "_law_fails" (defArgs s_law_fails) (defBody s_law_fails) (defScope s_law_fails) [] [] (a_law_fails K) (f_law_fails K) := fd_of W.s.d 45 rfl
theorem b_law_fails : Binds K (f_law_fails K) ["_law_parts", "_law_services", "_law_client", "_law_slot"] [] := (F_law_fails W).bindsN fun _ _ _ _ _ _ us hl => match us, hl with | [_, _, _, _], _ => rfl
abbrev a_law_client_right (K : PySem.W.Frag) : Addr := He.ga K "_law_client_right"
abbrev f_law_client_right (K : PySem.W.Frag) : FuncData := fdOf K ("_law_client_right", none)
theorem F_law_client_right : FunD K "_law_client_right" "_law_client_right" (defArgs s_law_client_right) (defBody s_law_client_right) (defScope s_law_client_right) [] [] (a_law_client_right K) (f_law_client_right K) := fd_of W.s.d 46 rfl
theorem b_law_client_right : Binds K (f_law_client_right K) ["_law_well_here", "_law_parts", "_law_services", "_law_client", "_law_told", "_law_made_here"] [] := (F_law_client_right W).bindsN fun _ _ _ _ _ _ us hl => match us, hl with | [_, _, _, _, _, _], _ => rfl
abbrev a_law_right (K : PySem.W.Frag) : Addr := He.ga K "_law_right"
abbrev f_law_right (K : PySem.W.Frag) : FuncData := fdOf K ("_law_right", none)
theorem F_law_right : FunD K "_law_right" "_law_right" (defArgs s_law_right) (defBody s_law_right) (defScope s_law_right) [] [] (a_law_right K) (f_law_right K) := fd_of W.s.d 47 rfl
theorem b_law_right : Binds K (f_law_right K) ["_law_well_here"] [] := (F_law_right W).bindsN fun _ _ _ _ _ _ us hl => match us, hl with | [_], _ => rfl
abbrev a_law (K : PySem.W.Frag) : Addr := He.ga K "law"
abbrev f_law (K : PySem.W.Frag) : FuncData := fdOf K ("law", none)
theorem F_law : FunD K "law" "law" (defArgs s_law) (defBody s_law) (defScope s_law) [] [] (a_law K) (f_law K) := fd_of W.s.d 48 rfl
theorem b_law : Binds K (f_law K) ["_law_script"] [] := (F_law W).bindsN fun _ _ _ _ _ _ us hl => match us, hl with | [_], _ => rfl
end
end RW
end

section
set_option Elab.async false
set_option linter.all false
set_option maxRecDepth 100000
set_option maxHeartbeats 4000000
/-! ### rules of our own: xs.extend(a tuple), d != {}, d.values() as a value, min and sorted of it -/
namespace RW
open PySem L2
section
set_option maxRecDepth 8000
open PySem.AutoSeq1 in
theorem extend_tuple (l : Addr) (items : Array Value) (n : Nat) (b : Addr) (items2 : Array Value) (n2 : Nat) (dd : Option Addr) (ss : Array (Option Value)) (hs0 : ¬(!items.isEmpty && Builtin.List.listTooLong (items.size + items2.size)) = true) (hs1 : items.size ≤ sizeLine) (hs2 : items.size + items2.size ≤ sizeLine + 1) :
    Meets (Builtin.«list.extend» ⟨[.ref l, .ref b], []⟩) (fun _ R s => s.heap.get? l = some { cls := .type "list", dict := none, data := .seq items n, slots := #[] } ∧ s.heap.get? b = some { cls := .type "tuple", dict := dd, data := .seq items2 n2, slots := ss } ∧ R (.ok (.ret Value.none)) { s with heap := s.heap.update l (Obj.mapSeq fun x => x ++ items2), toks := s.toks }) :=
  .of_wp fun prog w A R s h => by
    obtain ⟨hp, g, d, tk, os⟩ := s; obtain ⟨hl, hb, h⟩ := h; have f1 := idx_int; have f2 := sub_tuple_tuple; have f3 := sub_list_list; have f4 := sub_tuple_list; have f5 := sub_list_tuple;
    have hz' : (items ++ items2).size ≤ sizeLine + 1 := by rw [Array.size_append]; exact hs2
    wp_walk using (wpAny_updateSeq hl rfl (hz := hs1) (_hz' := hz')), wpAny_loadPart' hl, wpAny_loadPart' hb; exact ⟨_, rfl, h⟩
end
variable {X : Cx}
def rExtendT (K : PySem.W.Frag) : V → List V → Hp → VK → Prop := fun x vs H Q => ∃ l b xs zs, x = .ref l ∧ vs = [.ref b] ∧ H l = some (.lst xs) ∧ SqT K H b zs ∧ xs.length + zs.length ≤ sizeLine ∧ Q .non (upd H l (.lst (xs ++ zs)))
theorem mt_extendT : MtM X "list.extend" (rExtendT X.K) := by
  intro pins s σ H x vs v us Q I rx rv h
  obtain ⟨l, b, xs, zs, rfl, rfl, hH, hB, hz, q⟩ := h
  cases rx
  obtain ⟨u, rfl, ru⟩ := rv.one
  cases ru
  obtain ⟨z, its, n, r, hl, e⟩ := I.lstM hH
  obtain ⟨its2, r2, ⟨o, e2, c2, n2, d2⟩, z2⟩ := I.tuple hB
  have hl2 : zs.length = its2.length := r2.length
  have hsz : its.toArray.size + its2.toArray.size ≤ sizeLine := by rw [List.size_toArray, List.size_toArray]; omega
  have hlong : ¬ (!its.toArray.isEmpty && Builtin.List.listTooLong (its.toArray.size + its2.toArray.size)) = true := by
    rw [notLongL hsz, Bool.and_false]
    exact Bool.false_ne_true
  obtain ⟨oc, od, dt, sl⟩ := o
  simp only at c2 d2
  subst c2 d2
  refine call_meets F.slot_list_extend ⟨_, e, rfl⟩ F.entry_list_extend (F.args_list_extend_2 _ _)
    (extend_tuple l its.toArray n b its2.toArray n2 od sl hlong (by rw [List.size_toArray]; omega) (by omega)) ⟨e, e2, ?_⟩
  refine ⟨.non, _, I.lset (its' := its ++ its2) hH e (by simp) (r.append r2) ?_, rfl, q⟩
  rw [List.length_append]
  omega
/-- d != {} -/
def rNeE : R2 := fun x y H Q => ∃ a b ks, x = .ref a ∧ y = .ref b ∧ H a = some (.dK ks) ∧ H b = some (.dK []) ∧ Q (.bl (!ks.isEmpty)) H
theorem op_neE (hu : X.A.units < cLine) : OpR X (compareOp .NotEq) rNeE := by
  intro pins s σ H x y v u Q I rx ry h
  obtain ⟨a, b, ks, rfl, rfl, ea, eb, q⟩ := h
  obtain rfl : v = Value.ref a := rx
  obtain rfl : u = Value.ref b := ry
  obtain ⟨_, ya, va, ra, da⟩ := (show ObjOk X.prog X.w H s.heap a (.dK ks) from I.hok a _ ea)
  obtain ⟨_, yb, vb, rb, db⟩ := (show ObjOk X.prog X.w H s.heap b (.dK []) from I.hok b _ eb)
  have hb : vb = [] := by cases rb; rfl
  subst hb
  have hr : ks.isEmpty = va.isEmpty := by cases ra <;> rfl
  refine PySem.W.keq_ne (knd := mixKind X.prog X.w) (r := true) ya yb da db hu (fun hl => ?_) (fin_bl I q ?_)
  · have : va = [] := List.length_eq_zero_iff.mp hl
    subst this
    exact .nil
  · rw [hr]
    cases va <;> rfl
/-- the view of a dict's values -/
def viewO (v d : Addr) : HO := .ext fun h => h.get? v = some { cls := .type "dict_values", data := .fields #[.ref d] }
def tVals (td : TE) : TE := fun σ H Q => td σ H fun x H1 => ∃ d kvs, x = .ref d ∧ Rd H1 d (.dK kvs) ∧ ∀ v, H1 v = none → Q (.ref v) (upd H1 v (viewO v d))
theorem pe_values {e : Expr} {td : TE} {apos cpos : Pos} (he : PE X e td) (hbase : attributeBase e "values" X.env (eval e X.env) = eval e X.env := by rfl) (hline : (apos.endLine == cpos.line) = true := by rfl) : PE X (.Call (.Attribute e "values" apos) [] [] cpos) (tVals td) := by
  refine ⟨fun pins s σ H Q I h => ?_⟩
  refine wpAny_Call_method (T := "dict") (id := "dict.values") hbase rfl hline F.plainAttrs_dict F.slot_dict_values F.type_dict_values (thn (he.run pins s σ H _ I h) fun u s1 ⟨x, H1, I1, rx, d, kvs, ex, hd, q⟩ => ?_)
  subst ex
  obtain rfl : u = Value.ref d := rx
  obtain ⟨_, hs, vs, kv, hm⟩ := dk_rd I1.hok hd
  refine ⟨hm.typeIs, hm.mapOf.noDict, ?_⟩
  show wpAny _ _ (callWith cpos (.builtin "dict.values") [.ref d] [] []) _ X.xe s1
  refine method_meetsIn F.slot_dict_values F.entry_dict_values rfl (PySem.evalArgs_none ⟨rfl, hm.typeIs, F.args_dict_values_1 _, _, meets_dict_values (mixKind X.prog X.w) d hs, ⟨vs, hm⟩, ?_⟩)
  refine ⟨.ref s1.heap.objs.size, _, I1.laid (o := viewO _ d) (t' := s1.toks) (fun b o q => Heap.get?_push_of_some _ q) (Nat.le_refl _) ⟨Heap.get?_push_size _ rfl, ⟨_, Heap.get?_push_size _ rfl⟩, fun h1 h2 p k => k _ p⟩, rfl, q _ (I1.hok.fresh (Nat.le_refl _))⟩
/-- the ints of a dict's values -/
def valI (kvs : List (Key × V)) (ns : List Int) : Prop := kvs.map (·.2) = ns.map V.int
theorem vals_int {kvs : List (Key × V)} {vs : List (Key × Value)} (r : KV kvs vs) {ns : List Int} (h : valI kvs ns) {i : Nat} {v : Value} (e : ∃ k, vs[i]? = some (k, v)) : ∃ t, v = .int (ns.getD i 0) t := by
  obtain ⟨k, e⟩ := e
  have hl : kvs.length = vs.length := Paired.length r
  have hi := (List.getElem?_eq_some_iff.mp e).1
  have e1 : kvs[i]? = some (kvs[i]'(by omega)) := List.getElem?_eq_getElem (by omega)
  obtain ⟨u, e2, ru⟩ := kv_get r (k := (kvs[i]'(by omega)).1) (v := (kvs[i]'(by omega)).2) e1
  rw [e] at e2
  have e3 : v = u := congrArg Prod.snd (Option.some.inj e2)
  subst e3
  have e4 : (kvs.map (·.2))[i]? = some (kvs[i]'(by omega)).2 := by rw [List.getElem?_map, e1]; rfl
  rw [h, List.getElem?_map] at e4
  cases e5 : ns[i]? with
  | none => rw [e5] at e4; cases e4
  | some n =>
    rw [e5] at e4
    have e6 : V.int n = (kvs[i]'(by omega)).2 := Option.some.inj e4
    rw [← e6] at ru
    obtain ⟨t, rfl⟩ := ru
    refine ⟨t, ?_⟩
    rw [List.getD_eq_getElem?_getD, e5]
    rfl
theorem valI_len {kvs : List (Key × V)} {ns : List Int} (h : valI kvs ns) : kvs.length = ns.length := by
  have := congrArg List.length h
  simpa using this
def rMinV : List V → Hp → VK → Prop := fun xs H Q => ∃ v d kvs ns, xs = [.ref v] ∧ H v = some (viewO v d) ∧ Rd H d (.dK kvs) ∧ valI kvs ns ∧ 0 < ns.length ∧ ∀ m, m ∈ ns → (∀ y, y ∈ ns → m ≤ y) → Q (.int m) H
theorem cr_minV (hc : X.calm = true) : CallR X (.builtin "min") rMinV := by
  intro pins s σ H xs us Q I r h
  obtain ⟨v, d, kvs, ns, rfl, hv, hd, hn, hp, q⟩ := h
  rw [Vals.ref1 r]
  obtain ⟨z, hs, vs, kv, hm⟩ := dk_rd I.hok hd
  obtain ⟨ep, hat⟩ := hm.dictAt
  obtain ⟨h1, _, _⟩ := (show ObjOk X.prog X.w H s.heap v (viewO v d) from I.hok v _ hv)
  have hl : kvs.length = vs.length := Paired.length kv
  have hl2 := valI_len hn
  have hok : s.heap.IsValuesView v d ∧ s.heap.DictAt (mixKind X.prog X.w) d vs ep := ⟨⟨_, h1, rfl, rfl⟩, hat⟩
  have K := PySem.W.kdl_values (prog := X.prog) (w := X.w) (r := v) (d := d) (knd := mixKind X.prog X.w) (kvs := vs) (ep := ep)
  have hh : X.A.in1.handled = none := I.ok.hd hc
  obtain ⟨oI, St, hit, W, st⟩ := K.iter X.A.in1 s hh hok
  refine call_min_walk (hit _ _ ⟨s.heap.objs.size, _, _, _, _, _, _, rfl, W, st, fun b hb => ?_, by omega, CmpOf.ints_lt (fun i => ns.getD i 0) (fun i u e => vals_int kv hn e), fun u h' tk hP hk => ?_⟩)
  · show b < (s.heap.push oI).objs.size
    rw [Heap.size_push]
    rcases List.mem_cons.mp hb with e | hb
    · rw [e]; exact Nat.lt_succ_self _
    · rw [List.mem_singleton.mp hb]; exact Nat.lt_succ_of_lt (K.there _ hok).2
  · have hk' : ∀ b o, s.heap.get? b = some o → h'.get? b = some o := fun b o e =>
      hk b o (fun hI => absurd (Heap.lt_size e) (by rw [List.mem_singleton.mp hI]; exact Nat.lt_irrefl _)) (Heap.get?_push_of_some _ e)
    obtain ⟨t, rfl⟩ := vals_int kv hn hP
    obtain ⟨b1, b2⟩ := argBest_lt (fun i => ns.getD i 0) (vs.length - 1)
    refine ⟨.int _, H, I.kept hk', ⟨_, rfl⟩, q _ ?_ fun y hy => ?_⟩
    · exact PySem.getD_mem (by omega)
    · obtain ⟨j, hj, rfl⟩ := PySem.mem_getD hy
      exact b2 j (by omega)
def rSortedV : List V → Hp → VK → Prop := fun xs H Q => ∃ v d kvs ns, xs = [.ref v] ∧ H v = some (viewO v d) ∧ Rd H d (.dK kvs) ∧ valI kvs ns ∧ ns.length < 64 ∧
    ∀ (ys : List Int) (p : Addr), ys.Perm ns → ys.Pairwise (· ≤ ·) → H p = none → Q (.ref p) (upd H p (.lst (ys.map V.int)))
theorem cr_sortedV (hcalm : X.calm = true) : CallR X (.builtin "sorted") rSortedV := by
  intro pins s σ H xs us Q I r q
  obtain ⟨v, d, kvs, ks, ex, hv, hd, hn, h64, q⟩ := q
  subst ex
  rw [Vals.ref1 r]
  obtain ⟨z, hs, vs, kv, dd⟩ := dk_rd I.hok hd
  obtain ⟨ep, hat⟩ := dd.dictAt
  obtain ⟨h1, _, _⟩ := (show ObjOk X.prog X.w H s.heap v (viewO v d) from I.hok v _ hv)
  have hok : s.heap.IsValuesView v d ∧ s.heap.DictAt (mixKind X.prog X.w) d vs ep := ⟨⟨_, h1, rfl, rfl⟩, hat⟩
  have hl0 : kvs.length = vs.length := Paired.length kv
  have hl2 := valI_len hn
  have hl : vs.length = ks.length := by omega
  have h16 : vs.length ≤ sizeLine := by rw [hl, sizeLine_eq]; omega
  refine Calls.call_function_entry PyProof.Rows.kind_sorted PyProof.Rows.plain_sorted PyProof.Rows.entry_sorted (PyProof.Rows.args_sorted1 _) ?_
  unfold Builtin.«sorted»
  refine wpAny_bind (m := checkCount "sorted" 1 1 _) (wpAny_pure ?_)
  refine wpAny_bind (PySem.W.kdu_collect (A := X.A.in1) (PySem.W.kdl_values (prog := X.prog) (w := X.w) (r := v) (d := d) (knd := mixKind X.prog X.w) (kvs := vs) (ep := ep)) (I.ok.hd hcalm) hok h16 fun h' tk acc hk hacc => ?_)
  have hal : acc.toList.length = ks.length := by rw [Array.length_toList, hacc.1, hl]
  have hS : PyProof.Rows.IntsAre acc.toList ks := L2.ints_each hal fun j u e => by
    obtain ⟨t, rfl⟩ := vals_int kv hn (hacc.2 j u (by rw [← Array.getElem?_toList]; exact e))
    have hj := (List.getElem?_eq_some_iff.mp e).1
    exact ⟨ks.getD j 0, t, by rw [List.getD_eq_getElem?_getD, List.getElem?_eq_getElem (by omega)]; rfl, rfl⟩
  have I1 : Inv X pins σ H { s with heap := h', toks := tk } := I.kept hk
  refine wpAny_bind (wpAny_newList ?_ (by rw [hal, sizeLine_eq]; omega))
  have hoL : (h'.push (PyProof.Rows.seqObj "list" acc.toList.toArray 0)).get? h'.objs.size = some (PyProof.Rows.seqObj "list" acc.toList.toArray 0) := Heap.get?_push_size _ rfl
  show wpAny _ _ _ _ _ { s with heap := h'.push (PyProof.Rows.seqObj "list" acc.toList.toArray 0), toks := tk }
  refine wpAny_bind (wpAny_holding (wpAny_call_entry PyProof.Rows.slot_list_sort ⟨_, hoL, rfl⟩ PyProof.Rows.entry_list_sort
    (PyProof.Rows.list_sort_tree (s := { s with heap := h'.push (PyProof.Rows.seqObj "list" acc.toList.toArray 0), toks := tk }) hoL hS (by rw [hal]; exact h64) fun out ys g1 g2 g3 => ⟨_, rfl, ?_⟩) (PyProof.Rows.args_list_sort _)))
  obtain ⟨e', he'⟩ := PyProof.Rows.sortedHeap_at (vs := acc.toList) (out := out) hoL
  have hlen : (ys.map V.int).length ≤ sizeLine := by
    rw [List.length_map, g2.length_eq]
    exact Nat.le_trans (Nat.le_of_lt h64) (by decide)
  refine wpAny_pure ⟨_, rfl, .ref h'.objs.size, upd H h'.objs.size (.lst (ys.map V.int)), I1.laid (t' := tk) (fun b u e => ?_) (Nat.le_refl _)
    (show ObjOk X.prog X.w _ _ _ (.lst (ys.map V.int)) from ⟨hlen, out.toList, e', vals_of_ints g1, by rw [Array.toArray_toList]; exact he'⟩), rfl, q ys _ g2 g3 (I1.hok.fresh (Nat.le_refl _))⟩
  have hb : b < h'.objs.size := Heap.lt_size e
  rw [PyProof.Rows.sortedHeap_old (Nat.ne_of_lt hb) (by rw [PyProof.Rows.size_push']; exact Nat.lt_succ_of_lt hb)]
  exact Heap.get?_push_of_some _ e
end RW
end

section
set_option Elab.async false
set_option linter.all false
set_option maxRecDepth 100000
set_option maxHeartbeats 4000000
/-! ### what readings evaluate to, further -/
namespace RW
open PySem L2 Evl
/-! rules that name the written part, for a comprehension's block -/
section
variable {X : Cx} {K : PySem.W.Frag}
theorem fldK {e : Expr} {ta : TE} {f : Str} {pos : Pos} (he : PE X e ta) (hb : attributeBase e f X.env (eval e X.env) = eval e X.env) (hK : X.K = K := by rfl) : PE X (.Attribute e f pos) (tFld K ta f) := by
  subst hK
  exact pe_fld he hb
theorem ixLK (hK : X.K = K := by rfl) : IxR X (rIxL K) := by
  subst hK
  exact ix_list
theorem ixTK (hK : X.K = K := by rfl) : IxR X (rIxT K) := by
  subst hK
  exact ix_tup
theorem gtupK {es : List Expr} {k : Nat} {t : TGs} {n : Nat} {pos : Pos} (hc : X.calm = true) (h : PGs X es t) (hK : X.K = K := by rfl)
    (hn : (assignEach es X.env).length = n := by rfl) (hst : (assignEach es X.env).findIdx? (·.1) = none := by rfl) : PG X (.Tuple es k pos) (gTup K n t) := by
  subst hK
  exact pg_tup hc h hn hst
end
/-- a new object; an object, new or not -/
def EvN (te : TE) (σ : L2.St) (H : Hp) (o : HO) : Prop := ∀ H1, Ex H H1 → ∀ Q : VK, (∀ p H2, H1 p = none → Ex H1 H2 → H2 p = some o → Q (.ref p) H2) → te σ H1 Q
def EvH (te : TE) (σ : L2.St) (H : Hp) (o : HO) : Prop := ∀ H1, Ex H H1 → ∀ Q : VK, (∀ p H2, Ex H1 H2 → H2 p = some o → Q (.ref p) H2) → te σ H1 Q
/-- what a def hands back: a value, a new object -/
def SpN (sp : Sp) (vs : List V) (H : Hp) (o : HO) : Prop := ∀ H1, Ex H H1 → ∀ Q : VK, (∀ p H2, H1 p = none → Ex H1 H2 → H2 p = some o → Q (.ref p) H2) → ∀ E : XK, sp vs H1 Q E
def RetN (o : HO) (H : Hp) (Q : VK) : Prop := ∀ p H2, H p = none → Ex H H2 → H2 p = some o → Q (.ref p) H2
section
variable {K : PySem.W.Frag} {σ : L2.St} {H H' : Hp} {ta tb tc te tx : TE} {t u : TT} {x y z v : V} {r r' : R2} {o : HO} {xs ys : List V}
theorem EvN.mono (e : Ex H H') (h : EvN te σ H o) : EvN te σ H' o := fun H1 a Q q => h H1 (e.trans a) Q q
theorem EvH.mono (e : Ex H H') (h : EvH te σ H o) : EvH te σ H' o := fun H1 a Q q => h H1 (e.trans a) Q q
theorem EvN.h (h : EvN te σ H o) : EvH te σ H o := fun H1 e Q q => h H1 e Q fun p H2 _ e2 hp => q p H2 e2 hp
theorem eh_of {a : Addr} (h : Ev te σ H (.ref a)) (ha : H a = some o) : EvH te σ H o := fun H1 e Q q => h H1 e Q fun H2 e2 => q a H2 e2 (e2 _ _ (e _ _ ha))
/-- then .. -/
theorem ev_go (h : Ev te σ H v) {Q : VK} (k : ∀ H2, Ex H H2 → Q v H2) : te σ H Q := h H (Ex.refl H) Q k
theorem en_go (h : EvN te σ H o) {Q : VK} (k : ∀ p H2, H p = none → Ex H H2 → H2 p = some o → Q (.ref p) H2) : te σ H Q := h H (Ex.refl H) Q k
theorem eh_go (h : EvH te σ H o) {Q : VK} (k : ∀ p H2, Ex H H2 → H2 p = some o → Q (.ref p) H2) : te σ H Q := h H (Ex.refl H) Q k
theorem et_go {b : Bool} (h : EvT t σ H b) {Q : Bool → Hp → Prop} (k : ∀ H2, Ex H H2 → Q b H2) : t σ H Q := h H (Ex.refl H) Q k
theorem ea_go {ta : TA} {vs : List V} (h : EvA ta σ H vs) {Q : List V → Hp → Prop} (k : ∀ H2, Ex H H2 → Q vs H2) : ta σ H Q := h H (Ex.refl H) Q k
/-- fields -/
theorem ev_fld {a C dx : Addr} {fs : List (Str × V)} {f : Str} (h : Ev ta σ H (.ref a)) (ho : H a = some (.ins C dx fs)) (c : Cls K C) (n : NoAttr K C f) (l : fs.lookup f = some v) : Ev (tFld K ta f) σ H v := fun H1 e Q q =>
  h H1 e _ fun H2 e2 => ⟨a, C, dx, fs, v, rfl, e2 _ _ (e _ _ ho), c, n, l, q H2 e2⟩
/-- methods -/
theorem ev_meth {a C dx : Addr} {fs : List (Str × V)} {m : Str} {sp : Sp} {dvs vs : List V} {E : XK} {t : TA} (h : Ev ta σ H (.ref a)) (ho : H a = some (.ins C dx fs)) (l : fs.lookup m = none) (ha : EvA t σ H vs) (hs : SpV sp (.ref a :: (vs ++ dvs)) H z) : Ev (tMeth C m sp dvs E ta t) σ H z := fun H1 e Q q =>
  h H1 e _ fun H2 e2 => ⟨a, dx, fs, rfl, e2 _ _ (e _ _ ho), l, ha H2 (e.trans e2) _ fun H3 e3 => hs H3 ((e.trans e2).trans e3) Q (fun H4 e4 => q H4 ((e2.trans e3).trans e4)) E⟩
theorem en_meth {a C dx : Addr} {fs : List (Str × V)} {m : Str} {sp : Sp} {dvs vs : List V} {E : XK} {t : TA} (h : Ev ta σ H (.ref a)) (ho : H a = some (.ins C dx fs)) (l : fs.lookup m = none) (ha : EvA t σ H vs) (hs : SpN sp (.ref a :: (vs ++ dvs)) H o) : EvN (tMeth C m sp dvs E ta t) σ H o := fun H1 e Q q =>
  h H1 e _ fun H2 e2 => ⟨a, dx, fs, rfl, e2 _ _ (e _ _ ho), l, ha H2 (e.trans e2) _ fun H3 e3 => hs H3 ((e.trans e2).trans e3) Q (fun p H4 hp e4 h4 => q p H4 (fresh_back (e2.trans e3) hp) ((e2.trans e3).trans e4) h4) E⟩
theorem en_call {sp : Sp} {dvs vs : List V} {E : XK} {ta : TA} (h : EvA ta σ H vs) (hs : SpN sp (vs ++ dvs) H o) : EvN (tCall sp dvs E ta) σ H o := fun H1 e Q q =>
  h H1 e _ fun H2 e2 => hs H2 (e.trans e2) Q (fun p H3 hp e3 h3 => q p H3 (fresh_back e2 hp) (e2.trans e3) h3) E
/-- tests -/
theorem ev_chain {b c : Bool} (ha : Ev ta σ H x) (hb : Ev tb σ H y) (h1 : RV r x y H (.bl b)) (hc : b = true → Ev tc σ H z) (h2 : b = true → RV r' y z H (.bl c)) : Ev (tChain r r' ta tb tc) σ H (.bl (b && c)) := fun H1 e Q q =>
  ha H1 e _ fun H2 e2 => hb H2 (e.trans e2) _ fun H3 e3 => h1 H3 ((e.trans e2).trans e3) _ fun H4 e4 => ⟨b, rfl, by
    cases b with
    | false => exact q H4 ((e2.trans e3).trans e4)
    | true => exact hc rfl H4 (((e.trans e2).trans e3).trans e4) _ fun H5 e5 => h2 rfl H5 ((((e.trans e2).trans e3).trans e4).trans e5) Q fun H6 e6 => q H6 ((((e2.trans e3).trans e4).trans e5).trans e6)⟩
theorem rv_lt {i j : Int} : RV (rI0 fun i j => .bl (decide (i < j))) (.int i) (.int j) H (.bl (decide (i < j))) := rv_I0
theorem rv_isN : RV (fun x y H Q => y = .non ∧ Q (.bl (decide (x = .non))) H) x .non H (.bl (decide (x = .non))) := fun H1 _ _ q => ⟨rfl, q H1 (Ex.refl H1)⟩
theorem rv_notN : RV (fun x y H Q => y = .non ∧ Q (.bl (!decide (x = .non))) H) x .non H (.bl (!decide (x = .non))) := fun H1 _ _ q => ⟨rfl, q H1 (Ex.refl H1)⟩
theorem rv_eqI {i j : Int} : RV rEq (.int i) (.int j) H (.bl (decide (i = j))) := fun H1 _ Q q => ⟨rfl, by
  have e : decide (V.int i = V.int j) = decide (i = j) := by
    by_cases h : i = j
    · simp [h]
    · simp [h]
  rw [e]
  exact q H1 (Ex.refl H1)⟩
theorem rv_neI {i j : Int} : RV rNe (.int i) (.int j) H (.bl (!decide (i = j))) := fun H1 _ Q q => ⟨rfl, by
  have e : decide (V.int i = V.int j) = decide (i = j) := by
    by_cases h : i = j
    · simp [h]
    · simp [h]
  rw [e]
  exact q H1 (Ex.refl H1)⟩
theorem rv_eqS {i j : Str} : RV rEq (.str i) (.str j) H (.bl (decide (i = j))) := fun H1 _ Q q => ⟨rfl, by
  have e : decide (V.str i = V.str j) = decide (i = j) := by
    by_cases h : i = j
    · simp [h]
    · simp [h]
  rw [e]
  exact q H1 (Ex.refl H1)⟩
theorem rc_isi {c : V} {t u : Value} {b : Bool} (k : ClsV c u) (ty : ∀ H1, Ex H H1 → TyX K H1 x t) (e : PySem.W.kitOne K t u = some b) : RC (rIsi K) [x, c] H (.bl b) := fun H1 a Q q => ⟨x, c, t, u, b, rfl, k, ty H1 a, e, q H1 (Ex.refl H1)⟩
/-- arithmetic: op_mod, op_fdivW by positive numbers -/
theorem rv_mod {i j : Int} (h : 0 < j) : RV (rI (fun _ j => 0 < j) fun i j => .int (i % j)) (.int i) (.int j) H (.int (i % j)) := rv_I h
theorem rv_div {i j : Int} (h : CDivW i j) : RV (rI CDivW fun i j => .int (i / j)) (.int i) (.int j) H (.int (i / j)) := rv_I h
theorem rv_mul {i j : Int} (h : CMul i j) : RV (rI CMul fun i j => .int (i * j)) (.int i) (.int j) H (.int (i * j)) := rv_I h
/-- lists and tuples -/
theorem ev_ixL {i : Int} (h : EvH ta σ H (.lst xs)) (hi : Ev tb σ H (.int i)) (ha : atI xs i = some v) : Ev (tOp (rIxL K) ta tb) σ H v := fun H1 e Q q =>
  h H1 e _ fun p H2 e2 hp => hi H2 (e.trans e2) _ fun H3 e3 => ⟨p, xs, i, v, rfl, rfl, sq_of (e3 _ _ hp), ha, q H3 (e2.trans e3)⟩
theorem ev_ixT {i : Int} (h : EvH ta σ H (.tup xs)) (hi : Ev tb σ H (.int i)) (ha : atI xs i = some v) : Ev (tOp (rIxT K) ta tb) σ H v := fun H1 e Q q =>
  h H1 e _ fun p H2 e2 hp => hi H2 (e.trans e2) _ fun H3 e3 => ⟨p, xs, i, v, rfl, rfl, st_of (e3 _ _ hp), ha, q H3 (e2.trans e3)⟩
/-- an item that is an object -/
theorem eh_ixL {i : Int} {a : Addr} (h : EvH ta σ H (.lst xs)) (hi : Ev tb σ H (.int i)) (ha : atI xs i = some (.ref a)) (ho : H a = some o) : EvH (tOp (rIxL K) ta tb) σ H o := eh_of (ev_ixL h hi ha) ho
theorem ev_lenL (h : EvH ta σ H (.lst xs)) : Ev (tCB (fun xs H Q => ∃ p ys, xs = [.ref p] ∧ (SqL K H p ys ∨ SqT K H p ys) ∧ Q (.int ys.length) H) (tCons ta tNil)) σ H (.int xs.length) := fun H1 e Q q =>
  h H1 e _ fun p H2 e2 hp => ⟨p, xs, rfl, .inl (sq_of hp), q H2 e2⟩
theorem ev_lenT (h : EvH ta σ H (.tup xs)) : Ev (tCB (fun xs H Q => ∃ p ys, xs = [.ref p] ∧ (SqL K H p ys ∨ SqT K H p ys) ∧ Q (.int ys.length) H) (tCons ta tNil)) σ H (.int xs.length) := fun H1 e Q q =>
  h H1 e _ fun p H2 e2 hp => ⟨p, xs, rfl, .inr (st_of hp), q H2 e2⟩
theorem en_list (h : EvH ta σ H (.lst xs)) : EvN (tCB (fun xs H Q => ∃ p ys, xs = [.ref p] ∧ (SqL K H p ys ∨ SqT K H p ys) ∧ ∀ l, H l = none → Q (.ref l) (upd H l (.lst ys))) (tCons ta tNil)) σ H (.lst xs) := fun H1 e Q q =>
  h H1 e _ fun p H2 e2 hp => ⟨p, xs, rfl, .inl (sq_of hp), fun l hl => q l _ (fresh_back e2 hl) (e2.trans (Ex.new hl)) upd_same⟩
theorem en_lst {ta : TA} {vs : List V} (h : EvA ta σ H vs) (hl : vs.length ≤ 100000) : EvN (tLst ta) σ H (.lst vs) := fun H1 e _ q =>
  h H1 e _ fun H2 e2 => ⟨sz_of hl, fun p hp => q p _ (fresh_back e2 hp) (e2.trans (Ex.new hp)) upd_same⟩
theorem en_tup {ta : TA} {vs : List V} (h : EvA ta σ H vs) (hl : vs.length ≤ 100000) : EvN (tTup ta) σ H (.tup vs) := fun H1 e _ q =>
  h H1 e _ fun H2 e2 => ⟨sz_of hl, fun p hp => q p _ (fresh_back e2 hp) (e2.trans (Ex.new hp)) upd_same⟩
theorem en_cat (ha : EvH ta σ H (.lst xs)) (hb : EvH tb σ H (.lst ys)) (hl : xs.length + ys.length ≤ 100000) : EvN (tOp rCat ta tb) σ H (.lst (xs ++ ys)) := fun H1 e Q q =>
  ha H1 e _ fun a H2 e2 h2 => hb H2 (e.trans e2) _ fun b H3 e3 h3 => ⟨a, b, xs, ys, rfl, rfl, e3 _ _ h2, h3, sz_of hl, fun p hp => q p _ (fresh_back (e2.trans e3) hp) ((e2.trans e3).trans (Ex.new hp)) upd_same⟩
theorem en_sl {tl th : TO} {lo hi : Option Int} (h : EvH te σ H (.lst xs)) (h1 : EvO tl σ H lo) (h2 : EvO th σ H hi) : EvN (tSl (rSlL K) te tl th) σ H (.lst (cutV xs lo hi)) := fun H1 e Q q =>
  h H1 e _ fun p H2 e2 hp => h1 H2 (e.trans e2) _ fun H3 e3 => h2 H3 ((e.trans e2).trans e3) _ fun H4 e4 =>
    ⟨p, xs, rfl, sq_of (e4 _ _ (e3 _ _ hp)), fun l hl => q l _ (fresh_back ((e2.trans e3).trans e4) hl) (((e2.trans e3).trans e4).trans (Ex.new hl)) upd_same⟩
/-- calls of built-ins with a list -/
theorem ev_max {ns : List Int} (h : EvH ta σ H (.lst (ns.map V.int))) (hn : ns ≠ []) : Ev (tCB (rMax K) (tCons ta tNil)) σ H (.int (RS.maxL ns)) := fun H1 e Q q =>
  h H1 e _ fun p H2 e2 hp => ⟨p, ns, rfl, sq_of hp, List.length_pos_iff.mpr hn, fun m h1 h2 => by rw [← RS.maxL_eq h1 h2]; exact q H2 e2⟩
theorem ev_sum {ns : List Int} (h : EvH ta σ H (.lst (ns.map V.int))) : Ev (tCB (rSum K) (tCons ta tNil)) σ H (.int ns.sum) := fun H1 e Q q =>
  h H1 e _ fun p H2 e2 hp => ⟨p, ns, rfl, sq_of hp, q H2 e2⟩
theorem ev_all {bs : List Bool} (h : EvH ta σ H (.lst (bs.map V.bl))) : Ev (tCB (rAll K) (tCons ta tNil)) σ H (.bl (bs.all id)) := fun H1 e Q q =>
  h H1 e _ fun p H2 e2 hp => ⟨p, bs, rfl, sq_of hp, q H2 e2⟩
theorem rc_int {i : Int} : RC (fun xs H Q => (∃ i, xs = [.int i] ∧ Q (.int i) H) ∨ ∃ k, xs = [.bl k] ∧ Q (.int (if k then 1 else 0)) H) [.int i] H (.int i) := fun H1 _ _ q => .inl ⟨i, rfl, q H1 (Ex.refl H1)⟩
theorem rc_intB {k : Bool} : RC (fun xs H Q => (∃ i, xs = [.int i] ∧ Q (.int i) H) ∨ ∃ k, xs = [.bl k] ∧ Q (.int (if k then 1 else 0)) H) [.bl k] H (.int (if k then 1 else 0)) := fun H1 _ _ q => .inr ⟨k, rfl, q H1 (Ex.refl H1)⟩
/-- dicts -/
theorem ev_dget {td ty : TE} {kvs : List (Key × V)} {k : Key} (hd : EvH td σ H (.dK kvs)) (hy : Ev ty σ H (kV k)) (hv : valV kvs k = some v) : Ev (tDGet td ty) σ H v := fun H1 e Q q =>
  hd H1 e _ fun p H2 e2 hp => hy H2 (e.trans e2) _ fun H3 e3 => ⟨p, v, rfl, by rw [← hv]; exact DGet.k (e3 _ _ hp), q H3 (e2.trans e3)⟩
theorem ev_din {td ty : TE} {kvs : List (Key × V)} {k : Key} (hd : EvH td σ H (.dK kvs)) (hy : Ev ty σ H (kV k)) : Ev (tDIn ty td) σ H (.bl (valV kvs k).isSome) := fun H1 e Q q =>
  hy H1 e _ fun H2 e2 => hd H2 (e.trans e2) _ fun p H3 e3 hp => ⟨p, _, rfl, DGet.k hp, q H3 (e2.trans e3)⟩
theorem ev_dget1 {td ty : TE} {kvs : List (Key × V)} {k : Key} (hd : EvH td σ H (.dK kvs)) (hy : Ev ty σ H (kV k)) : Ev (tDGet1 td ty) σ H ((valV kvs k).getD .non) := fun H1 e Q q =>
  hd H1 e _ fun p H2 e2 hp => ⟨p, rfl, .inl ⟨kvs, .inl hp⟩, hy H2 (e.trans e2) _ fun H3 e3 => ⟨_, DGet.k (e3 _ _ hp), q H3 (e2.trans e3)⟩⟩
/- statements -/
variable {D : L2.Ends} {tu tw tz : TS}
theorem s_asgN {i : Nat} (h : EvN te σ H o) (k : ∀ p H1, H p = none → Ex H H1 → H1 p = some o → D.nx (σ.set i (some (.ref p))) H1) : tAsg te (gName i) D σ H := en_go h k
theorem q_asgN {i : Nat} (h : EvN te σ H o) (k : ∀ p H1, H p = none → Ex H H1 → H1 p = some o → tz D (σ.set i (some (.ref p))) H1) : tSeq (tAsg te (gName i)) tz D σ H := en_go h k
theorem s_retN (h : EvN te σ H o) (k : RetN o H D.rt) : tRet te D σ H := en_go h k
theorem q_if2 {b : Bool} (h : EvT t σ H b) (h1 : b = true → ∀ H1, Ex H H1 → tu { D with nx := tz D } σ H1) (h2 : b = false → ∀ H1, Ex H H1 → tw { D with nx := tz D } σ H1) : tSeq (tIfS t tu tw) tz D σ H := q_if h h1 h2
/-- a, b = .. of a tuple -/
theorem q_asgT {te : TE} {n : Nat} {ts : TGs} (h : EvH te σ H (.tup xs)) (hn : xs.length = n) (k : ∀ H1, Ex H H1 → ts xs σ H1 fun σ2 H2 => tz D σ2 H2) : tSeq (tAsg te (gTup K n ts)) tz D σ H :=
  eh_go h fun p H1 e1 hp => ⟨p, xs, rfl, st_of hp, hn, k H1 e1⟩
/-- o.f = e: the instance's heap -/
theorem q_fld {a C dx : Addr} {fs : List (Str × V)} {f : Str} {tv : TE} (hv : Ev tv σ H v) (ha : Ev ta σ H (.ref a)) (ho : H a = some (.ins C dx fs)) (c : Cls K C) (n : NoAttr K C f) (hl : fs.length < 1000)
    (k : ∀ H1, Ex H H1 → tz D σ (upd H1 a (.ins C dx (putF f v fs)))) : tSeq (sFld K ta tv f) tz D σ H :=
  ev_go hv fun H1 e1 => ha H1 e1 _ fun H2 e2 => ⟨a, C, dx, fs, rfl, e2 _ _ (e1 _ _ ho), c, n, hl, k H2 (e1.trans e2)⟩
theorem q_fldN {a C dx : Addr} {fs : List (Str × V)} {f : Str} {tv : TE} (hv : EvN tv σ H o) (ha : Ev ta σ H (.ref a)) (ho : H a = some (.ins C dx fs)) (c : Cls K C) (n : NoAttr K C f) (hl : fs.length < 1000)
    (k : ∀ p H1, H p = none → Ex H H1 → H1 p = some o → tz D σ (upd H1 a (.ins C dx (putF f (.ref p) fs)))) : tSeq (sFld K ta tv f) tz D σ H :=
  en_go hv fun p H1 hp e1 h1 => ha H1 e1 _ fun H2 e2 => ⟨a, C, dx, fs, rfl, e2 _ _ (e1 _ _ ho), c, n, hl, k p H2 hp (e1.trans e2) (e2 _ _ h1)⟩
end
/-! ### locks -/
theorem ex_unlock {H H' : Hp} {d : Addr} {u : HO} {od : Obj} (hd : H d = some u) (e : Ex (upd H d (.frz od u)) H') : Ex H (upd H' d u) := fun a o ha => by
  by_cases h : a = d
  · subst h
    rw [hd] at ha
    cases ha
    exact upd_same
  · rw [upd_ne h]
    exact e a o (by rw [upd_ne h]; exact ha)
theorem ex_lock {G H : Hp} {d : Addr} {u : HO} (e : Ex G H) (h : G d = none) : Ex G (upd H d u) := e.mut h
/-! ### comprehensions over any walk -/
section
variable {α : Type} {J : It} {G : Hp → Prop} {Y : Nat → Hp → V → Hp → Prop} {g : TG} {tt : TT} {te tk tv : TE} {vs : List Nat} {σ : L2.St} {H1 : Hp} {Dl : Addr} {Qd : Hp → Prop}
theorem take_sel (as : List α) (sel : α → Bool) (val : α → V) {i : Nat} {a : α} (h : as[i]? = some a) :
    ((as.take (i + 1)).filter sel).map val = ((as.take i).filter sel).map val ++ if sel a = true then [val a] else [] := by
  rw [List.take_add_one, h, List.filter_append, List.map_append]
  congr 1
  show ([a].filter sel).map val = _
  by_cases q : sel a = true
  · simp [q]
  · simp [q]
theorem lc_walk (as : List α) (w : Walk J as.length G Y) (sel : α → Bool) (val : α → V) (hD : H1 Dl = none) (hG : ∀ H, Ex H1 H → G H) (hn : as.length ≤ 50000)
    (step : ∀ i a x H H', as[i]? = some a → Ex H1 H → Y i H x H' → g x (wipe σ vs) H' fun σ2 H2 => wipe σ2 vs = wipe σ vs ∧ Ex H H2 ∧ EvT tt σ2 H2 (sel a) ∧ (sel a = true → Ev te σ2 H2 (val a)))
    (hg : ∀ x σ H Q Q', (∀ σ2 H2, Q σ2 H2 → Q' σ2 H2) → g x σ H Q → g x σ H Q')
    (hd : ∀ H, Ex H1 H → H Dl = some (.lst ((as.filter sel).map val)) → Qd H) :
    ∃ W : Nat → Nat → Hp → Prop, (∃ m, W 0 m (upd H1 Dl (.lst []))) ∧ ∀ i m H, W i m H →
      (J.stop i H ∧ Qd H) ∨ (J.go i H ∧ ∃ Nx : Hp → Prop, (∀ H', Nx H' → ∃ m', m' < m ∧ W (i + 1) m' H') ∧ ∀ x H', J.yld i H x H' → g x (wipe σ vs) H' fun σ2 H2 => wipe σ2 vs = wipe σ vs ∧ tt σ2 H2 fun b H3 =>
        if b = true then te σ2 H3 fun y H4 => ∃ acc, H4 Dl = some (.lst acc) ∧ acc.length < sizeLine ∧ Nx (upd H4 Dl (.lst (acc ++ [y]))) else Nx H3) := by
  refine lc_it w (fun i H => Ex H1 H ∧ H Dl = some (.lst (((as.take i).filter sel).map val))) ⟨Ex.new hD, upd_same⟩ (fun i H _ p => hG H p.1) (fun i x H H' hi p y => ?_) (fun H p => hd H p.1 (by have := p.2; rwa [List.take_length] at this))
  obtain ⟨a, ha⟩ : ∃ a, as[i]? = some a := ⟨as[i], List.getElem?_eq_getElem hi⟩
  refine hg _ _ _ _ _ (fun σ2 H2 q => ?_) (step i a x H H' ha p.1 y)
  obtain ⟨q1, q2, q3, q4⟩ := q
  refine ⟨q1, et_go q3 fun H3 e3 => ?_⟩
  have hts := take_sel as sel val ha
  cases hs : sel a with
  | false =>
    rw [hs] at hts
    refine iteF ⟨(p.1.trans q2).trans e3, ?_⟩
    rw [hts]
    have := e3 _ _ (q2 _ _ p.2)
    rw [this]
    simp
  | true =>
    rw [hs] at hts
    refine iteT (q4 hs H3 e3 _ fun H4 e4 => ⟨_, e4 _ _ (e3 _ _ (q2 _ _ p.2)), ?_, ?_, ?_⟩)
    · refine sz_lt (Nat.lt_of_le_of_lt ?_ (show 50000 < 100000 by decide))
      rw [List.length_map]
      refine Nat.le_trans (List.length_filter_le _ _) ?_
      rw [List.length_take]
      omega
    · exact (((p.1.trans q2).trans e3).trans e4).mut hD
    · rw [upd_same, hts]
      rfl
/-- targets, monotone -/
theorem gName_mono {j : Nat} : ∀ x σ H Q Q', (∀ σ2 H2, Q σ2 H2 → Q' σ2 H2) → gName j x σ H Q → gName j x σ H Q' := fun _ _ _ _ _ h q => h _ _ q
theorem gTup2_mono {K : PySem.W.Frag} {n j1 j2 : Nat} : ∀ x σ H Q Q', (∀ σ2 H2, Q σ2 H2 → Q' σ2 H2) → gTup K n (gCons (gName j1) (gCons (gName j2) gNil)) x σ H Q → gTup K n (gCons (gName j1) (gCons (gName j2) gNil)) x σ H Q' := by
  rintro x σ H Q Q' h ⟨a, xs, e1, e2, e3, v, r, e4, v2, r2, e5, e6, q⟩
  exact ⟨a, xs, e1, e2, e3, v, r, e4, v2, r2, e5, e6, h _ _ q⟩
/-- a pair onto two names -/
theorem gTup2_of {K : PySem.W.Frag} {j1 j2 : Nat} {T : Addr} {x y : V} {σ : L2.St} {H : Hp} {Q : L2.St → Hp → Prop} (h : H T = some (.tup [x, y])) (q : Q ((σ.set j1 (some x)).set j2 (some y)) H) : gTup K 2 (gCons (gName j1) (gCons (gName j2) gNil)) (.ref T) σ H Q :=
  ⟨T, [x, y], rfl, st_of h, rfl, x, [y], rfl, y, [], rfl, rfl, q⟩

/-- over a list -/
theorem en_lcL {tl : TE} {K : PySem.W.Frag} {j : Nat} {H : Hp} (as : List α) (f : α → V) (sel : α → Bool) (val : α → V) (h : EvH tl σ H (.lst (as.map f))) (hn : as.length ≤ 50000) (hw : ∀ x, wipe ((wipe σ vs).set j (some x)) vs = wipe σ vs)
    (ht : ∀ (i : Nat) (a : α) H1, as[i]? = some a → Ex H H1 → EvT tt ((wipe σ vs).set j (some (f a))) H1 (sel a)) (he : ∀ (i : Nat) (a : α) H1, as[i]? = some a → Ex H H1 → sel a = true → Ev te ((wipe σ vs).set j (some (f a))) H1 (val a)) :
    EvN (tLc (iList K tl) (gName j) tt te vs) σ H (.lst ((as.filter sel).map val)) := fun H0 e Q q => h H0 e _ fun p H1 e1 hp => ⟨p, rfl, ⟨_, sq_of hp⟩, fun Dl hD =>
  lc_walk (J := Itl K p) (G := fun H => SqL K H p (as.map f)) (Y := YAt (as.map f)) as (by have w := walk_list (K := K) (a := p) (xs := as.map f); rw [List.length_map] at w; exact w) sel val hD (fun H a => sq_of (a _ _ hp)) hn
    (fun i a x H2 H3 ha ex y => by
      obtain ⟨e2, e3⟩ := y
      subst e2
      rw [List.getElem?_map, ha] at e3
      have e4 : f a = x := Option.some.inj e3
      subst e4
      exact ⟨hw _, Ex.refl _, ht i a _ ha ((e.trans e1).trans ex), he i a _ ha ((e.trans e1).trans ex)⟩) gName_mono
    (fun H2 e2 h2 => q Dl H2 (fresh_back e1 hD) (e1.trans e2) h2)⟩
/-- over enumerate(a list) -/
theorem en_lcE {tl : TE} {K : PySem.W.Frag} {j1 j2 : Nat} {H : Hp} (as : List α) (f : α → V) (sel : Nat × α → Bool) (val : Nat × α → V) (h : EvH tl σ H (.lst (as.map f))) (hn : as.length ≤ 50000) (hw : ∀ x y, wipe (((wipe σ vs).set j1 (some x)).set j2 (some y)) vs = wipe σ vs)
    (ht : ∀ (i : Nat) (a : α) H1, as[i]? = some a → Ex H H1 → EvT tt (((wipe σ vs).set j1 (some (.int (i : Nat)))).set j2 (some (f a))) H1 (sel (i, a))) (he : ∀ (i : Nat) (a : α) H1, as[i]? = some a → Ex H H1 → sel (i, a) = true → Ev te (((wipe σ vs).set j1 (some (.int (i : Nat)))).set j2 (some (f a))) H1 (val (i, a))) :
    EvN (tLc (iEnum K (tCons tl tNil)) (gTup K 2 (gCons (gName j1) (gCons (gName j2) gNil))) tt te vs) σ H (.lst (((as.zipIdx.map fun p => (p.2, p.1)).filter sel).map val)) := fun H0 e Q q => h H0 e _ fun p H1 e1 hp => ⟨p, _, rfl, sq_of hp, fun Dl hD =>
  lc_walk (J := Ite K p) (G := fun H => SqL K H p (as.map f)) (Y := YPair (fun i => some (.int (i : Nat))) (fun i => (as.map f)[i]?)) (as.zipIdx.map fun p => (p.2, p.1)) (by have w := walk_enum (K := K) (a := p) (xs := as.map f); rw [List.length_map] at w; rw [List.length_map, List.length_zipIdx]; exact w) sel val hD (fun H a => sq_of (a _ _ hp)) (by rw [List.length_map, List.length_zipIdx]; exact hn)
    (fun i a x H2 H3 ha ex y => by
      obtain ⟨T, x1, x2, e2, e3, e4, e5, e6⟩ := y
      subst e2 e4
      have e6 : (as.map f)[i]? = some x2 := e6
      rw [List.getElem?_map, List.getElem?_zipIdx] at ha
      rw [List.getElem?_map] at e6
      cases hq : as[i]? with
      | none => rw [hq] at ha; cases ha
      | some b =>
        rw [hq] at ha e6
        have ea : (0 + i, b) = a := Option.some.inj ha
        rw [Nat.zero_add] at ea
        subst ea
        have eb : f b = x2 := Option.some.inj e6
        have ei : V.int (i : Nat) = x1 := Option.some.inj e5
        subst eb ei
        have ex2 : Ex H (upd H2 T (.tup [.int (i : Nat), f b])) := ((e.trans e1).trans ex).trans (Ex.new e3)
        exact gTup2_of upd_same ⟨hw _ _, Ex.new e3, ht i b _ hq ex2, he i b _ hq ex2⟩) gTup2_mono
    (fun H2 e2 h2 => q Dl H2 (fresh_back e1 hD) (e1.trans e2) h2)⟩
/-- over range(n) -/
theorem en_lcR {ta : TA} {j : Nat} {H : Hp} (n : Nat) (sel : Nat → Bool) (val : Nat → V) (h : EvA ta σ H [.int (n : Int)]) (hn : n ≤ 50000) (hw : ∀ x, wipe ((wipe σ vs).set j (some x)) vs = wipe σ vs)
    (ht : ∀ i H1, i < n → Ex H H1 → EvT tt ((wipe σ vs).set j (some (.int (i : Nat)))) H1 (sel i)) (he : ∀ i H1, i < n → Ex H H1 → sel i = true → Ev te ((wipe σ vs).set j (some (.int (i : Nat)))) H1 (val i)) :
    EvN (tLc (iRng1 ta) (gName j) tt te vs) σ H (.lst (((List.range n).filter sel).map val)) := fun H0 e Q q => h H0 e _ fun H1 e1 => ⟨(n : Int), rfl, by omega, by omega, fun Dl hD =>
  lc_walk (J := Itr 0 ((n : Int)).toNat) (G := fun _ => True) (Y := YFn fun i => .int (0 + (i : Nat))) (List.range n) (by rw [List.length_range]; exact walk_range (lo := 0) (n := n)) sel val hD (fun H a => True.intro) (by rw [List.length_range]; exact hn)
    (fun i a x H2 H3 ha ex y => by
      obtain ⟨e2, e3⟩ := y
      subst e2 e3
      have hi : i < n := by have := (List.getElem?_eq_some_iff.mp ha).1; rwa [List.length_range] at this
      rw [List.getElem?_range hi] at ha
      cases ha
      show gName j (.int (0 + (i : Int))) _ _ _
      rw [Int.zero_add]
      exact ⟨hw _, Ex.refl _, ht i _ hi ((e.trans e1).trans ex), he i _ hi ((e.trans e1).trans ex)⟩) gName_mono
    (fun H2 e2 h2 => q Dl H2 (fresh_back e1 hD) (e1.trans e2) h2)⟩
end
end RW
end

section
set_option Elab.async false
set_option linter.all false
set_option maxRecDepth 100000
set_option maxHeartbeats 4000000
namespace RW
open PySem L2 Evl
variable {P : Program} {w : World} {K : PySem.W.Frag} {mg : Str → Option Value} {base : Heap}
/-! ### data: a rule as it stands -/
def tailV : RS.Tail → List V
  | .fin => [.str "end"]
  | .tim b => [.str "times", .int b]
  | .rep c => [.str "repeat", .int (c : Int)]
def flR (l e s : Addr) : List (Str × V) := [("listed", V.ref l), ("ending", V.ref e), ("sums", V.ref s)]
def sumsV (R : RS.Rul) : List V := (List.range (R.n + 1)).map fun k => V.int (RS.off R k)
def RuleAt (K : PySem.W.Frag) (H : Hp) (r : Addr) (R : RS.Rul) : Prop := ∃ dx l e s, H r = some (.ins (He.ga K "Rule") dx (flR l e s)) ∧ H l = some (.lst (R.gaps.map V.int)) ∧ H e = some (.tup (tailV R.tail)) ∧ H s = some (.lst (sumsV R))
theorem RuleAt.mono {H H' : Hp} {r : Addr} {R : RS.Rul} (e : Ex H H') (h : RuleAt K H r R) : RuleAt K H' r R := by
  obtain ⟨dx, l, t, s, h1, h2, h3, h4⟩ := h
  exact ⟨dx, l, t, s, e _ _ h1, e _ _ h2, e _ _ h3, e _ _ h4⟩
/-! ### is_integer, is_between, power -/
theorem sc_is_integer : FnScope ["value"] ["value"] (defScope s_is_integer) := ⟨rfl, rfl, rfl, by decide +kernel, rfl, by decide +kernel, by decide +kernel⟩
def sp_is_integer : Sp := fun vs H Q _ => ∃ i : Int, vs = [.int i] ∧ RetV (.bl true) H Q
theorem ok_is_integer (W : Wd K mg) : FnOk P w K mg base CX0 1 (a_is_integer K) (f_is_integer K) ["value"] sp_is_integer := by
  refine (F_is_integer W).ok sc_is_integer (fun vs H Q E h => ?_) (fun cdv A outer s H vs Q E hr h => ?_)
  · obtain ⟨i, rfl, _⟩ := h
    rfl
  · obtain ⟨i, rfl, k⟩ := h
    refine ⟨_, PSs.nox (pss_one (ps_ret (pe_and (pe_callB call_isi (by rfl) (n_isinstance W) (by decide +kernel) (pa_cons (pv 0) (pa_cons (pe_bltn (v := .ty "int") (by rfl) (n_int W) (by decide +kernel) rfl) pa_nil))) (pe_one (pe_not (pe_callB call_isi (by rfl) (n_isinstance W) (by decide +kernel) (pa_cons (pv 0) (pa_cons (pe_bltn (v := .ty "bool") (by rfl) (n_bool W) (by decide +kernel) rfl) pa_nil)))))))), ?_⟩
    exact s_ret (v := .bl true) (ev_andV (a := true) (b := true) (ev_cb (ea_cons (ev_var rfl) (ea_cons ev_c ea_nil)) (rc_isi (.ty _) (fun _ _ => .base (.int _)) (kit_ty (by decide +kernel))))
      fun _ => ev_notV (a := false) (ev_cb (ea_cons (ev_var rfl) (ea_cons ev_c ea_nil)) (rc_isi (.ty _) (fun _ _ => .base (.int _)) (kit_ty (by decide +kernel))))) k
theorem is_integer_at {H : Hp} (i : Int) : SpV sp_is_integer [.int i] H (.bl true) := fun H1 _ Q q _ => ⟨i, rfl, q⟩

theorem sc_is_between : FnScope ["value", "low", "high"] ["value", "low", "high"] (defScope s_is_between) := ⟨rfl, rfl, rfl, by decide +kernel, rfl, by decide +kernel, by decide +kernel⟩
def sp_is_between : Sp := fun vs H Q _ => ∃ i lo hi : Int, vs = [.int i, .int lo, .int hi] ∧ RetV (.bl (decide (lo ≤ i) && decide (i ≤ hi))) H Q
theorem ok_is_between (W : Wd K mg) : FnOk P w K mg base CX0 2 (a_is_between K) (f_is_between K) ["value", "low", "high"] sp_is_between := by
  refine (F_is_between W).ok sc_is_between (fun vs H Q E h => ?_) (fun cdv A outer s H vs Q E hr h => ?_)
  · obtain ⟨i, lo, hi, rfl, _⟩ := h
    rfl
  · obtain ⟨i, lo, hi, rfl, k⟩ := h
    refine ⟨_, PSs.nox (pss_one (ps_ret (pe_and (pe_call (ok_is_integer W) (hr.mono (by decide)) (by rfl) (g_is_integer W) (F_is_integer W).kp (b_is_integer W) .nil pass0 (pa_cons (pv 0) pa_nil)) (pe_one (pe_chain op_le op_le (pv 1) (pv 0) (pv 2)))))), ?_⟩
    exact s_ret (ev_andV (a := true) (ev_call (ea_cons (ev_var rfl) ea_nil) (is_integer_at i)) fun _ => ev_chain (ev_var rfl) (ev_var rfl) rv_I0 (fun _ => ev_var rfl) fun _ => rv_I0) k
theorem is_between_at {H : Hp} (i lo hi : Int) : SpV sp_is_between [.int i, .int lo, .int hi] H (.bl (decide (lo ≤ i) && decide (i ≤ hi))) := fun H1 _ Q q _ => ⟨i, lo, hi, rfl, q⟩

theorem sc_power : FnScope ["base", "exponent", "result"] ["base", "exponent"] (defScope s_power) := ⟨rfl, rfl, rfl, by decide +kernel, rfl, by decide +kernel, by decide +kernel⟩
theorem pow_lt {b : Int} (h0 : 0 ≤ b) (h1 : b ≤ 1000) (e : Nat) : (b ^ e).natAbs < 2 ^ (10 * e + 1) := by
  have h2 := RS.pow_le h0 (show b ≤ 2 ^ 10 by omega) e
  have h3 : (0 : Int) ≤ b ^ e := Int.pow_nonneg h0
  have h4 : ((2 : Int) ^ 10) ^ e = 2 ^ (10 * e) := by rw [← Int.pow_mul]
  rw [h4] at h2
  have h5 : (2 : Int) ^ (10 * e) = ((2 ^ (10 * e) : Nat) : Int) := by simp
  rw [h5] at h2
  have h6 : 2 ^ (10 * e + 1) = 2 ^ (10 * e) + 2 ^ (10 * e) := by rw [Nat.pow_succ]; omega
  have h7 : 0 < 2 ^ (10 * e) := Nat.pow_pos (by decide)
  omega
def sp_power : Sp := fun vs H Q _ => ∃ (b : Int) (e : Nat), vs = [.int b, .int e] ∧ 0 ≤ b ∧ b ≤ 1000 ∧ e ≤ 4000 ∧ RetV (.int (b ^ e)) H Q
theorem ok_power (W : Wd K mg) : FnOk P w K mg base CX0 1 (a_power K) (f_power K) ["base", "exponent"] sp_power := by
  refine (F_power W).ok sc_power (fun vs H Q E h => ?_) (fun cdv A outer s H vs Q E hr h => ?_)
  · obtain ⟨b, e, rfl, _⟩ := h
    rfl
  · obtain ⟨b, e, rfl, hb0, hb1, he, k⟩ := h
    refine ⟨_, PSs.nox (pss_cons (ps_set (i := 2) sc_power.nd rfl (Or.inl rfl) pe_int)
    (pss_cons (ps_while PassesOwn.never (pt_cmpR op_gt (pv 1) pe_int (nomark _)) (pss_cons (ps_if (pt_cmpR op_eq (pe_op op_mod (pv 1) pe_int) pe_int (nomark _)) (pss_one (ps_set (i := 2) sc_power.nd rfl (Or.inl rfl) (pe_op op_mulW (pv 2) (pv 0)))) pss_nil)
      (pss_cons (ps_set (i := 0) sc_power.nd rfl (Or.inl rfl) (pe_op op_mulW (pv 0) (pv 0)))
      (pss_one (ps_set (i := 1) sc_power.nd rfl (Or.inl rfl) (pe_op op_fdiv (pv 1) pe_int))))))
    (pss_one (ps_ret (pv 2))))), ?_⟩
    -- result * base ^ exponent is b ^ e; base is b ^ m
    refine q_asg ev_c fun H1 e1 => ?_
    refine q_while (fun m σ' H' => Ex H H' ∧ ∃ (p q x : Nat), σ' = [some (.int (b ^ p)), some (.int (x : Int)), some (.int (b ^ q))] ∧ q + p * x = e ∧ 0 < p ∧ m = x) e ⟨e1, 1, 0, e, by simp [L2.start, Int.pow_succ], by omega, by omega, rfl⟩ ?_
    rintro m σ' H' ⟨e2, p, q, x, rfl, hx, hp, hm⟩
    subst m
    refine ⟨decide ((0 : Int) < x), et_test (ev_op (ev_var rfl) ev_c rv_I0), fun ht H2 e3 => ?_, fun hf H2 e3 => ?_⟩
    · have ht := of_decide_eq_true ht
      have hx1 : 1 ≤ x := by omega
      have hpx : p ≤ p * x := Nat.le_mul_of_pos_right p hx1
      have hpe : p ≤ 4000 := by omega
      have hq : q ≤ 4000 := by omega
      have c2 : CMulW (b ^ p) (b ^ p) := wide_mul (pow_lt hb0 hb1 p) (pow_lt hb0 hb1 p) (by omega) (by omega) (by omega)
      have c1 : CMulW (b ^ q) (b ^ p) := wide_mul (pow_lt hb0 hb1 q) (pow_lt hb0 hb1 p) (by omega) (by omega) (by omega)
      refine ⟨fun σ2 H3 => Ex H H3 ∧ ∃ (p' q' x' : Nat), σ2 = [some (.int (b ^ p')), some (.int (x' : Int)), some (.int (b ^ q'))] ∧ q' + p' * x' = e ∧ 0 < p' ∧ x' < x, fun σ2 H3 ⟨a1, p', q', x', a2, a3, a4, a5⟩ => ⟨x', a5, a1, p', q', x', a2, a3, a4, rfl⟩, ?_⟩
      have fin : ∀ (q1 : Nat) H3, Ex H H3 → q1 + (p + p) * (x / 2) = e → tSeq (tAsg (tOp (rI CMulW fun i j => .int (i * j)) (tVar 0) (tVar 0)) (gName 0)) (tAsg (tOp (rI CDiv fun i j => .int (i / j)) (tVar 1) (tC (.int 2))) (gName 1)) { nx := fun σ2 H3 => Ex H H3 ∧ ∃ (p' q' x' : Nat), σ2 = [some (.int (b ^ p')), some (.int (x' : Int)), some (.int (b ^ q'))] ∧ q' + p' * x' = e ∧ 0 < p' ∧ x' < x, rt := Q, bk := (tRet (tVar 2)) { nx := fun _ H' => Q .non H', rt := Q }, ct := fun σ2 H3 => Ex H H3 ∧ ∃ (p' q' x' : Nat), σ2 = [some (.int (b ^ p')), some (.int (x' : Int)), some (.int (b ^ q'))] ∧ q' + p' * x' = e ∧ 0 < p' ∧ x' < x } [some (.int (b ^ p)), some (.int (x : Int)), some (.int (b ^ q1))] H3 := by
        intro q1 H3 e4 h1
        refine q_asg (ev_op (ev_var rfl) (ev_var rfl) (rv_I c2)) fun H4 e5 => ?_
        refine s_asg (ev_op (ev_var rfl) ev_c (rv_I ⟨by decide, by decide⟩)) fun H5 e6 => ?_
        refine ⟨(e4.trans e5).trans e6, p + p, q1, x / 2, ?_, h1, by omega, by omega⟩
        show [some (V.int (b ^ p * b ^ p)), some (V.int ((x : Int) / 2)), some (V.int (b ^ q1))] = _
        rw [Int.pow_add, Int.natCast_ediv]
        rfl
      refine q_if (b := decide ((x : Int) % 2 = 1)) (et_test (ev_op (ev_op (ev_var rfl) ev_c (rv_I (by decide))) ev_c rv_eqI)) (fun h H3 e4 => ?_) (fun h H3 e4 => ?_)
      · have h := of_decide_eq_true h
        refine s_asg (ev_op (ev_var rfl) (ev_var rfl) (rv_I c1)) fun H4 e5 => ?_
        rw [← Int.pow_add]
        refine fin (q + p) H4 (((e2.trans e3).trans e4).trans e5) ?_
        rw [Nat.add_mul]
        have : p * x = p * (2 * (x / 2) + 1) := by congr 1; omega
        rw [Nat.mul_add, Nat.mul_one, Nat.mul_left_comm] at this
        omega
      · have h := of_decide_eq_false h
        refine fin q H3 ((e2.trans e3).trans e4) ?_
        rw [Nat.add_mul]
        have : p * x = p * (2 * (x / 2)) := by congr 1; omega
        rw [Nat.mul_left_comm] at this
        omega
    · have hf := of_decide_eq_false hf
      have h0 : x = 0 := by omega
      subst h0
      rw [Nat.mul_zero, Nat.add_zero] at hx
      subst hx
      exact s_ret (ev_var rfl) fun H3 e4 => k H3 ((e2.trans e3).trans e4)
theorem power_at {H : Hp} {b : Int} {e : Nat} (h0 : 0 ≤ b) (h1 : b ≤ 1000) (h2 : e ≤ 4000) : SpV sp_power [.int b, .int e] H (.int (b ^ e)) := fun H1 _ Q q _ => ⟨b, e, rfl, h0, h1, h2, q⟩
end RW
end

section
set_option Elab.async false
set_option linter.all false
set_option maxRecDepth 100000
set_option maxHeartbeats 4000000
namespace RW
open PySem L2 Evl
variable {P : Program} {w : World} {K : PySem.W.Frag} {mg : Str → Option Value} {base : Heap}
/-! ### small facts -/
theorem kitL (K : PySem.W.Frag) : PySem.W.kitOne K (.type "list") (.type "list") = some true := kit_ty (by decide +kernel)
theorem kitT (K : PySem.W.Frag) : PySem.W.kitOne K (.type "tuple") (.type "tuple") = some true := kit_ty (by decide +kernel)
theorem kitS (K : PySem.W.Frag) : PySem.W.kitOne K (.type "str") (.type "str") = some true := kit_ty (by decide +kernel)
theorem off_bound {R : RS.Rul} (ok : R.Ok) : ∀ k, k ≤ R.n → RS.off R k ≤ (k : Int) * 1000000000000
  | 0, _ => by simp [RS.off]
  | k + 1, h => by
    have ih := off_bound ok k (by omega)
    have g : RS.gapAt R k ≤ 1000000000000 := by
      unfold RS.gapAt
      rw [if_pos (by omega)]
      exact (ok.gap k).2
    rw [RS.off_succ]
    omega
theorem off_n {R : RS.Rul} (ok : R.Ok) {k : Nat} (h : k ≤ R.n) : 0 ≤ RS.off R k ∧ RS.off R k ≤ 20000000000000 := by
  have h1 := off_bound ok k h
  have h2 := RS.off_nonneg ok k
  have h3 := ok.len
  omega
theorem per_bound {R : RS.Rul} (ok : R.Ok) {c : Nat} (h : R.tail = .rep c) : 1 ≤ RS.per R c ∧ RS.per R c ≤ 20000000000000 := by
  have h1 := RS.per_pos ok h
  have h2 := off_n ok (Nat.le_refl R.n)
  have h3 := off_n ok (show R.n - c ≤ R.n by omega)
  unfold RS.per at *
  omega
theorem sums_len (R : RS.Rul) : (sumsV R).length = R.n + 1 := by unfold sumsV; rw [List.length_map, List.length_range]
theorem sums_get {R : RS.Rul} {k : Nat} (h : k ≤ R.n) : (sumsV R)[k]? = some (.int (RS.off R k)) := by
  unfold sumsV
  rw [List.getElem?_map, List.getElem?_range (by omega)]
  rfl
theorem sums_at {R : RS.Rul} {k : Nat} (h : k ≤ R.n) : atI (sumsV R) (k : Int) = some (.int (RS.off R k)) := atI_nat (sums_get h)
theorem sums_last (R : RS.Rul) : atI (sumsV R) (-1) = some (.int (RS.off R R.n)) := by
  unfold sumsV
  rw [List.range_succ, List.map_append]
  exact atI_last _ _
theorem last_at {l : List Int} (h : 1 ≤ l.length) : atI (l.map V.int) (-1) = some (.int (l.getD (l.length - 1) 1)) := by
  have e : l = l.take (l.length - 1) ++ [l.getD (l.length - 1) 1] := by
    have h1 : l.getD (l.length - 1) 1 = l[l.length - 1]'(by omega) := by
      rw [List.getD_eq_getElem?_getD, List.getElem?_eq_getElem (by omega)]
      rfl
    rw [h1]
    have h2 := List.take_append_getElem (l := l) (i := l.length - 1) (by omega)
    rw [h2, List.take_of_length_le (by omega)]
  have h3 : l.map V.int = (l.take (l.length - 1)).map V.int ++ [.int (l.getD (l.length - 1) 1)] := by
    conv => lhs; rw [e]
    rw [List.map_append]
    rfl
  rw [h3]
  exact atI_last _ _
def optV : Option Nat → V
  | none => .non
  | some k => .int (k : Int)
/-- an object handed back, new or not -/
def RetH (o : HO) (H : Hp) (Q : VK) : Prop := ∀ p H2, Ex H H2 → H2 p = some o → Q (.ref p) H2
def SpH (sp : Sp) (vs : List V) (H : Hp) (o : HO) : Prop := ∀ H1, Ex H H1 → ∀ Q : VK, (∀ p H2, Ex H1 H2 → H2 p = some o → Q (.ref p) H2) → ∀ E : XK, sp vs H1 Q E
theorem eh_meth {σ : L2.St} {H : Hp} {ta : TE} {o : HO} {a C dx : Addr} {fs : List (Str × V)} {m : Str} {sp : Sp} {dvs vs : List V} {E : XK} {t : TA} (h : Ev ta σ H (.ref a)) (ho : H a = some (.ins C dx fs)) (l : fs.lookup m = none) (ha : EvA t σ H vs) (hs : SpH sp (.ref a :: (vs ++ dvs)) H o) : EvH (tMeth C m sp dvs E ta t) σ H o := fun H1 e Q q =>
  h H1 e _ fun H2 e2 => ⟨a, dx, fs, rfl, e2 _ _ (e _ _ ho), l, ha H2 (e.trans e2) _ fun H3 e3 => hs H3 ((e.trans e2).trans e3) Q (fun p H4 e4 h4 => q p H4 ((e2.trans e3).trans e4) h4) E⟩
/-! ### is_tail -/
theorem sc_is_tail : FnScope ["tail", "gap_count"] ["tail", "gap_count"] (defScope s_is_tail) := ⟨rfl, rfl, rfl, by decide +kernel, rfl, by decide +kernel, by decide +kernel⟩
def tailOk : RS.Tail → Nat → Prop
  | .fin, _ => True
  | .tim b, n => 2 ≤ b ∧ b ≤ 1000 ∧ 1 ≤ n
  | .rep c, n => 1 ≤ c ∧ c ≤ n
theorem tailOk_of {R : RS.Rul} (ok : R.Ok) : tailOk R.tail R.n := by
  cases h : R.tail with
  | fin => exact True.intro
  | tim b => exact ok.tim b h
  | rep c => exact ok.rep c h
def sp_is_tail : Sp := fun vs H Q _ => ∃ (e : Addr) (t : RS.Tail) (n : Nat), vs = [.ref e, .int n] ∧ H e = some (.tup (tailV t)) ∧ tailOk t n ∧ RetV (.bl true) H Q
theorem ok_is_tail (W : Wd K mg) : FnOk P w K mg base CX0 3 (a_is_tail K) (f_is_tail K) ["tail", "gap_count"] sp_is_tail := by
  refine (F_is_tail W).ok sc_is_tail (fun vs H Q E h => ?_) (fun cdv A outer s H vs Q E hr h => ?_)
  · obtain ⟨e, t, n, rfl, _⟩ := h
    rfl
  · obtain ⟨e, t, n, rfl, hT, ht, k⟩ := h
    refine ⟨_, PSs.nox (pss_cons (ps_if (PW.pt (pw_or (pt_not (pt_val (pe_callB call_isi (by rfl) (n_isinstance W) (by decide +kernel) (pa_cons (pv 0) (pa_cons (pe_bltn (v := .ty "tuple") (by rfl) (n_tuple W) (by decide +kernel) rfl) pa_nil))))) (pw_or (pt_cmpR op_eq (pe_callB call_len_seq (by rfl) (n_len W) (by decide +kernel) (pa_cons (pv 0) pa_nil)) pe_int (nomark _)) (pw_or1 (pt_not (pt_val (pe_callB call_isi (by rfl) (n_isinstance W) (by decide +kernel) (pa_cons (pe_ix ix_tup (pv 0) pe_int (fun _ _ => rfl)) (pa_cons (pe_bltn (v := .ty "str") (by rfl) (n_str W) (by decide +kernel) rfl) pa_nil))))))))) (pss_one (ps_ret pe_bl)) pss_nil)
    (pss_cons (ps_if (pt_cmpR op_eq (pe_ix ix_tup (pv 0) pe_int (fun _ _ => rfl)) pe_str (nomark _)) (pss_one (ps_ret (pe_cmpR op_eq (pe_callB call_len_seq (by rfl) (n_len W) (by decide +kernel) (pa_cons (pv 0) pa_nil)) pe_int (nomark _)))) pss_nil)
    (pss_cons (ps_if (PW.pt (pw_or (pt_cmpR op_ne (pe_callB call_len_seq (by rfl) (n_len W) (by decide +kernel) (pa_cons (pv 0) pa_nil)) pe_int (nomark _)) (pw_or1 (pt_cmpR op_eq (pv 1) pe_int (nomark _))))) (pss_one (ps_ret pe_bl)) pss_nil)
    (pss_cons (ps_if (pt_cmpR op_eq (pe_ix ix_tup (pv 0) pe_int (fun _ _ => rfl)) pe_str (nomark _)) (pss_one (ps_ret (pe_call (ok_is_between W) (hr.mono (by decide)) (by rfl) (g_is_between W) (F_is_between W).kp (b_is_between W) .nil pass0 (pa_cons (pe_ix ix_tup (pv 0) pe_int (fun _ _ => rfl)) (pa_cons pe_int (pa_cons (pe_glob (by rfl) (i_MOST_FACTOR W).choose_spec.1 (i_MOST_FACTOR W).choose_spec.2) pa_nil)))))) pss_nil)
    (pss_one (ps_ret (pe_and (pe_cmpR op_eq (pe_ix ix_tup (pv 0) pe_int (fun _ _ => rfl)) pe_str (nomark _)) (pe_one (pe_call (ok_is_between W) (hr.mono (by decide)) (by rfl) (g_is_between W) (F_is_between W).kp (b_is_between W) .nil pass0 (pa_cons (pe_ix ix_tup (pv 0) pe_int (fun _ _ => rfl)) (pa_cons pe_int (pa_cons (pv 1) pa_nil)))))))))))), ?_⟩
    have hx : ∀ H1, Ex H H1 → EvH (tVar 0) (L2.start ["tail", "gap_count"] [.ref e, .int (n : Int)]) H1 (.tup (tailV t)) := fun H1 e1 => eh_of (ev_var rfl) (e1 _ _ hT)
    have tyT : ∀ H1, Ex H H1 → TyX K H1 (.ref e) (.type "tuple") := fun H1 e1 => .base (.tup (e1 _ _ hT))
    cases t with
    | fin =>
      refine q_when (b := false) (et_is (et_or (et_not (et_B (ev_cb (ea_cons (ev_var rfl) (ea_cons ev_c ea_nil)) (rc_isi (.ty _) tyT (kitT K))))) fun _ => et_or (et_test (ev_op (ev_lenT (hx _ (Ex.refl _))) ev_c rv_eqI)) fun _ => et_not (et_B (ev_cb (ea_cons (ev_ixT (hx _ (Ex.refl _)) ev_c rfl) (ea_cons ev_c ea_nil)) (rc_isi (.ty _) (fun _ _ => .base (.str _)) (kitS K))))) rfl) (fun h => by cases h) fun _ H1 e1 => ?_
      refine q_when (b := true) (et_is (et_test (ev_op (ev_ixT (hx _ e1) ev_c rfl) ev_c rv_eqS)) (by decide +kernel)) (fun _ H2 e2 => ?_) (fun h => by cases h)
      exact s_ret (v := .bl true) (ev_op (ev_lenT (hx _ (e1.trans e2))) ev_c rv_eqI) fun H3 e3 => k H3 ((e1.trans e2).trans e3)
    | tim b =>
      obtain ⟨b1, b2, b3⟩ := ht
      refine q_when (b := false) (et_is (et_or (et_not (et_B (ev_cb (ea_cons (ev_var rfl) (ea_cons ev_c ea_nil)) (rc_isi (.ty _) tyT (kitT K))))) fun _ => et_or (et_test (ev_op (ev_lenT (hx _ (Ex.refl _))) ev_c rv_eqI)) fun _ => et_not (et_B (ev_cb (ea_cons (ev_ixT (hx _ (Ex.refl _)) ev_c rfl) (ea_cons ev_c ea_nil)) (rc_isi (.ty _) (fun _ _ => .base (.str _)) (kitS K))))) rfl) (fun h => by cases h) fun _ H1 e1 => ?_
      refine q_when (b := false) (et_is (et_test (ev_op (ev_ixT (hx _ e1) ev_c rfl) ev_c rv_eqS)) (by decide +kernel)) (fun h => by cases h) fun _ H2 e2 => ?_
      refine q_when (b := false) (et_is (et_or (et_test (ev_op (ev_lenT (hx _ (e1.trans e2))) ev_c rv_neI)) fun _ => et_test (ev_op (ev_var rfl) ev_c rv_eqI)) (by simp [tailV]; omega)) (fun h => by cases h) fun _ H3 e3 => ?_
      refine q_when (b := true) (et_is (et_test (ev_op (ev_ixT (hx _ ((e1.trans e2).trans e3)) ev_c rfl) ev_c rv_eqS)) (by decide +kernel)) (fun _ H4 e4 => ?_) (fun h => by cases h)
      exact s_ret (v := .bl true) (ev_is (ev_call (ea_cons (ev_ixT (hx _ (((e1.trans e2).trans e3).trans e4)) ev_c rfl) (ea_cons ev_c (ea_cons ev_c ea_nil))) (is_between_at b 2 1000)) (by rw [decide_eq_true b1, decide_eq_true b2]; rfl)) fun H5 e5 => k H5 ((((e1.trans e2).trans e3).trans e4).trans e5)
    | rep c =>
      obtain ⟨b1, b2⟩ := ht
      refine q_when (b := false) (et_is (et_or (et_not (et_B (ev_cb (ea_cons (ev_var rfl) (ea_cons ev_c ea_nil)) (rc_isi (.ty _) tyT (kitT K))))) fun _ => et_or (et_test (ev_op (ev_lenT (hx _ (Ex.refl _))) ev_c rv_eqI)) fun _ => et_not (et_B (ev_cb (ea_cons (ev_ixT (hx _ (Ex.refl _)) ev_c rfl) (ea_cons ev_c ea_nil)) (rc_isi (.ty _) (fun _ _ => .base (.str _)) (kitS K))))) rfl) (fun h => by cases h) fun _ H1 e1 => ?_
      refine q_when (b := false) (et_is (et_test (ev_op (ev_ixT (hx _ e1) ev_c rfl) ev_c rv_eqS)) (by decide +kernel)) (fun h => by cases h) fun _ H2 e2 => ?_
      refine q_when (b := false) (et_is (et_or (et_test (ev_op (ev_lenT (hx _ (e1.trans e2))) ev_c rv_neI)) fun _ => et_test (ev_op (ev_var rfl) ev_c rv_eqI)) (by simp [tailV]; omega)) (fun h => by cases h) fun _ H3 e3 => ?_
      refine q_when (b := false) (et_is (et_test (ev_op (ev_ixT (hx _ ((e1.trans e2).trans e3)) ev_c rfl) ev_c rv_eqS)) (by decide +kernel)) (fun h => by cases h) fun _ H4 e4 => ?_
      exact s_ret (v := .bl true) (ev_is (ev_andV (a := true) (ev_is (ev_op (ev_ixT (hx _ (((e1.trans e2).trans e3).trans e4)) ev_c rfl) ev_c rv_eqS) (by decide +kernel)) fun _ => ev_call (ea_cons (ev_ixT (hx _ (((e1.trans e2).trans e3).trans e4)) ev_c rfl) (ea_cons ev_c (ea_cons (ev_var rfl) ea_nil))) (is_between_at (c : Int) 1 (n : Int))) (by rw [decide_eq_true (show (1 : Int) ≤ (c : Int) by omega), decide_eq_true (show (c : Int) ≤ (n : Int) by omega)]; rfl)) fun H5 e5 => k H5 ((((e1.trans e2).trans e3).trans e4).trans e5)
theorem is_tail_at {H : Hp} {e : Addr} {t : RS.Tail} {n : Nat} (h : H e = some (.tup (tailV t))) (ht : tailOk t n) : SpV sp_is_tail [.ref e, .int n] H (.bl true) := fun H1 a Q q _ => ⟨e, t, n, rfl, a _ _ h, ht, q⟩
/-! ### Rule.__init__ -/
theorem sc_R_init : FnScope ["self", "gaps", "tail", "gap"] ["self", "gaps", "tail"] (defScope s_R_init) := ⟨rfl, rfl, rfl, by decide +kernel, rfl, by decide +kernel, by decide +kernel⟩
def sp_R_init (K : PySem.W.Frag) : Sp := fun vs H Q _ => ∃ (p dx g e : Addr) (R : RS.Rul), vs = [.ref p, .ref g, .ref e] ∧ H p = some (.ins (He.ga K "Rule") dx []) ∧ H g = some (.lst (R.gaps.map V.int)) ∧ H e = some (.tup (tailV R.tail)) ∧ R.Ok ∧
  ∀ H', RuleAt K H' p R → (∀ b o, H b = some o → b ≠ p → H' b = some o) → Q .non H'
theorem sums_snoc (R : RS.Rul) (i : Nat) : ((List.range (i + 1)).map fun k => V.int (RS.off R k)) ++ [.int (RS.off R i + RS.gapAt R i)] = (List.range (i + 1 + 1)).map fun k => V.int (RS.off R k) := by
  rw [List.range_succ (n := i + 1), List.map_append]
  rfl
theorem ok_R_init (W : Wd K mg) : FnOk P w K mg base CX0 4 (a_R_init K) (f_R_init K) ["self", "gaps", "tail"] (sp_R_init K) := by
  refine (F_R_init W).ok sc_R_init (fun vs H Q E h => ?_) (fun cdv A outer s H vs Q E hr h => ?_)
  · obtain ⟨p, dx, g, e, R, rfl, _⟩ := h
    rfl
  · obtain ⟨p, dx, g, e, R, rfl, hp, hg, he, ok, k⟩ := h
    refine ⟨_, PSs.nox (pss_cons (ps_if (PW.pt (pw_or (pt_not (pt_val (pe_callB call_isi (by rfl) (n_isinstance W) (by decide +kernel) (pa_cons (pv 1) (pa_cons (pe_bltn (v := .ty "list") (by rfl) (n_list W) (by decide +kernel) rfl) pa_nil))))) (pw_or1 (pt_cmpR op_gt (pe_callB call_len_seq (by rfl) (n_len W) (by decide +kernel) (pa_cons (pv 1) pa_nil)) (pe_glob (by rfl) (i_MOST_GAPS W).choose_spec.1 (i_MOST_GAPS W).choose_spec.2) (nomark _))))) (pss_one ps_never) pss_nil)
    (pss_cons (ps_if (pt_not (pt_val (pe_callB (cr_all rfl) (by rfl) (n_all W) (by decide +kernel) (pa_cons (pe_lc (own := [("gap", 3)]) rfl sc_R_init.nd (pi_list (pv 1)) (blkOk_by (N := ["self", "gaps", "tail", "gap"]) (sc := defScope s_R_init) (by decide +kernel)) (fun _ _ _ _ _ => (pg_name (i := 3) sc_R_init.nd rfl (Or.inl rfl))) (fun _ _ _ _ _ => pts_nil) (fun _ _ _ _ _ => (pe_call (ok_is_between W) (hr.mono (by decide)) (by rfl) (g_is_between W) (F_is_between W).kp (b_is_between W) .nil pass0 (pa_cons (pv 3) (pa_cons pe_int (pa_cons (pe_glob (by rfl) (i_MOST_GAP W).choose_spec.1 (i_MOST_GAP W).choose_spec.2) pa_nil)))))) pa_nil)))) (pss_one ps_never) pss_nil)
    (pss_cons (ps_if (pt_not (pt_val (pe_call (ok_is_tail W) (hr.mono (by decide)) (by rfl) (g_is_tail W) (F_is_tail W).kp (b_is_tail W) .nil pass0 (pa_cons (pv 2) (pa_cons (pe_callB call_len_seq (by rfl) (n_len W) (by decide +kernel) (pa_cons (pv 1) pa_nil)) pa_nil))))) (pss_one ps_never) pss_nil)
    (pss_cons (ps_fld (pv 0) (pe_callTy call_list_of (by rfl) (n_list W) (by decide +kernel) (pa_cons (pv 1) pa_nil)) rfl)
    (pss_cons (ps_fld (pv 0) (pv 2) rfl)
    (pss_cons (ps_fld (pv 0) (pe_lst (pa_cons pe_int pa_nil)) rfl)
    (pss_one (ps_for PassesOwn.never rfl (pi_list (pv 1)) (pg_name (i := 3) sc_R_init.nd rfl (Or.inl rfl)) (pss_one (ps_expr (pe_bm PySem.F.plainAttrs_list PySem.F.slot_list_append PySem.F.type_list_append mt_append (pe_fld (pv 0) rfl) (pa_cons (pe_op op_add (pe_ix ix_list (pe_fld (pv 0) rfl) (pe_un un_neg pe_int) (fun _ _ => rfl)) (pv 3)) pa_nil)))))))))))), ?_⟩
    have hlen : R.gaps.length ≤ 20 := ok.len
    refine q_when (b := false) (et_is (et_or (et_not (et_B (ev_cb (ea_cons (ev_var rfl) (ea_cons ev_c ea_nil)) (rc_isi (.ty _) (fun H1 e1 => .base (.lst (e1 _ _ hg))) (kitL K))))) fun _ => et_test (ev_op (ev_lenL (eh_of (ev_var rfl) hg)) ev_c rv_I0)) (by rw [decide_eq_false (by rw [List.length_map]; omega)]; rfl)) (fun h => by cases h) fun _ H1 e1 => ?_
    have hb : ((R.gaps.filter fun _ => true).map fun g => V.bl (decide ((1 : Int) ≤ g) && decide (g ≤ 1000000000000))) = (R.gaps.map fun g => decide ((1 : Int) ≤ g) && decide (g ≤ 1000000000000)).map V.bl := by
      rw [List.filter_eq_self.mpr (fun _ _ => rfl), List.map_map]
      rfl
    refine q_when (b := false) (et_is (et_not (et_B (ev_all (bs := R.gaps.map fun g => decide ((1 : Int) ≤ g) && decide (g ≤ 1000000000000)) (by
      rw [← hb]
      exact EvN.h (en_lcL R.gaps V.int (fun _ => true) (fun g => V.bl (decide ((1 : Int) ≤ g) && decide (g ≤ 1000000000000))) (eh_of (ev_var rfl) (e1 _ _ hg)) (by omega) (fun _ => rfl)
        (fun i a H2 _ _ H3 e3 Q q => q H3 (Ex.refl H3)) fun i a H2 _ _ _ => ev_call (ea_cons (ev_var rfl) (ea_cons ev_c (ea_cons ev_c ea_nil))) (is_between_at a 1 1000000000000)))))) (by
      have : (R.gaps.map fun g => decide ((1 : Int) ≤ g) && decide (g ≤ 1000000000000)).all id = true := by
        rw [List.all_map, List.all_eq_true]
        intro g hg
        have := ok.pos g hg
        show (decide ((1 : Int) ≤ g) && decide (g ≤ 1000000000000)) = true
        rw [decide_eq_true this.1, decide_eq_true this.2]
        rfl
      rw [this]
      rfl)) (fun h => by cases h) fun _ H2 e2 => ?_
    have hl2 : (((R.gaps.map V.int).length : Nat) : Int) = ((R.n : Nat) : Int) := by rw [List.length_map]
    refine q_when (b := false) (et_not (et_B (ev_call (ea_cons (ev_var rfl) (ea_cons (ev_lenL (eh_of (ev_var rfl) (e2 _ _ (e1 _ _ hg)))) ea_nil)) (by rw [hl2]; exact is_tail_at (e2 _ _ (e1 _ _ he)) (tailOk_of ok))))) (fun h => by cases h) fun _ H3 e3 => ?_
    have e13 := (e1.trans e2).trans e3
    refine q_fldN (en_list (eh_of (ev_var rfl) (e13 _ _ hg))) (ev_var rfl) (e13 _ _ hp) (cl_Rule W) (na_listed W) (by decide) fun l H4 hl e4 h4 => ?_
    have e14 := e13.trans e4
    have lp : l ≠ p := Ne.symm (ne_of_none (e13 _ _ hp) hl)
    have a4 : (upd H4 p (.ins (He.ga K "Rule") dx (putF "listed" (.ref l) []))) p = some (.ins (He.ga K "Rule") dx (putF "listed" (.ref l) [])) := upd_same
    have hold : ∀ {b o}, H b = some o → b ≠ p → (upd H4 p (.ins (He.ga K "Rule") dx (putF "listed" (.ref l) []))) b = some o := fun hb hne => by rw [upd_ne hne]; exact e14 _ _ hb
    have gp : g ≠ p := ne_of hg hp (by intro z; cases z)
    have ep : e ≠ p := ne_of he hp (by intro z; cases z)
    refine q_fld (ev_var rfl) (ev_var rfl) a4 (cl_Rule W) (na_ending W) (show (1 : Nat) < 1000 by decide) fun H5 e5 => ?_
    have a5 : (upd H5 p (.ins (He.ga K "Rule") dx (putF "ending" (.ref e) (putF "listed" (.ref l) [])))) p = some (.ins (He.ga K "Rule") dx (putF "ending" (.ref e) (putF "listed" (.ref l) []))) := upd_same
    refine q_fldN (en_lst (ea_cons ev_c ea_nil) (show (1 : Nat) ≤ 100000 by decide)) (ev_var rfl) a5 (cl_Rule W) (na_sums W) (show (2 : Nat) < 1000 by decide) fun t H6 ht e6 h6 => ?_
    have tp : t ≠ p := Ne.symm (ne_of_none a5 ht)
    have f6 : putF "sums" (.ref t) (putF "ending" (.ref e) (putF "listed" (.ref l) [])) = flR l e t := rfl
    rw [f6]
    -- what stood before
    have old6 : ∀ b o, H b = some o → b ≠ p → H6 b = some o := fun b o hb hne => e6 _ _ (by rw [upd_ne hne]; exact e5 _ _ (hold hb hne))
    have l6 : H6 l = some (.lst (R.gaps.map V.int)) := e6 _ _ (by rw [upd_ne lp]; exact e5 _ _ (by rw [upd_ne lp]; exact h4))
    have lt : l ≠ t := ne_of_none (show (upd H5 p (.ins (He.ga K "Rule") dx (putF "ending" (.ref e) (putF "listed" (.ref l) [])))) l = some (.lst (R.gaps.map V.int)) by rw [upd_ne lp]; exact e5 _ _ (by rw [upd_ne lp]; exact h4)) ht
    have nt : ∀ b o, H b = some o → b ≠ t := fun b o hb z => by
      by_cases hne : b = p
      · exact tp (by rw [← z, hne])
      · have := e5 _ _ (hold hb hne)
        rw [z] at this
        have h0 : (upd H5 p (.ins (He.ga K "Rule") dx (putF "ending" (.ref e) (putF "listed" (.ref l) [])))) t = some o := by rw [upd_ne tp]; exact this
        rw [ht] at h0
        cases h0
    refine s_forLn (a := g) (xs := R.gaps.map V.int) (ev_var rfl) (sq_of (by rw [upd_ne gp]; exact old6 _ _ hg gp)) (fun i σ' H' => ∃ v, σ' = [some (.ref p), some (.ref g), some (.ref e), v] ∧ (∀ b o, H b = some o → b ≠ p → H' b = some o) ∧ H' p = some (.ins (He.ga K "Rule") dx (flR l e t)) ∧ H' l = some (.lst (R.gaps.map V.int)) ∧ H' t = some (.lst ((List.range (i + 1)).map fun k => V.int (RS.off R k)))) ?_ ?_ ?_ ?_
    · intro H7 e7
      refine ⟨none, rfl, fun b o hb hne => e7 _ _ (by rw [upd_ne hne]; exact old6 _ _ hb hne), e7 _ _ upd_same, e7 _ _ (by rw [upd_ne lp]; exact l6), e7 _ _ (by rw [upd_ne tp]; exact h6)⟩
    · rintro i σ' H' hi ⟨v, rfl, q1, q2, q3, q4⟩
      exact sq_of (q1 _ _ hg gp)
    · rintro i x σ' H' hx ⟨v, rfl, q1, q2, q3, q4⟩
      have hi : i < R.n := by have := (List.getElem?_eq_some_iff.mp hx).1; rwa [List.length_map] at this
      have ex : x = .int (RS.gapAt R i) := by
        rw [List.getElem?_map, List.getElem?_eq_getElem hi] at hx
        have hx := (Option.some.inj hx).symm
        rw [hx]
        unfold RS.gapAt
        rw [if_pos hi, List.getD_eq_getElem?_getD, List.getElem?_eq_getElem hi]
        rfl
      subst ex
      have ls : ((List.range (i + 1)).map fun k => V.int (RS.off R k)) = ((List.range i).map fun k => V.int (RS.off R k)) ++ [.int (RS.off R i)] := by rw [List.range_succ, List.map_append]; rfl
      refine s_app q4 (ev_fld (ev_var rfl) q2 (cl_Rule W) (na_sums W) rfl) (ev_op (ev_ixL (eh_of (ev_fld (ev_var rfl) q2 (cl_Rule W) (na_sums W) rfl) q4) (ev_un ev_c ru_neg) (by rw [ls]; exact atI_last _ _)) (ev_var rfl) rv_I0) (by have := ok.len; rw [List.length_map, List.length_range]; omega) fun H8 e8 => ?_
      refine ⟨some (.int (RS.gapAt R i)), rfl, fun b o hb hne => by rw [upd_ne (nt b o hb)]; exact e8 _ _ (q1 b o hb hne), by rw [upd_ne (Ne.symm tp)]; exact e8 _ _ q2, by rw [upd_ne lt]; exact e8 _ _ q3, ?_⟩
      rw [upd_same, sums_snoc]
    · rintro σ' H' ⟨v, rfl, q1, q2, q3, q4⟩
      rw [List.length_map] at q4
      exact k H' ⟨dx, l, e, t, q2, q3, q1 _ _ he ep, q4⟩ q1
end RW
end

section
set_option Elab.async false
set_option linter.all false
set_option maxRecDepth 100000
set_option maxHeartbeats 4000000
namespace RW
open PySem L2 Evl
variable {P : Program} {w : World} {K : PySem.W.Frag} {mg : Str → Option Value} {base : Heap}
/-! ### Rule: gaps, tail, attempts, check_attempt -/
theorem sc_R_gaps : FnScope ["self"] ["self"] (defScope s_R_gaps) := ⟨rfl, rfl, rfl, by decide +kernel, rfl, by decide +kernel, by decide +kernel⟩
def sp_R_gaps (K : PySem.W.Frag) : Sp := fun vs H Q _ => ∃ (r : Addr) (R : RS.Rul), vs = [.ref r] ∧ RuleAt K H r R ∧ RetN (.lst (R.gaps.map V.int)) H Q
theorem ok_R_gaps (W : Wd K mg) : FnOk P w K mg base CX0 1 (a_R_gaps K) (f_R_gaps K) ["self"] (sp_R_gaps K) := by
  refine (F_R_gaps W).ok sc_R_gaps (fun vs H Q E h => ?_) (fun cdv A outer s H vs Q E hr h => ?_)
  · obtain ⟨r, R, rfl, _⟩ := h
    rfl
  · obtain ⟨r, R, rfl, ⟨dx, l, e, s, h1, h2, h3, h4⟩, k⟩ := h
    refine ⟨_, PSs.nox (pss_one (ps_ret (pe_callTy call_list_of (by rfl) (n_list W) (by decide +kernel) (pa_cons (pe_fld (pv 0) rfl) pa_nil)))), ?_⟩
    exact s_retN (en_list (eh_of (ev_fld (ev_var rfl) h1 (cl_Rule W) (na_listed W) rfl) h2)) k
theorem gaps_at {H : Hp} {r : Addr} {R : RS.Rul} (h : RuleAt K H r R) : SpN (sp_R_gaps K) [.ref r] H (.lst (R.gaps.map V.int)) := fun H1 e Q q _ => ⟨r, R, rfl, h.mono e, q⟩
theorem sc_R_tail : FnScope ["self"] ["self"] (defScope s_R_tail) := ⟨rfl, rfl, rfl, by decide +kernel, rfl, by decide +kernel, by decide +kernel⟩
def sp_R_tail (K : PySem.W.Frag) : Sp := fun vs H Q _ => ∃ (r : Addr) (R : RS.Rul), vs = [.ref r] ∧ RuleAt K H r R ∧ RetH (.tup (tailV R.tail)) H Q
theorem ok_R_tail (W : Wd K mg) : FnOk P w K mg base CX0 1 (a_R_tail K) (f_R_tail K) ["self"] (sp_R_tail K) := by
  refine (F_R_tail W).ok sc_R_tail (fun vs H Q E h => ?_) (fun cdv A outer s H vs Q E hr h => ?_)
  · obtain ⟨r, R, rfl, _⟩ := h
    rfl
  · obtain ⟨r, R, rfl, ⟨dx, l, e, s, h1, h2, h3, h4⟩, k⟩ := h
    refine ⟨_, PSs.nox (pss_one (ps_ret (pe_fld (pv 0) rfl))), ?_⟩
    exact s_ret (ev_fld (ev_var rfl) h1 (cl_Rule W) (na_ending W) rfl) fun H1 e1 => k _ _ e1 (e1 _ _ h3)
theorem tail_at {H : Hp} {r : Addr} {R : RS.Rul} (h : RuleAt K H r R) : SpH (sp_R_tail K) [.ref r] H (.tup (tailV R.tail)) := fun H1 e Q q _ => ⟨r, R, rfl, h.mono e, q⟩
/-- the first word of a tail is the end's -/
theorem tail0 (t : RS.Tail) : ∃ x : Str, atI (tailV t) 0 = some (.str x) ∧ (decide (x = "end") = match t with | .fin => true | _ => false) ∧ (decide (x = "times") = match t with | .tim _ => true | _ => false) ∧ (decide (x = "repeat") = match t with | .rep _ => true | _ => false) := by
  cases t with
  | fin => exact ⟨"end", rfl, show _ = true by decide +kernel, show _ = false by decide +kernel, show _ = false by decide +kernel⟩
  | tim b => exact ⟨"times", rfl, show _ = false by decide +kernel, show _ = true by decide +kernel, show _ = false by decide +kernel⟩
  | rep c => exact ⟨"repeat", rfl, show _ = false by decide +kernel, show _ = false by decide +kernel, show _ = true by decide +kernel⟩
def attV (R : RS.Rul) : V := match R.tail with
  | .fin => .int ((R.n + 1 : Nat) : Int)
  | _ => .non
theorem sc_R_attempts : FnScope ["self"] ["self"] (defScope s_R_attempts) := ⟨rfl, rfl, rfl, by decide +kernel, rfl, by decide +kernel, by decide +kernel⟩
def sp_R_attempts (K : PySem.W.Frag) : Sp := fun vs H Q _ => ∃ (r : Addr) (R : RS.Rul), vs = [.ref r] ∧ RuleAt K H r R ∧ RetV (attV R) H Q
theorem ok_R_attempts (W : Wd K mg) : FnOk P w K mg base CX0 1 (a_R_attempts K) (f_R_attempts K) ["self"] (sp_R_attempts K) := by
  refine (F_R_attempts W).ok sc_R_attempts (fun vs H Q E h => ?_) (fun cdv A outer s H vs Q E hr h => ?_)
  · obtain ⟨r, R, rfl, _⟩ := h
    rfl
  · obtain ⟨r, R, rfl, ⟨dx, l, e, s, h1, h2, h3, h4⟩, k⟩ := h
    refine ⟨_, PSs.nox (pss_one (ps_ret (pe_ifExp (pt_cmpR op_eq (pe_ix ix_tup (pe_fld (pv 0) rfl) pe_int (fun _ _ => rfl)) pe_str (nomark _)) (pe_callB call_len_seq (by rfl) (n_len W) (by decide +kernel) (pa_cons (pe_fld (pv 0) rfl) pa_nil)) pe_non))), ?_⟩
    obtain ⟨x, x1, x2, _, _⟩ := tail0 R.tail
    have ht : EvT (tTest (tOp rEq (tOp (rIxT K) (tFld K (tVar 0) "ending") (tC (.int 0))) (tC (.str "end")))) (L2.start ["self"] [.ref r]) H _ := et_is (et_test (ev_op (ev_ixT (eh_of (ev_fld (ev_var rfl) h1 (cl_Rule W) (na_ending W) rfl) h3) ev_c x1) ev_c rv_eqS)) x2
    cases hR : R.tail with
    | fin =>
      rw [hR] at ht
      refine s_ret (v := .int ((R.n + 1 : Nat) : Int)) (ev_if ht (fun _ => ?_) (fun z => by cases z)) ?_
      · rw [← sums_len R]
        exact ev_lenL (eh_of (ev_fld (ev_var rfl) h1 (cl_Rule W) (na_sums W) rfl) h4)
      · have : attV R = .int ((R.n + 1 : Nat) : Int) := by unfold attV; rw [hR]
        rw [← this]
        exact k
    | tim b =>
      rw [hR] at ht
      have : attV R = .non := by unfold attV; rw [hR]
      rw [this] at k
      exact s_ret (v := .non) (ev_if ht (fun z => by cases z) (fun _ => ev_c)) k
    | rep c =>
      rw [hR] at ht
      have : attV R = .non := by unfold attV; rw [hR]
      rw [this] at k
      exact s_ret (v := .non) (ev_if ht (fun z => by cases z) (fun _ => ev_c)) k
theorem attempts_at {H : Hp} {r : Addr} {R : RS.Rul} (h : RuleAt K H r R) : SpV (sp_R_attempts K) [.ref r] H (attV R) := fun H1 e Q q _ => ⟨r, R, rfl, h.mono e, q⟩
theorem sc_R_check_attempt : FnScope ["self", "attempt"] ["self", "attempt"] (defScope s_R_check_attempt) := ⟨rfl, rfl, rfl, by decide +kernel, rfl, by decide +kernel, by decide +kernel⟩
def sp_R_check_attempt (K : PySem.W.Frag) : Sp := fun vs H Q _ => ∃ (r : Addr) (R : RS.Rul) (k : Nat), vs = [.ref r, .int k] ∧ RuleAt K H r R ∧ RS.hasB R k = true ∧ (∀ b, R.tail = .tim b → k ≤ 1000) ∧ RetV .non H Q
theorem ok_R_check_attempt (W : Wd K mg) : FnOk P w K mg base CX0 2 (a_R_check_attempt K) (f_R_check_attempt K) ["self", "attempt"] (sp_R_check_attempt K) := by
  refine (F_R_check_attempt W).ok sc_R_check_attempt (fun vs H Q E h => ?_) (fun cdv A outer s H vs Q E hr h => ?_)
  · obtain ⟨r, R, k, rfl, _⟩ := h
    rfl
  · obtain ⟨r, R, n, rfl, ⟨dx, l, e, s, h1, h2, h3, h4⟩, hn, hb, k⟩ := h
    refine ⟨_, PSs.nox (pss_cons (ps_if (PW.pt (pw_or (pt_not (pt_val (pe_call (ok_is_integer W) (hr.mono (by decide)) (by rfl) (g_is_integer W) (F_is_integer W).kp (b_is_integer W) .nil pass0 (pa_cons (pv 1) pa_nil)))) (pw_or1 (pt_cmpR op_lt (pv 1) pe_int (nomark _))))) (pss_one ps_never) pss_nil)
    (pss_cons (ps_if (PW.pt (pw_and (pt_cmpR op_eq (pe_ix ix_tup (pe_fld (pv 0) rfl) pe_int (fun _ _ => rfl)) pe_str (nomark _)) (pw_and1 (pt_cmpR op_ge (pv 1) (pe_callB call_len_seq (by rfl) (n_len W) (by decide +kernel) (pa_cons (pe_fld (pv 0) rfl) pa_nil)) (nomark _))))) (pss_one ps_never) pss_nil)
    (pss_one (ps_if (PW.pt (pw_and (pt_cmpR op_eq (pe_ix ix_tup (pe_fld (pv 0) rfl) pe_int (fun _ _ => rfl)) pe_str (nomark _)) (pw_and1 (pt_cmpR op_gt (pv 1) (pe_glob (by rfl) (i_MOST_ATTEMPT W).choose_spec.1 (i_MOST_ATTEMPT W).choose_spec.2) (nomark _))))) (pss_one ps_never) pss_nil)))), ?_⟩
    obtain ⟨x, x1, x2, x3, _⟩ := tail0 R.tail
    have hx : ∀ H1, Ex H H1 → Ev (tOp (rIxT K) (tFld K (tVar 0) "ending") (tC (.int 0))) (L2.start ["self", "attempt"] [.ref r, .int (n : Int)]) H1 (.str x) := fun H1 e1 => ev_ixT (eh_of (ev_fld (ev_var rfl) (e1 _ _ h1) (cl_Rule W) (na_ending W) rfl) (e1 _ _ h3)) ev_c x1
    refine q_when (b := false) (et_is (et_or (et_not (et_B (ev_call (ea_cons (ev_var rfl) ea_nil) (is_integer_at (n : Int))))) fun _ => et_test (ev_op (ev_var rfl) ev_c rv_I0)) (by rw [decide_eq_false (by omega)]; rfl)) (fun z => by cases z) fun _ H1 e1 => ?_
    refine q_when (b := false) (et_is (et_and (et_test (ev_op (hx _ e1) ev_c rv_eqS)) fun _ => et_test (ev_op (ev_var rfl) (ev_lenL (eh_of (ev_fld (ev_var rfl) (e1 _ _ h1) (cl_Rule W) (na_sums W) rfl) (e1 _ _ h4))) rv_I0)) ?_) (fun z => by cases z) fun _ H2 e2 => ?_
    · rw [x2, sums_len]
      cases hR : R.tail with
      | fin =>
        unfold RS.hasB at hn
        rw [hR] at hn
        have := of_decide_eq_true hn
        rw [decide_eq_false (by omega)]
        rfl
      | tim b => rfl
      | rep c => rfl
    refine s_when (b := false) (et_is (et_and (et_test (ev_op (hx _ (e1.trans e2)) ev_c rv_eqS)) fun _ => et_test (ev_op (ev_var rfl) ev_c rv_I0)) ?_) (fun z => by cases z) fun _ H3 e3 => k H3 ((e1.trans e2).trans e3)
    rw [x3]
    cases hR : R.tail with
    | fin => rfl
    | rep c => rfl
    | tim b =>
      have := hb b hR
      rw [decide_eq_false (by omega)]
      rfl
theorem check_attempt_at {H : Hp} {r : Addr} {R : RS.Rul} {k : Nat} (h : RuleAt K H r R) (h1 : RS.hasB R k = true) (h2 : ∀ b, R.tail = .tim b → k ≤ 1000) : SpV (sp_R_check_attempt K) [.ref r, .int k] H .non := fun H1 e Q q _ => ⟨r, R, k, rfl, h.mono e, h1, h2, q⟩
/-! ### period, offset_of, offset -/
def perV (R : RS.Rul) : V := match R.tail with
  | .rep c => .int (RS.per R c)
  | _ => .non
theorem sc_R_period : FnScope ["self"] ["self"] (defScope s_R_period) := ⟨rfl, rfl, rfl, by decide +kernel, rfl, by decide +kernel, by decide +kernel⟩
def sp_R_period (K : PySem.W.Frag) : Sp := fun vs H Q _ => ∃ (r : Addr) (R : RS.Rul), vs = [.ref r] ∧ RuleAt K H r R ∧ R.Ok ∧ RetV (perV R) H Q
theorem ok_R_period (W : Wd K mg) : FnOk P w K mg base CX0 1 (a_R_period K) (f_R_period K) ["self"] (sp_R_period K) := by
  refine (F_R_period W).ok sc_R_period (fun vs H Q E h => ?_) (fun cdv A outer s H vs Q E hr h => ?_)
  · obtain ⟨r, R, rfl, _⟩ := h
    rfl
  · obtain ⟨r, R, rfl, ⟨dx, l, e, s, h1, h2, h3, h4⟩, ok, k⟩ := h
    refine ⟨_, PSs.nox (pss_cons (ps_if (pt_cmpR op_ne (pe_ix ix_tup (pe_fld (pv 0) rfl) pe_int (fun _ _ => rfl)) pe_str (nomark _)) (pss_one (ps_ret pe_non)) pss_nil)
    (pss_one (ps_ret (pe_op op_sub (pe_ix ix_list (pe_fld (pv 0) rfl) (pe_un un_neg pe_int) (fun _ _ => rfl)) (pe_ix ix_list (pe_fld (pv 0) rfl) (pe_op op_sub (pe_callB call_len_seq (by rfl) (n_len W) (by decide +kernel) (pa_cons (pe_fld (pv 0) rfl) pa_nil)) (pe_ix ix_tup (pe_fld (pv 0) rfl) pe_int (fun _ _ => rfl))) (fun _ _ => rfl)))))), ?_⟩
    cases hR : R.tail with
    | fin =>
      rw [hR] at h3
      have : perV R = .non := by unfold perV; rw [hR]
      rw [this] at k
      refine q_when (b := true) (et_is (et_test (ev_op (ev_ixT (eh_of (ev_fld (ev_var rfl) h1 (cl_Rule W) (na_ending W) rfl) h3) ev_c rfl) ev_c (rv_ne rfl))) (by decide +kernel)) (fun _ H1 e1 => ?_) (fun z => by cases z)
      exact s_ret ev_c fun H2 e2 => k H2 (e1.trans e2)
    | tim b =>
      rw [hR] at h3
      have : perV R = .non := by unfold perV; rw [hR]
      rw [this] at k
      refine q_when (b := true) (et_is (et_test (ev_op (ev_ixT (eh_of (ev_fld (ev_var rfl) h1 (cl_Rule W) (na_ending W) rfl) h3) ev_c rfl) ev_c (rv_ne rfl))) (by decide +kernel)) (fun _ H1 e1 => ?_) (fun z => by cases z)
      exact s_ret ev_c fun H2 e2 => k H2 (e1.trans e2)
    | rep c =>
      rw [hR] at h3
      have hc := ok.rep c hR
      have : perV R = .int (RS.per R c) := by unfold perV; rw [hR]
      rw [this] at k
      refine q_when (b := false) (et_is (et_test (ev_op (ev_ixT (eh_of (ev_fld (ev_var rfl) h1 (cl_Rule W) (na_ending W) rfl) h3) ev_c rfl) ev_c (rv_ne rfl))) (by decide +kernel)) (fun z => by cases z) fun _ H1 e1 => ?_
      have ix : atI (sumsV R) (((R.gaps.map V.int).length : Int) - (c : Int)) = some (.int (RS.off R (R.n - c))) := by
        have e : ((R.gaps.map V.int).length : Int) - (c : Int) = ((R.n - c : Nat) : Int) := by have : R.gaps.length = R.n := rfl; rw [List.length_map]; omega
        rw [e]
        exact sums_at (by omega)
      have es : ∀ H2, Ex H1 H2 → EvH (tFld K (tVar 0) "sums") (L2.start ["self"] [.ref r]) H2 (.lst (sumsV R)) := fun H2 e2 => eh_of (ev_fld (ev_var rfl) (e2 _ _ (e1 _ _ h1)) (cl_Rule W) (na_sums W) rfl) (e2 _ _ (e1 _ _ h4))
      exact s_ret (v := .int (RS.per R c)) (ev_op (ev_ixL (es _ (Ex.refl _)) (ev_un ev_c ru_neg) (sums_last R)) (ev_ixL (es _ (Ex.refl _)) (ev_op (ev_lenL (eh_of (ev_fld (ev_var rfl) (e1 _ _ h1) (cl_Rule W) (na_listed W) rfl) (e1 _ _ h2))) (ev_ixT (eh_of (ev_fld (ev_var rfl) (e1 _ _ h1) (cl_Rule W) (na_ending W) rfl) (e1 _ _ h3)) ev_c rfl) rv_I0) ix) rv_I0) fun H2 e2 => k H2 (e1.trans e2)
theorem period_at {H : Hp} {r : Addr} {R : RS.Rul} (h : RuleAt K H r R) (ok : R.Ok) : SpV (sp_R_period K) [.ref r] H (perV R) := fun H1 e Q q _ => ⟨r, R, rfl, h.mono e, ok, q⟩
theorem sc_R_offset_of : FnScope ["self", "attempt", "further", "factor", "count", "first", "partial"] ["self", "attempt"] (defScope s_R_offset_of) := ⟨rfl, rfl, rfl, by decide +kernel, rfl, by decide +kernel, by decide +kernel⟩
def sp_R_offset_of (K : PySem.W.Frag) : Sp := fun vs H Q _ => ∃ (r : Addr) (R : RS.Rul) (k : Nat), vs = [.ref r, .int k] ∧ RuleAt K H r R ∧ R.Ok ∧ RS.hasB R k = true ∧ RS.SzK R k ∧ RetV (.int (RS.off R k)) H Q
theorem ok_R_offset_of (W : Wd K mg) : FnOk P w K mg base CX0 2 (a_R_offset_of K) (f_R_offset_of K) ["self", "attempt"] (sp_R_offset_of K) := by
  refine (F_R_offset_of W).ok sc_R_offset_of (fun vs H Q E h => ?_) (fun cdv A outer s H vs Q E hr h => ?_)
  · obtain ⟨r, R, k, rfl, _⟩ := h
    rfl
  · obtain ⟨r, R, n, rfl, hA, ok, hn, hz, k⟩ := h
    obtain ⟨dx, l, e, s, h1, h2, h3, h4⟩ := id hA
    refine ⟨_, PSs.nox (pss_cons (ps_if (pt_cmpR op_lt (pv 1) (pe_callB call_len_seq (by rfl) (n_len W) (by decide +kernel) (pa_cons (pe_fld (pv 0) rfl) pa_nil)) (nomark _)) (pss_one (ps_ret (pe_ix ix_list (pe_fld (pv 0) rfl) (pv 1) (fun _ _ => rfl)))) pss_nil)
    (pss_cons (ps_set (i := 2) sc_R_offset_of.nd rfl (Or.inl rfl) (pe_op op_sub (pv 1) (pe_callB call_len_seq (by rfl) (n_len W) (by decide +kernel) (pa_cons (pe_fld (pv 0) rfl) pa_nil))))
    (pss_cons (ps_if (pt_cmpR op_eq (pe_ix ix_tup (pe_fld (pv 0) rfl) pe_int (fun _ _ => rfl)) pe_str (nomark _)) (pss_cons (ps_set (i := 3) sc_R_offset_of.nd rfl (Or.inl rfl) (pe_ix ix_tup (pe_fld (pv 0) rfl) pe_int (fun _ _ => rfl)))
      (pss_one (ps_ret (pe_op op_add (pe_ix ix_list (pe_fld (pv 0) rfl) (pe_un un_neg pe_int) (fun _ _ => rfl)) (pe_op op_fdivW (pe_op op_mul (pe_op op_mul (pe_ix ix_list (pe_fld (pv 0) rfl) (pe_un un_neg pe_int) (fun _ _ => rfl)) (pv 3)) (pe_op op_sub (pe_call (ok_power W) (hr.mono (by decide)) (by rfl) (g_power W) (F_power W).kp (b_power W) .nil pass0 (pa_cons (pv 3) (pa_cons (pv 2) pa_nil))) pe_int)) (pe_op op_sub (pv 3) pe_int)))))) pss_nil)
    (pss_cons (ps_set (i := 4) sc_R_offset_of.nd rfl (Or.inl rfl) (pe_ix ix_tup (pe_fld (pv 0) rfl) pe_int (fun _ _ => rfl)))
    (pss_cons (ps_set (i := 5) sc_R_offset_of.nd rfl (Or.inl rfl) (pe_op op_sub (pe_callB call_len_seq (by rfl) (n_len W) (by decide +kernel) (pa_cons (pe_fld (pv 0) rfl) pa_nil)) (pv 4)))
    (pss_cons (ps_set (i := 6) sc_R_offset_of.nd rfl (Or.inl rfl) (pe_op op_sub (pe_ix ix_list (pe_fld (pv 0) rfl) (pe_op op_add (pv 5) (pe_op op_mod (pv 2) (pv 4))) (fun _ _ => rfl)) (pe_ix ix_list (pe_fld (pv 0) rfl) (pv 5) (fun _ _ => rfl))))
    (pss_one (ps_ret (pe_op op_add (pe_op op_add (pe_ix ix_list (pe_fld (pv 0) rfl) (pe_un un_neg pe_int) (fun _ _ => rfl)) (pe_op op_mul (pe_op op_fdivW (pv 2) (pv 4)) (pe_meth0 (pv 0) (cl_Rule W) (m_R_period W) (ok_R_period W) (hr.mono (by decide)) (b_R_period W) .nil pass0))) (pv 6)))))))))), ?_⟩
    have es : ∀ {σ : L2.St} (hs : σ[0]? = some (some (.ref r))) H2, Ex H H2 → EvH (tFld K (tVar 0) "sums") σ H2 (.lst (sumsV R)) := fun hs H2 e2 => eh_of (ev_fld (ev_var hs) (e2 _ _ h1) (cl_Rule W) (na_sums W) rfl) (e2 _ _ h4)
    have el : ∀ {σ : L2.St} (hs : σ[0]? = some (some (.ref r))) H2, Ex H H2 → EvH (tFld K (tVar 0) "listed") σ H2 (.lst (R.gaps.map V.int)) := fun hs H2 e2 => eh_of (ev_fld (ev_var hs) (e2 _ _ h1) (cl_Rule W) (na_listed W) rfl) (e2 _ _ h2)
    have et : ∀ {σ : L2.St} (hs : σ[0]? = some (some (.ref r))) H2, Ex H H2 → EvH (tFld K (tVar 0) "ending") σ H2 (.tup (tailV R.tail)) := fun hs H2 e2 => eh_of (ev_fld (ev_var hs) (e2 _ _ h1) (cl_Rule W) (na_ending W) rfl) (e2 _ _ h3)
    refine q_when (et_test (ev_op (ev_var rfl) (ev_lenL (es rfl _ (Ex.refl H))) rv_I0)) (fun hb H1 e1 => ?_) fun hb H1 e1 => ?_
    · have hb := of_decide_eq_true hb
      rw [sums_len] at hb
      exact s_ret (ev_ixL (es rfl _ e1) (ev_var rfl) (sums_at (by omega))) fun H2 e2 => k H2 (e1.trans e2)
    · have hb := of_decide_eq_false hb
      rw [sums_len] at hb
      have hl : ((R.gaps.map V.int).length : Int) = (R.n : Int) := by rw [List.length_map]
      refine q_asg (ev_op (ev_var rfl) (ev_lenL (el rfl _ e1)) rv_I0) fun H2 e2 => ?_
      rw [hl, show (n : Int) - (R.n : Int) = ((n - R.n : Nat) : Int) by omega]
      have e12 := e1.trans e2
      cases hR : R.tail with
      | fin =>
        unfold RS.hasB at hn
        rw [hR] at hn
        have := of_decide_eq_true hn
        omega
      | tim b =>
        rw [hR] at et
        obtain ⟨b1, b2, b3⟩ := ok.tim b hR
        refine q_when (b := true) (et_is (et_test (ev_op (ev_ixT (et rfl _ e12) ev_c rfl) ev_c rv_eqS)) (by decide +kernel)) (fun _ H3 e3 => ?_) (fun z => by cases z)
        have e13 := e12.trans e3
        refine q_asg (ev_ixT (et rfl _ e13) ev_c rfl) fun H4 e4 => ?_
        have e14 := e13.trans e4
        have L1 := ok.gap (R.n - 1)
        have hz2 := hz b hR
        have bl : ∀ i : Int, 0 ≤ i → i ≤ 1000000000000 * 1000 → -(2 ^ 64) < i ∧ i < 2 ^ 64 := fun i _ _ => by omega
        have m1 : R.gaps.getD (R.n - 1) 1 * b ≤ 1000000000000 * 1000 := Int.mul_le_mul L1.2 b2 (by omega) (by omega)
        have m0 : 0 ≤ R.gaps.getD (R.n - 1) 1 * b := Int.mul_nonneg (by omega) (by omega)
        refine s_ret (v := .int (RS.off R n)) (ev_is (ev_op (ev_ixL (es rfl _ e14) (ev_un ev_c ru_neg) (sums_last R)) (ev_op (ev_op (ev_op (ev_ixL (el rfl _ e14) (ev_un ev_c ru_neg) (last_at b3)) (ev_var rfl) (rv_mul (.inl (bl _ (by have := L1.1; exact Int.le_trans (by decide) L1.1) (Int.le_trans L1.2 (by decide)))))) (ev_op (ev_call (ea_cons (ev_var rfl) (ea_cons (ev_var rfl) ea_nil)) (power_at (by omega) b2 (by omega))) ev_c rv_I0) (rv_mul (.inl (bl _ m0 m1)))) (ev_op (ev_var rfl) ev_c rv_I0) (rv_div ⟨by omega, ?_⟩)) rv_I0) ?_) fun H5 e5 => k H5 (e14.trans e5)
        · have := Nat.log2_lt (n := (b - 1).natAbs) (k := 10) (by omega)
          omega
        · have := RS.off_tim_div hR b1 (show R.n ≤ n by omega)
          rw [this, Int.fdiv_eq_ediv_of_nonneg _ (by omega)]
      | rep c =>
        rw [hR] at et
        obtain ⟨c1, c2⟩ := ok.rep c hR
        have c0 : (0 : Int) < (c : Int) := by omega
        refine q_when (b := false) (et_is (et_test (ev_op (ev_ixT (et rfl _ e12) ev_c rfl) ev_c rv_eqS)) (by decide +kernel)) (fun z => by cases z) fun _ H3 e3 => ?_
        have e13 := e12.trans e3
        refine q_asg (ev_ixT (et rfl _ e13) ev_c rfl) fun H4 e4 => ?_
        have e14 := e13.trans e4
        refine q_asg (ev_op (ev_lenL (el rfl _ e14)) (ev_var rfl) rv_I0) fun H5 e5 => ?_
        rw [hl, show (R.n : Int) - (c : Int) = ((R.n - c : Nat) : Int) by omega]
        have e15 := e14.trans e5
        have i1 : ((R.n - c : Nat) : Int) + ((n - R.n : Nat) : Int) % (c : Int) = ((R.n - c + (n - R.n) % c : Nat) : Int) := by rw [Int.natCast_add, Int.natCast_emod]
        have hm := Nat.mod_lt (n - R.n) c1
        refine q_asg (ev_op (ev_ixL (es rfl _ e15) (ev_op (ev_var rfl) (ev_op (ev_var rfl) (ev_var rfl) (rv_mod c0)) rv_I0) (by rw [i1]; exact sums_at (by omega))) (ev_ixL (es rfl _ e15) (ev_var rfl) (sums_at (by omega))) rv_I0) fun H6 e6 => ?_
        have e16 := e15.trans e6
        have pb := per_bound ok hR
        have pv : perV R = .int (RS.per R c) := by unfold perV; rw [hR]
        have pe : ∀ {σ : L2.St} (hs : σ[0]? = some (some (.ref r))), Ev (tMeth (He.ga K "Rule") "period" (sp_R_period K) [] E0 (tVar 0) tNil) σ H6 (.int (RS.per R c)) := fun hs => ev_is (ev_meth (ev_var hs) (e16 _ _ h1) rfl ea_nil (period_at (hA.mono e16) ok)) pv
        refine s_ret (v := .int (RS.off R n)) (ev_is (ev_op (ev_op (ev_ixL (es rfl _ e16) (ev_un ev_c ru_neg) (sums_last R)) (ev_op (ev_op (ev_var rfl) (ev_var rfl) (rv_div ⟨c0, ?_⟩)) (pe rfl) (rv_mul (.inr (by omega)))) rv_I0) (ev_var rfl) rv_I0) ?_) fun H7 e7 => k H7 (e16.trans e7)
        · have := ok.len
          have := Nat.log2_lt (n := (c : Int).natAbs) (k := 10) (by omega)
          omega
        · rw [← Int.natCast_ediv, ← RS.off_rep_form hR c1 c2 (show R.n ≤ n by omega)]
theorem offset_of_at {H : Hp} {r : Addr} {R : RS.Rul} {k : Nat} (h : RuleAt K H r R) (ok : R.Ok) (h1 : RS.hasB R k = true) (h2 : RS.SzK R k) : SpV (sp_R_offset_of K) [.ref r, .int k] H (.int (RS.off R k)) := fun H1 e Q q _ => ⟨r, R, k, rfl, h.mono e, ok, h1, h2, q⟩
theorem sc_R_offset : FnScope ["self", "attempt"] ["self", "attempt"] (defScope s_R_offset) := ⟨rfl, rfl, rfl, by decide +kernel, rfl, by decide +kernel, by decide +kernel⟩
def sp_R_offset (K : PySem.W.Frag) : Sp := fun vs H Q _ => ∃ (r : Addr) (R : RS.Rul) (k : Nat), vs = [.ref r, .int k] ∧ RuleAt K H r R ∧ R.Ok ∧ RS.hasB R k = true ∧ (∀ b, R.tail = .tim b → k ≤ 1000) ∧ RetV (.int (RS.off R k)) H Q
theorem ok_R_offset (W : Wd K mg) : FnOk P w K mg base CX0 3 (a_R_offset K) (f_R_offset K) ["self", "attempt"] (sp_R_offset K) := by
  refine (F_R_offset W).ok sc_R_offset (fun vs H Q E h => ?_) (fun cdv A outer s H vs Q E hr h => ?_)
  · obtain ⟨r, R, k, rfl, _⟩ := h
    rfl
  · obtain ⟨r, R, n, rfl, hA, ok, hn, hz, k⟩ := h
    obtain ⟨dx, l, e, s, h1, h2, h3, h4⟩ := id hA
    refine ⟨_, PSs.nox (pss_cons (ps_expr (pe_meth (pv 0) (cl_Rule W) (m_R_check_attempt W) (ok_R_check_attempt W) (hr.mono (by decide)) (b_R_check_attempt W) .nil pass0 (pa_cons (pv 1) pa_nil)))
    (pss_one (ps_ret (pe_meth (pv 0) (cl_Rule W) (m_R_offset_of W) (ok_R_offset_of W) (hr.mono (by decide)) (b_R_offset_of W) .nil pass0 (pa_cons (pv 1) pa_nil))))), ?_⟩
    refine q_drop (ev_meth (ev_var rfl) h1 rfl (ea_cons (ev_var rfl) ea_nil) (check_attempt_at hA hn hz)) fun H1 e1 => ?_
    exact s_ret (ev_meth (ev_var rfl) (e1 _ _ h1) rfl (ea_cons (ev_var rfl) ea_nil) (offset_of_at (hA.mono e1) ok hn (fun b hb => by have := hz b hb; omega))) fun H2 e2 => k H2 (e1.trans e2)
theorem offset_at {H : Hp} {r : Addr} {R : RS.Rul} {k : Nat} (h : RuleAt K H r R) (ok : R.Ok) (h1 : RS.hasB R k = true) (h2 : ∀ b, R.tail = .tim b → k ≤ 1000) : SpV (sp_R_offset K) [.ref r, .int k] H (.int (RS.off R k)) := fun H1 e Q q _ => ⟨r, R, k, rfl, h.mono e, ok, h1, h2, q⟩
end RW
end

section
set_option Elab.async false
set_option linter.all false
set_option maxRecDepth 100000
set_option maxHeartbeats 4000000
namespace RW
open PySem L2 Evl
variable {P : Program} {w : World} {K : PySem.W.Frag} {mg : Str → Option Value} {base : Heap}
theorem sc_R_first_from : FnScope ["self", "distance", "attempt", "offset"] ["self", "distance"] (defScope s_R_first_from) := ⟨rfl, rfl, rfl, by decide +kernel, rfl, by decide +kernel, by decide +kernel⟩
def sp_R_first_from (K : PySem.W.Frag) : Sp := fun vs H Q _ => ∃ (r : Addr) (R : RS.Rul) (d : Int), vs = [.ref r, .int d] ∧ RuleAt K H r R ∧ R.Ok ∧ RS.SzD R d ∧ RetV (optV (RS.ffr R d)) H Q
theorem szk_of {R : RS.Rul} (ok : R.Ok) {d : Int} (hz : RS.SzD R d) {a : Nat} (h : ∀ j, j < a → RS.off R j < d) : RS.SzK R a := fun b hb => by
  obtain ⟨k, h1, h2⟩ := hz b hb
  apply Decidable.byContradiction
  intro q
  have := h k (by omega)
  omega
theorem ok_R_first_from (W : Wd K mg) : FnOk P w K mg base CX0 3 (a_R_first_from K) (f_R_first_from K) ["self", "distance"] (sp_R_first_from K) := by
  refine (F_R_first_from W).ok sc_R_first_from (fun vs H Q E h => ?_) (fun cdv A outer s H vs Q E hr h => ?_)
  · obtain ⟨r, R, d, rfl, _⟩ := h
    rfl
  · obtain ⟨r, R, d, rfl, hA, ok, hz, k⟩ := h
    obtain ⟨dx, l, e, s, h1, h2, h3, h4⟩ := id hA
    refine ⟨_, PSs.nox (pss_cons (ps_if (pt_not (pt_val (pe_call (ok_is_integer W) (hr.mono (by decide)) (by rfl) (g_is_integer W) (F_is_integer W).kp (b_is_integer W) .nil pass0 (pa_cons (pv 1) pa_nil)))) (pss_one ps_never) pss_nil)
    (pss_cons (ps_for PassesOwn.never rfl (pi_enum (by rfl) (n_enumerate W) (pa_cons (pe_fld (pv 0) rfl) pa_nil)) (pg_tup rfl (pgs_cons (pg_name (i := 2) sc_R_first_from.nd rfl (Or.inl rfl)) (pgs_cons (pg_name (i := 3) sc_R_first_from.nd rfl (Or.inl rfl)) pgs_nil))) (pss_one (ps_if (pt_cmpR op_ge (pv 3) (pv 1) (nomark _)) (pss_one (ps_ret (pv 2))) pss_nil)))
    (pss_cons (ps_if (pt_cmpR op_eq (pe_ix ix_tup (pe_fld (pv 0) rfl) pe_int (fun _ _ => rfl)) pe_str (nomark _)) (pss_one (ps_ret pe_non)) pss_nil)
    (pss_cons (ps_set (i := 2) sc_R_first_from.nd rfl (Or.inl rfl) (pe_callB call_len_seq (by rfl) (n_len W) (by decide +kernel) (pa_cons (pe_fld (pv 0) rfl) pa_nil)))
    (pss_cons (ps_if (pt_cmpR op_eq (pe_ix ix_tup (pe_fld (pv 0) rfl) pe_int (fun _ _ => rfl)) pe_str (nomark _)) (pss_one (ps_set (i := 2) sc_R_first_from.nd rfl (Or.inl rfl) (pe_op op_add (pv 2) (pe_op op_mul (pe_op op_fdivW (pe_op op_sub (pv 1) (pe_ix ix_list (pe_fld (pv 0) rfl) (pe_un un_neg pe_int) (fun _ _ => rfl))) (pe_meth0 (pv 0) (cl_Rule W) (m_R_period W) (ok_R_period W) (hr.mono (by decide)) (b_R_period W) .nil pass0)) (pe_ix ix_tup (pe_fld (pv 0) rfl) pe_int (fun _ _ => rfl)))))) pss_nil)
    (pss_cons (ps_while PassesOwn.never (pt_cmpR op_lt (pe_meth (pv 0) (cl_Rule W) (m_R_offset_of W) (ok_R_offset_of W) (hr.mono (by decide)) (b_R_offset_of W) .nil pass0 (pa_cons (pv 2) pa_nil)) (pv 1) (nomark _)) (pss_one (ps_set (i := 2) sc_R_first_from.nd rfl (Or.inl rfl) (pe_op op_add (pv 2) pe_int))))
    (pss_one (ps_ret (pv 2))))))))), ?_⟩
    have es : ∀ {σ : L2.St} (hs : σ[0]? = some (some (.ref r))) H2, Ex H H2 → EvH (tFld K (tVar 0) "sums") σ H2 (.lst (sumsV R)) := fun hs H2 e2 => eh_of (ev_fld (ev_var hs) (e2 _ _ h1) (cl_Rule W) (na_sums W) rfl) (e2 _ _ h4)
    have el : ∀ {σ : L2.St} (hs : σ[0]? = some (some (.ref r))) H2, Ex H H2 → EvH (tFld K (tVar 0) "listed") σ H2 (.lst (R.gaps.map V.int)) := fun hs H2 e2 => eh_of (ev_fld (ev_var hs) (e2 _ _ h1) (cl_Rule W) (na_listed W) rfl) (e2 _ _ h2)
    have et : ∀ {σ : L2.St} (hs : σ[0]? = some (some (.ref r))) H2, Ex H H2 → EvH (tFld K (tVar 0) "ending") σ H2 (.tup (tailV R.tail)) := fun hs H2 e2 => eh_of (ev_fld (ev_var hs) (e2 _ _ h1) (cl_Rule W) (na_ending W) rfl) (e2 _ _ h3)
    obtain ⟨x, x1, x2, _, x4⟩ := tail0 R.tail
    refine q_when (b := false) (et_not (et_B (ev_call (ea_cons (ev_var rfl) ea_nil) (is_integer_at d)))) (fun z => by cases z) fun _ H1 e1 => ?_
    -- the listed attempts
    refine ev_go (ev_fld (ev_var rfl) (e1 _ _ h1) (cl_Rule W) (na_sums W) rfl) fun H2 e2 => ?_
    have e12 := e1.trans e2
    refine ⟨s, sumsV R, rfl, sq_of (e12 _ _ h4), for_it (walk_enum (K := K) (a := s) (xs := sumsV R)) (fun i σ' H' => Ex H H' ∧ (∃ v2 v3, σ' = [some (.ref r), some (.int d), v2, v3]) ∧ ∀ j, j < i → RS.off R j < d) ⟨e12, ⟨none, none, rfl⟩, fun j hj => by omega⟩ (fun i σ' H' _ p => sq_of (p.1 _ _ h4)) ?_ ?_⟩
    · rintro i x σ' H' H'' hi ⟨e3, ⟨v2, v3, rfl⟩, hj⟩ ⟨T, y1, y2, rfl, hT, rfl, q1, q2⟩
      have q1 : V.int (i : Nat) = y1 := Option.some.inj q1
      subst q1
      rw [sums_len] at hi
      have q2 : (sumsV R)[i]? = some y2 := q2
      rw [sums_get (show i ≤ R.n by omega)] at q2
      have q2 : V.int (RS.off R i) = y2 := Option.some.inj q2
      subst q2
      refine gTup2_of upd_same ?_
      have e4 : Ex H (upd H' T (.tup [.int (i : Nat), .int (RS.off R i)])) := e3.trans (Ex.new hT)
      refine s_when (b := decide (d ≤ RS.off R i)) (et_test (ev_op (ev_var rfl) (ev_var rfl) rv_I0)) (fun hb H5 e5 => ?_) fun hb H5 e5 => ?_
      · have hb := of_decide_eq_true hb
        have hf : RS.ffr R d = some i := (RS.ffr_some ok).mpr ⟨by unfold RS.hasB; split; exact decide_eq_true (by omega); rfl, hb, hj⟩
        rw [hf] at k
        exact s_ret (ev_var rfl) fun H6 e6 => k H6 ((e4.trans e5).trans e6)
      · have hb := of_decide_eq_false hb
        exact ⟨e4.trans e5, ⟨_, _, rfl⟩, fun j hj2 => by
          by_cases z : j = i
          · rw [z]; omega
          · exact hj j (by omega)⟩
    · rintro σ' H' ⟨e3, ⟨v2, v3, rfl⟩, hj⟩
      rw [sums_len] at hj
      have tl : ∀ (m : Bool) H4, Ex H H4 → EvT (tTest (tOp rEq (tOp (rIxT K) (tFld K (tVar 0) "ending") (tC (.int 0))) (tC (.str "end")))) [some (.ref r), some (.int d), v2, v3] H4 _ := fun _ H4 e4 => et_is (et_test (ev_op (ev_ixT (et rfl _ e4) ev_c x1) ev_c rv_eqS)) x2
      -- the while behind the listed attempts
      have loop : ∀ (a0 : Nat) H5, Ex H H5 → R.n ≤ a0 → (∀ j, j < a0 → RS.off R j < d) → (∀ a, RS.hasB R a = true) →
          tSeq (tWhile (tTest (tOp (rI0 fun i j => .bl (decide (i < j))) (tMeth (He.ga K "Rule") "offset_of" (sp_R_offset_of K) [] E0 (tVar 0) (tCons (tVar 2) tNil)) (tVar 1))) (tAsg (tOp (rI0 fun i j => .int (i + j)) (tVar 2) (tC (.int 1))) (gName 2))) (tRet (tVar 2)) { nx := fun _ H' => Q .non H', rt := Q } [some (.ref r), some (.int d), some (.int (a0 : Int)), v3] H5 := by
        intro a0 H5 e5 hn ha hB
        refine q_while (fun m σ2 H6 => ∃ a : Nat, Ex H H6 ∧ σ2 = [some (.ref r), some (.int d), some (.int (a : Int)), v3] ∧ R.n ≤ a ∧ (∀ j, j < a → RS.off R j < d) ∧ m = (d - RS.off R a).toNat) _ ⟨a0, e5, rfl, hn, ha, rfl⟩ ?_
        rintro m σ2 H6 ⟨a, e6, rfl, hna, hja, hm⟩
        refine ⟨decide (RS.off R a < d), et_test (ev_op (ev_meth (ev_var rfl) (e6 _ _ h1) rfl (ea_cons (ev_var rfl) ea_nil) (offset_of_at (hA.mono e6) ok (hB a) (szk_of ok hz hja))) (ev_var rfl) rv_I0), fun hb H7 e7 => ?_, fun hb H7 e7 => ?_⟩
        · have hb := of_decide_eq_true hb
          refine ⟨fun σ3 H8 => ∃ a : Nat, Ex H H8 ∧ σ3 = [some (.ref r), some (.int d), some (.int (a : Int)), v3] ∧ R.n ≤ a ∧ (∀ j, j < a → RS.off R j < d) ∧ (d - RS.off R a).toNat < m, fun σ3 H8 ⟨a', q1, q2, q3, q4, q5⟩ => ⟨_, q5, a', q1, q2, q3, q4, rfl⟩, ?_⟩
          refine s_asg (ev_op (ev_var rfl) ev_c rv_I0) fun H8 e8 => ⟨a + 1, (e6.trans e7).trans e8, rfl, by omega, fun j hj2 => ?_, ?_⟩
          · by_cases z : j = a
            · rw [z]; exact hb
            · exact hja j (by omega)
          · have := RS.off_lt ok (show a < a + 1 by omega)
            omega
        · have hb := of_decide_eq_false hb
          have hf : RS.ffr R d = some a := (RS.ffr_some ok).mpr ⟨hB a, by omega, hja⟩
          rw [hf] at k
          exact s_ret (ev_var rfl) fun H8 e8 => k H8 ((e6.trans e7).trans e8)
      cases hR : R.tail with
      | fin =>
        rw [hR] at x2
        refine q_when (b := true) (et_is (et_test (ev_op (ev_ixT (et rfl _ e3) ev_c x1) ev_c rv_eqS)) x2) (fun _ H4 e4 => ?_) (fun z => by cases z)
        have hf : RS.ffr R d = none := (RS.ffr_none ok).mpr fun j hj2 => by
          unfold RS.hasB at hj2
          rw [hR] at hj2
          have := of_decide_eq_true hj2
          exact hj j (by omega)
        rw [hf] at k
        exact s_ret ev_c fun H5 e5 => k H5 ((e3.trans e4).trans e5)
      | tim b =>
        rw [hR] at x2 x4
        have hB : ∀ a, RS.hasB R a = true := fun a => by unfold RS.hasB; rw [hR]
        refine q_when (b := false) (et_is (et_test (ev_op (ev_ixT (et rfl _ e3) ev_c x1) ev_c rv_eqS)) x2) (fun z => by cases z) fun _ H4 e4 => ?_
        refine q_asg (ev_lenL (el rfl _ (e3.trans e4))) fun H5 e5 => ?_
        rw [show (((R.gaps.map V.int).length : Nat) : Int) = ((R.n : Nat) : Int) by rw [List.length_map]]
        have e35 := (e3.trans e4).trans e5
        refine q_when (b := false) (et_is (et_test (ev_op (ev_ixT (et rfl _ e35) ev_c x1) ev_c rv_eqS)) x4) (fun z => by cases z) fun _ H6 e6 => ?_
        exact loop R.n H6 (e35.trans e6) (Nat.le_refl _) (fun j hj2 => hj j (by omega)) hB
      | rep c =>
        rw [hR] at x2 x4
        obtain ⟨c1, c2⟩ := ok.rep c hR
        have hB : ∀ a, RS.hasB R a = true := fun a => by unfold RS.hasB; rw [hR]
        refine q_when (b := false) (et_is (et_test (ev_op (ev_ixT (et rfl _ e3) ev_c x1) ev_c rv_eqS)) x2) (fun z => by cases z) fun _ H4 e4 => ?_
        refine q_asg (ev_lenL (el rfl _ (e3.trans e4))) fun H5 e5 => ?_
        rw [show (((R.gaps.map V.int).length : Nat) : Int) = ((R.n : Nat) : Int) by rw [List.length_map]]
        have e35 := (e3.trans e4).trans e5
        have pb := per_bound ok hR
        have pv : perV R = .int (RS.per R c) := by unfold perV; rw [hR]
        have hlast := hj R.n (by omega)
        refine q_when (b := true) (et_is (et_test (ev_op (ev_ixT (et rfl _ e35) ev_c x1) ev_c rv_eqS)) x4) (fun _ H6 e6 => ?_) (fun z => by cases z)
        have e36 := e35.trans e6
        have ln := ok.len
        refine s_asg (ev_op (ev_var rfl) (ev_op (ev_op (ev_op (ev_var rfl) (ev_ixL (es rfl _ e36) (ev_un ev_c ru_neg) (sums_last R)) rv_I0) (ev_is (ev_meth (ev_var rfl) (e36 _ _ h1) rfl ea_nil (period_at (hA.mono e36) ok)) pv) (rv_div ⟨by omega, ?_⟩)) (ev_ixT (by have := et (σ := [some (.ref r), some (.int d), some (.int (R.n : Int)), v3]) rfl _ e36; rw [hR] at this; exact this) ev_c rfl) (rv_mul (.inr (by omega)))) rv_I0) fun H7 e7 => ?_
        · have := Nat.log2_lt (n := (RS.per R c).natAbs) (k := 50) (by omega)
          omega
        · have hq : (d - RS.off R R.n) / RS.per R c * (c : Int) = (((d - RS.off R R.n) / RS.per R c).toNat * c : Nat) := by
            have : 0 ≤ (d - RS.off R R.n) / RS.per R c := Int.ediv_nonneg (by omega) (by omega)
            rw [Int.natCast_mul, Int.toNat_of_nonneg this]
          have hle : RS.off R (R.n + ((d - RS.off R R.n) / RS.per R c).toNat * c) ≤ d := by
            rw [RS.off_reps hR c1 c2 (show R.n - c ≤ R.n by omega)]
            have h0 : 0 ≤ (d - RS.off R R.n) / RS.per R c := Int.ediv_nonneg (by omega) (by omega)
            rw [Int.toNat_of_nonneg h0]
            have := Int.ediv_mul_le (d - RS.off R R.n) (show RS.per R c ≠ 0 by omega)
            omega
          rw [hq]
          have := loop (R.n + ((d - RS.off R R.n) / RS.per R c).toNat * c) H7 (e36.trans e7) (by omega) (fun j hj2 => by have := RS.off_lt ok hj2; omega) hB
          rw [Int.natCast_add] at this
          exact this
theorem first_from_at {H : Hp} {r : Addr} {R : RS.Rul} {d : Int} (h : RuleAt K H r R) (ok : R.Ok) (h1 : RS.SzD R d) : SpV (sp_R_first_from K) [.ref r, .int d] H (optV (RS.ffr R d)) := fun H1 e Q q _ => ⟨r, R, d, rfl, h.mono e, ok, h1, q⟩
theorem sc_R_attempt_at : FnScope ["self", "distance", "attempt"] ["self", "distance"] (defScope s_R_attempt_at) := ⟨rfl, rfl, rfl, by decide +kernel, rfl, by decide +kernel, by decide +kernel⟩
def sp_R_attempt_at (K : PySem.W.Frag) : Sp := fun vs H Q _ => ∃ (r : Addr) (R : RS.Rul) (d : Int), vs = [.ref r, .int d] ∧ RuleAt K H r R ∧ R.Ok ∧ RS.SzD R d ∧ RetV (optV (RS.atr R d)) H Q
theorem ok_R_attempt_at (W : Wd K mg) : FnOk P w K mg base CX0 4 (a_R_attempt_at K) (f_R_attempt_at K) ["self", "distance"] (sp_R_attempt_at K) := by
  refine (F_R_attempt_at W).ok sc_R_attempt_at (fun vs H Q E h => ?_) (fun cdv A outer s H vs Q E hr h => ?_)
  · obtain ⟨r, R, d, rfl, _⟩ := h
    rfl
  · obtain ⟨r, R, d, rfl, hA, ok, hz, k⟩ := h
    obtain ⟨dx, l, e, s, h1, h2, h3, h4⟩ := id hA
    refine ⟨_, PSs.nox (pss_cons (ps_set (i := 2) sc_R_attempt_at.nd rfl (Or.inl rfl) (pe_meth (pv 0) (cl_Rule W) (m_R_first_from W) (ok_R_first_from W) (hr.mono (by decide)) (b_R_first_from W) .nil pass0 (pa_cons (pv 1) pa_nil)))
    (pss_cons (ps_if (PW.pt (pw_or (pt_cmpR op_isN (pv 2) pe_non (nomark _)) (pw_or1 (pt_cmpR op_ne (pe_meth (pv 0) (cl_Rule W) (m_R_offset_of W) (ok_R_offset_of W) (hr.mono (by decide)) (b_R_offset_of W) .nil pass0 (pa_cons (pv 2) pa_nil)) (pv 1) (nomark _))))) (pss_one (ps_ret pe_non)) pss_nil)
    (pss_one (ps_ret (pv 2))))), ?_⟩
    refine q_asg (ev_meth (ev_var rfl) h1 rfl (ea_cons (ev_var rfl) ea_nil) (first_from_at hA ok hz)) fun H1 e1 => ?_
    cases hf : RS.ffr R d with
    | none =>
      have ha : RS.atr R d = none := by unfold RS.atr; rw [hf]
      rw [ha] at k
      refine q_when (b := true) (et_or (a := true) (b := true) (et_test (ev_op (ev_var rfl) ev_c rv_isN)) (fun z => by cases z)) (fun _ H2 e2 => ?_) (fun z => by cases z)
      exact s_ret ev_c fun H3 e3 => k H3 ((e1.trans e2).trans e3)
    | some a =>
      have hs := (RS.ffr_some ok).mp hf
      have ha : RS.atr R d = if RS.off R a = d then some a else none := by unfold RS.atr; rw [hf]
      refine q_when (et_or (a := false) (et_test (ev_op (ev_var rfl) ev_c rv_isN)) fun _ => et_test (ev_op (ev_meth (ev_var rfl) (e1 _ _ h1) rfl (ea_cons (ev_var rfl) ea_nil) (offset_of_at (hA.mono e1) ok hs.1 (szk_of ok hz hs.2.2))) (ev_var rfl) rv_neI)) (fun hb H2 e2 => ?_) fun hb H2 e2 => ?_
      · have hb : (!decide (RS.off R a = d)) = true := hb
        rw [if_neg (by simpa using hb)] at ha
        rw [ha] at k
        exact s_ret ev_c fun H3 e3 => k H3 ((e1.trans e2).trans e3)
      · have hb : (!decide (RS.off R a = d)) = false := hb
        rw [if_pos (by simpa using hb)] at ha
        rw [ha] at k
        exact s_ret (ev_var rfl) fun H3 e3 => k H3 ((e1.trans e2).trans e3)
theorem attempt_at_at {H : Hp} {r : Addr} {R : RS.Rul} {d : Int} (h : RuleAt K H r R) (ok : R.Ok) (h1 : RS.SzD R d) : SpV (sp_R_attempt_at K) [.ref r, .int d] H (optV (RS.atr R d)) := fun H1 e Q q _ => ⟨r, R, d, rfl, h.mono e, ok, h1, q⟩
end RW
end

section
set_option Elab.async false
set_option linter.all false
set_option maxRecDepth 100000
set_option maxHeartbeats 4000000
namespace RW
open PySem L2 Evl
variable {P : Program} {w : World} {K : PySem.W.Frag} {mg : Str → Option Value} {base : Heap}
/-! ### data: a scene as it stands -/
def flS (r l w : Addr) (n : Int) : List (Str × V) := [("its_rule", V.ref r), ("its_starts", V.ref l), ("windows", V.ref w), ("its_length", V.int n)]
def winV (o : Int × Int) : List V := [.int o.1, .int o.2]
def WinsAt (H : Hp) (ws : List Addr) (os : List (Int × Int)) : Prop := ws.length = os.length ∧ ∀ (i : Nat) (a : Addr) (o : Int × Int), ws[i]? = some a → os[i]? = some o → H a = some (.tup (winV o))
theorem WinsAt.mono {H H' : Hp} {ws : List Addr} {os : List (Int × Int)} (e : Ex H H') (h : WinsAt H ws os) : WinsAt H' ws os := ⟨h.1, fun i a o h1 h2 => e _ _ (h.2 i a o h1 h2)⟩
def SceneAt (K : PySem.W.Frag) (H : Hp) (p : Addr) (S : RS.Scn) : Prop := ∃ dx r l w ws, H p = some (.ins (He.ga K "Scene") dx (flS r l w S.len)) ∧ RuleAt K H r S.rule ∧ H l = some (.lst (S.starts.map V.int)) ∧ H w = some (.lst (ws.map V.ref)) ∧ WinsAt H ws S.outs
theorem SceneAt.mono {H H' : Hp} {p : Addr} {S : RS.Scn} (e : Ex H H') (h : SceneAt K H p S) : SceneAt K H' p S := by
  obtain ⟨dx, r, l, w, ws, h1, h2, h3, h4, h5⟩ := h
  exact ⟨dx, r, l, w, ws, e _ _ h1, h2.mono e, e _ _ h3, e _ _ h4, h5.mono e⟩
theorem wins_get {H : Hp} {ws : List Addr} {os : List (Int × Int)} (h : WinsAt H ws os) {i : Nat} (hi : i < os.length) : ws[i]? = some (ws[i]'(by have := h.1; omega)) ∧ H (ws[i]'(by have := h.1; omega)) = some (.tup (winV os[i])) := by
  have hl := h.1
  have e1 : ws[i]? = some (ws[i]'(by omega)) := List.getElem?_eq_getElem (by omega)
  exact ⟨e1, h.2 i _ _ e1 (List.getElem?_eq_getElem hi)⟩
theorem b_get {S : RS.Scn} {c : Nat} (h : c < S.m) : (S.starts.map V.int)[c]? = some (.int (S.b c)) := by
  rw [List.getElem?_map, List.getElem?_eq_getElem h]
  unfold RS.Scn.b
  rw [List.getD_eq_getElem?_getD, List.getElem?_eq_getElem h]
  rfl
/-! ### check_starts, is_window, check_outages -/
theorem sc_check_starts : FnScope ["starts", "at", "start"] ["starts"] (defScope s_check_starts) := ⟨rfl, rfl, rfl, by decide +kernel, rfl, by decide +kernel, by decide +kernel⟩
def sp_check_starts : Sp := fun vs H Q _ => ∃ (a : Addr) (ns : List Int), vs = [.ref a] ∧ H a = some (.lst (ns.map V.int)) ∧ 1 ≤ ns.length ∧ ns.length ≤ 40 ∧ RetV .non H Q
theorem ok_check_starts (W : Wd K mg) : FnOk P w K mg base CX0 2 (a_check_starts K) (f_check_starts K) ["starts"] sp_check_starts := by
  refine (F_check_starts W).ok sc_check_starts (fun vs H Q E h => ?_) (fun cdv A outer s H vs Q E hr h => ?_)
  · obtain ⟨a, ns, rfl, _⟩ := h
    rfl
  · obtain ⟨a, ns, rfl, ha, n1, n2, k⟩ := h
    refine ⟨_, PSs.nox (pss_cons (ps_if (PW.pt (pw_or (pt_not (pt_val (pe_callB call_isi (by rfl) (n_isinstance W) (by decide +kernel) (pa_cons (pv 0) (pa_cons (pe_bltn (v := .ty "list") (by rfl) (n_list W) (by decide +kernel) rfl) pa_nil))))) (pw_or1 (pt_not (pt_chain op_le op_le pe_int (pe_callB call_len_seq (by rfl) (n_len W) (by decide +kernel) (pa_cons (pv 0) pa_nil)) (pe_glob (by rfl) (i_MOST_CLIENTS W).choose_spec.1 (i_MOST_CLIENTS W).choose_spec.2)))))) (pss_one ps_never) pss_nil)
    (pss_one (ps_for PassesOwn.never rfl (pi_enum (by rfl) (n_enumerate W) (pa_cons (pv 0) pa_nil)) (pg_tup rfl (pgs_cons (pg_name (i := 1) sc_check_starts.nd rfl (Or.inl rfl)) (pgs_cons (pg_name (i := 2) sc_check_starts.nd rfl (Or.inl rfl)) pgs_nil))) (pss_one (ps_if (pt_not (pt_val (pe_call (ok_is_integer W) (hr.mono (by decide)) (by rfl) (g_is_integer W) (F_is_integer W).kp (b_is_integer W) .nil pass0 (pa_cons (pv 2) pa_nil)))) (pss_one ps_never) pss_nil))))), ?_⟩
    have hl : ((ns.map V.int).length : Int) = (ns.length : Int) := by rw [List.length_map]
    refine q_when (b := false) (et_is (et_or (et_not (et_B (ev_cb (ea_cons (ev_var rfl) (ea_cons ev_c ea_nil)) (rc_isi (.ty _) (fun H1 e1 => .base (.lst (e1 _ _ ha))) (kitL K))))) fun _ => et_not (et_test (ev_chain ev_c (ev_lenL (eh_of (ev_var rfl) ha)) rv_I0 (fun _ => ev_c) fun _ => rv_I0))) (by rw [hl, decide_eq_true (show (1 : Int) ≤ (ns.length : Int) by omega), decide_eq_true (show (ns.length : Int) ≤ 40 by omega)]; rfl)) (fun z => by cases z) fun _ H1 e1 => ?_
    refine ev_go (ev_var rfl) fun H2 e2 => ?_
    have e12 := e1.trans e2
    refine ⟨a, ns.map V.int, rfl, sq_of (e12 _ _ ha), for_it (walk_enum (K := K) (a := a) (xs := ns.map V.int)) (fun i σ' H' => Ex H H' ∧ ∃ v2 v3, σ' = [some (.ref a), v2, v3]) ⟨e12, none, none, rfl⟩ (fun i σ' H' _ p => sq_of (p.1 _ _ ha)) ?_ ?_⟩
    · rintro i x σ' H' H'' hi ⟨e3, v2, v3, rfl⟩ ⟨T, y1, y2, rfl, hT, rfl, q1, q2⟩
      rw [List.length_map] at hi
      have q2 : (ns.map V.int)[i]? = some y2 := q2
      rw [List.getElem?_map, List.getElem?_eq_getElem hi] at q2
      have q2 := Option.some.inj q2
      subst q2
      refine gTup2_of upd_same ?_
      refine s_when (b := false) (et_not (et_B (ev_call (ea_cons (ev_var rfl) ea_nil) (is_integer_at _)))) (fun z => by cases z) fun _ H5 e5 => ⟨(e3.trans (Ex.new hT)).trans e5, _, _, rfl⟩
    · rintro σ' H' ⟨e3, _⟩
      exact k H' e3
theorem check_starts_at {H : Hp} {a : Addr} {ns : List Int} (h : H a = some (.lst (ns.map V.int))) (h1 : 1 ≤ ns.length) (h2 : ns.length ≤ 40) : SpV sp_check_starts [.ref a] H .non := fun H1 e Q q _ => ⟨a, ns, rfl, e _ _ h, h1, h2, q⟩
theorem sc_is_window : FnScope ["value"] ["value"] (defScope s_is_window) := ⟨rfl, rfl, rfl, by decide +kernel, rfl, by decide +kernel, by decide +kernel⟩
def sp_is_window : Sp := fun vs H Q _ => ∃ (a : Addr) (o : Int × Int), vs = [.ref a] ∧ H a = some (.tup (winV o)) ∧ o.1 < o.2 ∧ RetV (.bl true) H Q
theorem ok_is_window (W : Wd K mg) : FnOk P w K mg base CX0 2 (a_is_window K) (f_is_window K) ["value"] sp_is_window := by
  refine (F_is_window W).ok sc_is_window (fun vs H Q E h => ?_) (fun cdv A outer s H vs Q E hr h => ?_)
  · obtain ⟨a, o, rfl, _⟩ := h
    rfl
  · obtain ⟨a, o, rfl, ha, ho, k⟩ := h
    refine ⟨_, PSs.nox (pss_cons (ps_if (PW.pt (pw_or (pt_not (pt_val (pe_callB call_isi (by rfl) (n_isinstance W) (by decide +kernel) (pa_cons (pv 0) (pa_cons (pe_bltn (v := .ty "tuple") (by rfl) (n_tuple W) (by decide +kernel) rfl) pa_nil))))) (pw_or1 (pt_cmpR op_ne (pe_callB call_len_seq (by rfl) (n_len W) (by decide +kernel) (pa_cons (pv 0) pa_nil)) pe_int (nomark _))))) (pss_one (ps_ret pe_bl)) pss_nil)
    (pss_one (ps_ret (pe_and (pe_call (ok_is_integer W) (hr.mono (by decide)) (by rfl) (g_is_integer W) (F_is_integer W).kp (b_is_integer W) .nil pass0 (pa_cons (pe_ix ix_tup (pv 0) pe_int (fun _ _ => rfl)) pa_nil)) (pe_and (pe_call (ok_is_integer W) (hr.mono (by decide)) (by rfl) (g_is_integer W) (F_is_integer W).kp (b_is_integer W) .nil pass0 (pa_cons (pe_ix ix_tup (pv 0) pe_int (fun _ _ => rfl)) pa_nil)) (pe_one (pe_cmpR op_lt (pe_ix ix_tup (pv 0) pe_int (fun _ _ => rfl)) (pe_ix ix_tup (pv 0) pe_int (fun _ _ => rfl)) (nomark _)))))))), ?_⟩
    refine q_when (b := false) (et_or (a := false) (b := false) (et_not (a := true) (et_B (ev_cb (ea_cons (ev_var rfl) (ea_cons ev_c ea_nil)) (rc_isi (.ty _) (fun H1 e1 => .base (.tup (e1 _ _ ha))) (kitT K))))) fun _ => et_test (ev_is (ev_op (ev_lenT (eh_of (ev_var rfl) ha)) ev_c rv_neI) rfl)) (fun z => by cases z) fun _ H1 e1 => ?_
    have hx : ∀ {σ : L2.St} (hs : σ[0]? = some (some (.ref a))), EvH (tVar 0) σ H1 (.tup (winV o)) := fun hs => eh_of (ev_var hs) (e1 _ _ ha)
    exact s_ret (v := .bl true) (ev_andV (a := true) (b := true) (ev_call (ea_cons (ev_ixT (hx rfl) ev_c rfl) ea_nil) (is_integer_at _)) fun _ => ev_andV (a := true) (b := true) (ev_call (ea_cons (ev_ixT (hx rfl) ev_c rfl) ea_nil) (is_integer_at _)) fun _ => ev_is (ev_op (ev_ixT (hx rfl) ev_c rfl) (ev_ixT (hx rfl) ev_c rfl) rv_I0) (by rw [decide_eq_true ho])) fun H2 e2 => k H2 (e1.trans e2)
theorem is_window_at {H : Hp} {a : Addr} {o : Int × Int} (h : H a = some (.tup (winV o))) (h1 : o.1 < o.2) : SpV sp_is_window [.ref a] H (.bl true) := fun H1 e Q q _ => ⟨a, o, rfl, e _ _ h, h1, q⟩
theorem sc_check_outages : FnScope ["outages", "at", "outage"] ["outages"] (defScope s_check_outages) := ⟨rfl, rfl, rfl, by decide +kernel, rfl, by decide +kernel, by decide +kernel⟩
def sp_check_outages : Sp := fun vs H Q _ => ∃ (a : Addr) (ws : List Addr) (os : List (Int × Int)), vs = [.ref a] ∧ H a = some (.lst (ws.map V.ref)) ∧ WinsAt H ws os ∧ os.length ≤ 10 ∧ (∀ o ∈ os, o.1 < o.2) ∧ (os.Pairwise fun a b => a.2 ≤ b.1) ∧ RetV .non H Q
theorem ok_check_outages (W : Wd K mg) : FnOk P w K mg base CX0 3 (a_check_outages K) (f_check_outages K) ["outages"] sp_check_outages := by
  refine (F_check_outages W).ok sc_check_outages (fun vs H Q E h => ?_) (fun cdv A outer s H vs Q E hr h => ?_)
  · obtain ⟨a, ws, os, rfl, _⟩ := h
    rfl
  · obtain ⟨a, ws, os, rfl, ha, hw, n1, n2, n3, k⟩ := h
    refine ⟨_, PSs.nox (pss_cons (ps_if (PW.pt (pw_or (pt_not (pt_val (pe_callB call_isi (by rfl) (n_isinstance W) (by decide +kernel) (pa_cons (pv 0) (pa_cons (pe_bltn (v := .ty "list") (by rfl) (n_list W) (by decide +kernel) rfl) pa_nil))))) (pw_or1 (pt_cmpR op_gt (pe_callB call_len_seq (by rfl) (n_len W) (by decide +kernel) (pa_cons (pv 0) pa_nil)) (pe_glob (by rfl) (i_MOST_OUTAGES W).choose_spec.1 (i_MOST_OUTAGES W).choose_spec.2) (nomark _))))) (pss_one ps_never) pss_nil)
    (pss_one (ps_for PassesOwn.never rfl (pi_enum (by rfl) (n_enumerate W) (pa_cons (pv 0) pa_nil)) (pg_tup rfl (pgs_cons (pg_name (i := 1) sc_check_outages.nd rfl (Or.inl rfl)) (pgs_cons (pg_name (i := 2) sc_check_outages.nd rfl (Or.inl rfl)) pgs_nil))) (pss_one (ps_if (PW.pt (pw_or (pt_not (pt_val (pe_call (ok_is_window W) (hr.mono (by decide)) (by rfl) (g_is_window W) (F_is_window W).kp (b_is_window W) .nil pass0 (pa_cons (pv 2) pa_nil)))) (pw_or1 (PW.pt (pw_and (pt_cmpR op_gt (pv 1) pe_int (nomark _)) (pw_and1 (pt_cmpR op_lt (pe_ix ix_tup (pv 2) pe_int (fun _ _ => rfl)) (pe_ix ix_tup (pe_ix ix_list (pv 0) (pe_op op_sub (pv 1) pe_int) (fun _ _ => rfl)) pe_int (fun _ _ => rfl)) (nomark _)))))))) (pss_one ps_never) pss_nil))))), ?_⟩
    have hl : ((ws.map V.ref).length : Int) = (os.length : Int) := by rw [List.length_map, hw.1]
    refine q_when (b := false) (et_is (et_or (et_not (et_B (ev_cb (ea_cons (ev_var rfl) (ea_cons ev_c ea_nil)) (rc_isi (.ty _) (fun H1 e1 => .base (.lst (e1 _ _ ha))) (kitL K))))) fun _ => et_test (ev_op (ev_lenL (eh_of (ev_var rfl) ha)) ev_c rv_I0)) (by rw [hl, decide_eq_false (by omega)]; rfl)) (fun z => by cases z) fun _ H1 e1 => ?_
    refine ev_go (ev_var rfl) fun H2 e2 => ?_
    have e12 := e1.trans e2
    refine ⟨a, ws.map V.ref, rfl, sq_of (e12 _ _ ha), for_it (walk_enum (K := K) (a := a) (xs := ws.map V.ref)) (fun i σ' H' => Ex H H' ∧ ∃ v2 v3, σ' = [some (.ref a), v2, v3]) ⟨e12, none, none, rfl⟩ (fun i σ' H' _ p => sq_of (p.1 _ _ ha)) ?_ ?_⟩
    · rintro i x σ' H' H'' hi ⟨e3, v2, v3, rfl⟩ ⟨T, y1, y2, rfl, hT, rfl, q1, q2⟩
      have q1 : V.int (i : Nat) = y1 := Option.some.inj q1
      subst q1
      rw [List.length_map, hw.1] at hi
      obtain ⟨g1, g2⟩ := wins_get hw hi
      have q2 : (ws.map V.ref)[i]? = some y2 := q2
      rw [List.getElem?_map, g1] at q2
      have q2 := Option.some.inj q2
      subst q2
      have e4 := e3.trans (Ex.new (o := .tup [V.int (i : Nat), V.ref (ws[i]'(by have := hw.1; omega))]) hT)
      refine gTup2_of upd_same ?_
      refine s_when (b := false) (et_is (et_or (et_not (et_B (ev_call (ea_cons (ev_var rfl) ea_nil) (is_window_at (e4 _ _ g2) (n2 _ (List.getElem_mem hi)))))) fun _ => et_and (a := decide ((0 : Int) < (i : Int))) (b := false) (et_test (ev_op (ev_var rfl) ev_c rv_I0)) fun hb => ?_) (by cases decide ((0 : Int) < (i : Int)) <;> rfl)) (fun z => by cases z) fun _ H5 e5 => ⟨e4.trans e5, _, _, rfl⟩
      have hb := of_decide_eq_true hb
      have hi1 : i - 1 < os.length := by omega
      obtain ⟨p1, p2⟩ := wins_get hw hi1
      have ix : atI (ws.map V.ref) ((i : Int) - 1) = some (.ref (ws[i - 1]'(by have := hw.1; omega))) := by
        rw [show (i : Int) - 1 = ((i - 1 : Nat) : Int) by omega]
        refine atI_nat ?_
        rw [List.getElem?_map, p1]
        rfl
      have hp := List.pairwise_iff_getElem.mp n3 (i - 1) i hi1 hi (by omega)
      exact et_test (ev_is (ev_op (ev_ixT (eh_of (ev_var rfl) (e4 _ _ g2)) ev_c rfl) (ev_ixT (eh_of (ev_ixL (eh_of (ev_var rfl) (e4 _ _ ha)) (ev_op (ev_var rfl) ev_c rv_I0) ix) (e4 _ _ p2)) ev_c rfl) rv_I0) (by rw [decide_eq_false (by omega)]))
    · rintro σ' H' ⟨e3, _⟩
      exact k H' e3
theorem check_outages_at {H : Hp} {a : Addr} {ws : List Addr} {os : List (Int × Int)} (h : H a = some (.lst (ws.map V.ref))) (hw : WinsAt H ws os) (h1 : os.length ≤ 10) (h2 : ∀ o ∈ os, o.1 < o.2) (h3 : os.Pairwise fun a b => a.2 ≤ b.1) : SpV sp_check_outages [.ref a] H .non := fun H1 e Q q _ => ⟨a, ws, os, rfl, e _ _ h, hw.mono e, h1, h2, h3, q⟩
/-! ### Scene.__init__ -/
theorem tyRule (W : Wd K mg) {H : Hp} {r : Addr} {R : RS.Rul} (h : RuleAt K H r R) : TyX K H (.ref r) (.ref (He.ga K "Rule")) := by
  obtain ⟨dx, l, t, s, h1, _⟩ := h
  have hx := W.s.ex
  unfold exB isiB at hx
  simp only [Bool.and_eq_true] at hx
  obtain ⟨⟨x1, x2⟩, _, x3, x4⟩ := hx
  exact .base (.ins h1 (cl_Rule W) (He.eqO_ok x1) (He.eqO_ok x3) (of_decide_eq_true x4) (of_decide_eq_true x2))
theorem tyScene (W : Wd K mg) {H : Hp} {p : Addr} {S : RS.Scn} (h : SceneAt K H p S) : TyX K H (.ref p) (.ref (He.ga K "Scene")) := by
  obtain ⟨dx, r, l, t, s, h1, _⟩ := h
  have hx := W.s.ex
  unfold exB isiB at hx
  simp only [Bool.and_eq_true] at hx
  obtain ⟨_, ⟨x1, x2⟩, x3, x4⟩ := hx
  exact .base (.ins h1 (cl_Scene W) (He.eqO_ok x1) (He.eqO_ok x3) (of_decide_eq_true x4) (of_decide_eq_true x2))
theorem kit_same (K : PySem.W.Frag) (a : Addr) : PySem.W.kitOne K (.ref a) (.ref a) = some true := by
  unfold PySem.W.kitOne
  rw [if_pos (by simp)]
theorem sc_S_init : FnScope ["self", "rule", "starts", "outages", "length", "windows"] ["self", "rule", "starts", "outages", "length"] (defScope s_S_init) := ⟨rfl, rfl, rfl, by decide +kernel, rfl, by decide +kernel, by decide +kernel⟩
theorem kb_S_init (W : Wd K mg) : ∃ mv : List Value, KBn K (f_S_init K) ["self", "rule", "starts", "outages", "length"] 3 ["outages", "length"] (fun us ws => us ++ ws) (fun vs zs => vs ++ zs) :=
  (F_S_init W).kbinds0 3 ["outages", "length"] [] (fun vs mz zs => vs ++ zs) (by simp) (by simp) (fun r1 _ r3 => r1.append r3) fun D doc pm an cdv ct us mv ws h1 h2 h3 => match us, mv, ws, h1, h2, h3 with
    | [_, _, _], [], [_, _], _, _, _ => rfl
def sp_S_init (K : PySem.W.Frag) : Sp := fun vs H Q _ => ∃ (p dx r l t : Addr) (ws : List Addr) (S : RS.Scn), vs = [.ref p, .ref r, .ref l, .ref t, .int S.len] ∧ H p = some (.ins (He.ga K "Scene") dx []) ∧ RuleAt K H r S.rule ∧ r ≠ p ∧ H l = some (.lst (S.starts.map V.int)) ∧ H t = some (.lst (ws.map V.ref)) ∧ WinsAt H ws S.outs ∧ S.Ok ∧
  ∀ H', SceneAt K H' p S → (∀ b o, H b = some o → b ≠ p → H' b = some o) → Q .non H'
theorem RuleAt.but {H H' : Hp} {r p C dx : Addr} {fs : List (Str × V)} {R : RS.Rul} (h : RuleAt K H r R) (hp : H p = some (.ins C dx fs)) (hne : r ≠ p) (k : ∀ b o, H b = some o → b ≠ p → H' b = some o) : RuleAt K H' r R := by
  obtain ⟨dx', l, t, s, h1, h2, h3, h4⟩ := h
  exact ⟨dx', l, t, s, k _ _ h1 hne, k _ _ h2 (ne_of h2 hp (by intro z; cases z)), k _ _ h3 (ne_of h3 hp (by intro z; cases z)), k _ _ h4 (ne_of h4 hp (by intro z; cases z))⟩
theorem WinsAt.but {H H' : Hp} {p C dx : Addr} {fs : List (Str × V)} {ws : List Addr} {os : List (Int × Int)} (h : WinsAt H ws os) (hp : H p = some (.ins C dx fs)) (k : ∀ b o, H b = some o → b ≠ p → H' b = some o) : WinsAt H' ws os :=
  ⟨h.1, fun i a o h1 h2 => k _ _ (h.2 i a o h1 h2) (ne_of (h.2 i a o h1 h2) hp (by intro z; cases z))⟩
theorem ok_S_init (W : Wd K mg) : FnOk P w K mg base CX0 4 (a_S_init K) (f_S_init K) ["self", "rule", "starts", "outages", "length"] (sp_S_init K) := by
  refine (F_S_init W).ok sc_S_init (fun vs H Q E h => ?_) (fun cdv A outer s H vs Q E hr h => ?_)
  · obtain ⟨p, dx, r, l, t, ws, S, rfl, _⟩ := h
    rfl
  · obtain ⟨p, dx, r, l, t, ws, S, rfl, hp, hR, rp, hl, ht, hw, ok, k⟩ := h
    refine ⟨_, PSs.nox (pss_cons (ps_if (pt_not (pt_val (pe_callB call_isi (by rfl) (n_isinstance W) (by decide +kernel) (pa_cons (pv 1) (pa_cons (pe_glob (v := .ref (He.ga K "Rule")) (by rfl) (g_Rule W) rfl) pa_nil))))) (pss_one ps_never) pss_nil)
    (pss_cons (ps_expr (pe_call (ok_check_starts W) (hr.mono (by decide)) (by rfl) (g_check_starts W) (F_check_starts W).kp (b_check_starts W) .nil pass0 (pa_cons (pv 2) pa_nil)))
    (pss_cons (ps_set (i := 5) sc_S_init.nd rfl (Or.inl rfl) (pe_ifExp (pt_cmpR op_isN (pv 3) pe_non (nomark _)) (pe_lst pa_nil) (pv 3)))
    (pss_cons (ps_expr (pe_call (ok_check_outages W) (hr.mono (by decide)) (by rfl) (g_check_outages W) (F_check_outages W).kp (b_check_outages W) .nil pass0 (pa_cons (pv 5) pa_nil)))
    (pss_cons (ps_if (PW.pt (pw_or (pt_not (pt_val (pe_call (ok_is_integer W) (hr.mono (by decide)) (by rfl) (g_is_integer W) (F_is_integer W).kp (b_is_integer W) .nil pass0 (pa_cons (pv 4) pa_nil)))) (pw_or1 (pt_cmpR op_lt (pv 4) pe_int (nomark _))))) (pss_one ps_never) pss_nil)
    (pss_cons (ps_fld (pv 0) (pv 1) rfl)
    (pss_cons (ps_fld (pv 0) (pe_callTy call_list_of (by rfl) (n_list W) (by decide +kernel) (pa_cons (pv 2) pa_nil)) rfl)
    (pss_cons (ps_fld (pv 0) (pe_callTy call_list_of (by rfl) (n_list W) (by decide +kernel) (pa_cons (pv 5) pa_nil)) rfl)
    (pss_one (ps_fld (pv 0) (pv 4) rfl)))))))))), ?_⟩
    have tn := ok.ten
    have on := ok.one
    have oln := ok.ol
    refine q_when (b := false) (et_not (a := true) (et_B (ev_cb (ea_cons (ev_var rfl) (ea_cons ev_c ea_nil)) (rc_isi (.own _) (fun H1 e1 => tyRule W (hR.mono e1)) (kit_same K _))))) (fun z => by cases z) fun _ H1 e1 => ?_
    refine q_drop (ev_call (ea_cons (ev_var rfl) ea_nil) (check_starts_at (e1 _ _ hl) on (Nat.le_trans tn (by decide)))) fun H2 e2 => ?_
    have e12 := e1.trans e2
    refine q_asg (v := .ref t) (ev_if (b := false) (et_test (ev_op (ev_var rfl) ev_c rv_isN)) (fun z => by cases z) fun _ => ev_var rfl) fun H3 e3 => ?_
    have e13 := e12.trans e3
    refine q_drop (ev_call (ea_cons (ev_var rfl) ea_nil) (check_outages_at (e13 _ _ ht) (hw.mono e13) (by omega) (fun o ho => (ok.outs o ho).1) ok.ord)) fun H4 e4 => ?_
    have e14 := e13.trans e4
    refine q_when (b := false) (et_is (et_or (et_not (et_B (ev_call (ea_cons (ev_var rfl) ea_nil) (is_integer_at _)))) fun _ => et_test (ev_op (ev_var rfl) ev_c rv_I0)) (by have := ok.len.1; rw [decide_eq_false (by omega)]; rfl)) (fun z => by cases z) fun _ H5 e5 => ?_
    have e15 := e14.trans e5
    refine q_fld (ev_var rfl) (ev_var rfl) (e15 _ _ hp) (cl_Scene W) (na_its_rule W) (show (0 : Nat) < 1000 by decide) fun H6 e6 => ?_
    have e16 := e15.trans e6
    have lp : l ≠ p := ne_of hl hp (by intro z; cases z)
    have tp : t ≠ p := ne_of ht hp (by intro z; cases z)
    refine q_fldN (en_list (eh_of (ev_var rfl) (by rw [upd_ne lp]; exact e16 _ _ hl))) (ev_var rfl) upd_same (cl_Scene W) (na_its_starts W) (show (1 : Nat) < 1000 by decide) fun l2 H7 hl2 e7 h7 => ?_
    have l2p : l2 ≠ p := Ne.symm (ne_of_none upd_same hl2)
    have old7 : ∀ b o, H b = some o → b ≠ p → H7 b = some o := fun b o hb hne => e7 _ _ (by rw [upd_ne hne]; exact e16 _ _ hb)
    refine q_fldN (en_list (eh_of (ev_var rfl) (by rw [upd_ne tp]; exact old7 _ _ ht tp))) (ev_var rfl) upd_same (cl_Scene W) (na_windows W) (show (2 : Nat) < 1000 by decide) fun t2 H8 ht2 e8 h8 => ?_
    have t2p : t2 ≠ p := Ne.symm (ne_of_none upd_same ht2)
    refine ev_go (ev_var rfl) fun H9 e9 => ?_
    refine ev_go (ev_var rfl) fun H10 e10 => ?_
    have a10 : H10 p = some (.ins (He.ga K "Scene") dx (putF "windows" (.ref t2) (putF "its_starts" (.ref l2) (putF "its_rule" (.ref r) [])))) := e10 _ _ (e9 _ _ upd_same)
    refine ⟨p, _, dx, _, rfl, a10, cl_Scene W, na_its_length W, (show (3 : Nat) < 1000 by decide), ?_⟩
    have old10 : ∀ b o, H b = some o → b ≠ p → H10 b = some o := fun b o hb hne => e10 _ _ (e9 _ _ (by rw [upd_ne hne]; exact e8 _ _ (by rw [upd_ne hne]; exact old7 _ _ hb hne)))
    have old : ∀ b o, H b = some o → b ≠ p → (upd H10 p (.ins (He.ga K "Scene") dx (flS r l2 t2 S.len))) b = some o := fun b o hb hne => by rw [upd_ne hne]; exact old10 _ _ hb hne
    refine k (upd H10 p (.ins (He.ga K "Scene") dx (flS r l2 t2 S.len))) ⟨dx, r, l2, t2, ws, upd_same, hR.but hp rp old, ?_, ?_, hw.but hp old⟩ old
    · rw [upd_ne l2p]
      exact e10 _ _ (e9 _ _ (by rw [upd_ne l2p]; exact e8 _ _ (by rw [upd_ne l2p]; exact h7)))
    · rw [upd_ne t2p]
      exact e10 _ _ (e9 _ _ (by rw [upd_ne t2p]; exact h8))
end RW
end

section
set_option Elab.async false
set_option linter.all false
set_option maxRecDepth 100000
set_option maxHeartbeats 4000000
namespace RW
open PySem L2 Evl
variable {P : Program} {w : World} {K : PySem.W.Frag} {mg : Str → Option Value} {base : Heap}
theorem sc_S_rule : FnScope ["self"] ["self"] (defScope s_S_rule) := ⟨rfl, rfl, rfl, by decide +kernel, rfl, by decide +kernel, by decide +kernel⟩
def sp_S_rule (K : PySem.W.Frag) : Sp := fun vs H Q _ => ∃ (p : Addr) (S : RS.Scn), vs = [.ref p] ∧ SceneAt K H p S ∧ ∀ r H2, Ex H H2 → RuleAt K H2 r S.rule → Q (.ref r) H2
theorem ok_S_rule (W : Wd K mg) : FnOk P w K mg base CX0 1 (a_S_rule K) (f_S_rule K) ["self"] (sp_S_rule K) := by
  refine (F_S_rule W).ok sc_S_rule (fun vs H Q E h => ?_) (fun cdv A outer s H vs Q E hr h => ?_)
  · obtain ⟨p, S, rfl, _⟩ := h
    rfl
  · obtain ⟨p, S, rfl, ⟨dx, r, l, t, ws, h1, h2, h3, h4, h5⟩, k⟩ := h
    refine ⟨_, PSs.nox (pss_one (ps_ret (pe_fld (pv 0) rfl))), ?_⟩
    exact s_ret (ev_fld (ev_var rfl) h1 (cl_Scene W) (na_its_rule W) rfl) fun H1 e1 => k _ _ e1 (h2.mono e1)
theorem sc_S_starts : FnScope ["self"] ["self"] (defScope s_S_starts) := ⟨rfl, rfl, rfl, by decide +kernel, rfl, by decide +kernel, by decide +kernel⟩
def sp_S_starts (K : PySem.W.Frag) : Sp := fun vs H Q _ => ∃ (p : Addr) (S : RS.Scn), vs = [.ref p] ∧ SceneAt K H p S ∧ RetN (.lst (S.starts.map V.int)) H Q
theorem ok_S_starts (W : Wd K mg) : FnOk P w K mg base CX0 1 (a_S_starts K) (f_S_starts K) ["self"] (sp_S_starts K) := by
  refine (F_S_starts W).ok sc_S_starts (fun vs H Q E h => ?_) (fun cdv A outer s H vs Q E hr h => ?_)
  · obtain ⟨p, S, rfl, _⟩ := h
    rfl
  · obtain ⟨p, S, rfl, ⟨dx, r, l, t, ws, h1, h2, h3, h4, h5⟩, k⟩ := h
    refine ⟨_, PSs.nox (pss_one (ps_ret (pe_callTy call_list_of (by rfl) (n_list W) (by decide +kernel) (pa_cons (pe_fld (pv 0) rfl) pa_nil)))), ?_⟩
    exact s_retN (en_list (eh_of (ev_fld (ev_var rfl) h1 (cl_Scene W) (na_its_starts W) rfl) h3)) k
theorem starts_at {H : Hp} {p : Addr} {S : RS.Scn} (h : SceneAt K H p S) : SpN (sp_S_starts K) [.ref p] H (.lst (S.starts.map V.int)) := fun H1 e Q q _ => ⟨p, S, rfl, h.mono e, q⟩
theorem sc_S_outages : FnScope ["self"] ["self"] (defScope s_S_outages) := ⟨rfl, rfl, rfl, by decide +kernel, rfl, by decide +kernel, by decide +kernel⟩
def sp_S_outages (K : PySem.W.Frag) : Sp := fun vs H Q _ => ∃ (p : Addr) (S : RS.Scn), vs = [.ref p] ∧ SceneAt K H p S ∧ ∀ ws a H2, H a = none → Ex H H2 → H2 a = some (.lst (ws.map V.ref)) → WinsAt H2 ws S.outs → Q (.ref a) H2
theorem ok_S_outages (W : Wd K mg) : FnOk P w K mg base CX0 1 (a_S_outages K) (f_S_outages K) ["self"] (sp_S_outages K) := by
  refine (F_S_outages W).ok sc_S_outages (fun vs H Q E h => ?_) (fun cdv A outer s H vs Q E hr h => ?_)
  · obtain ⟨p, S, rfl, _⟩ := h
    rfl
  · obtain ⟨p, S, rfl, ⟨dx, r, l, t, ws, h1, h2, h3, h4, h5⟩, k⟩ := h
    refine ⟨_, PSs.nox (pss_one (ps_ret (pe_callTy call_list_of (by rfl) (n_list W) (by decide +kernel) (pa_cons (pe_fld (pv 0) rfl) pa_nil)))), ?_⟩
    exact s_retN (en_list (eh_of (ev_fld (ev_var rfl) h1 (cl_Scene W) (na_windows W) rfl) h4)) fun a H2 ha e2 h6 => k ws a H2 ha e2 h6 (h5.mono e2)
theorem sc_S_length : FnScope ["self"] ["self"] (defScope s_S_length) := ⟨rfl, rfl, rfl, by decide +kernel, rfl, by decide +kernel, by decide +kernel⟩
def sp_S_length (K : PySem.W.Frag) : Sp := fun vs H Q _ => ∃ (p : Addr) (S : RS.Scn), vs = [.ref p] ∧ SceneAt K H p S ∧ RetV (.int S.len) H Q
theorem ok_S_length (W : Wd K mg) : FnOk P w K mg base CX0 1 (a_S_length K) (f_S_length K) ["self"] (sp_S_length K) := by
  refine (F_S_length W).ok sc_S_length (fun vs H Q E h => ?_) (fun cdv A outer s H vs Q E hr h => ?_)
  · obtain ⟨p, S, rfl, _⟩ := h
    rfl
  · obtain ⟨p, S, rfl, ⟨dx, r, l, t, ws, h1, h2, h3, h4, h5⟩, k⟩ := h
    refine ⟨_, PSs.nox (pss_one (ps_ret (pe_fld (pv 0) rfl))), ?_⟩
    exact s_ret (ev_fld (ev_var rfl) h1 (cl_Scene W) (na_its_length W) rfl) k
theorem length_at {H : Hp} {p : Addr} {S : RS.Scn} (h : SceneAt K H p S) : SpV (sp_S_length K) [.ref p] H (.int S.len) := fun H1 e Q q _ => ⟨p, S, rfl, h.mono e, q⟩
theorem sc_S_check_client : FnScope ["self", "client"] ["self", "client"] (defScope s_S_check_client) := ⟨rfl, rfl, rfl, by decide +kernel, rfl, by decide +kernel, by decide +kernel⟩
def sp_S_check_client (K : PySem.W.Frag) : Sp := fun vs H Q _ => ∃ (p : Addr) (S : RS.Scn) (c : Nat), vs = [.ref p, .int c] ∧ SceneAt K H p S ∧ c < S.m ∧ RetV .non H Q
theorem ok_S_check_client (W : Wd K mg) : FnOk P w K mg base CX0 3 (a_S_check_client K) (f_S_check_client K) ["self", "client"] (sp_S_check_client K) := by
  refine (F_S_check_client W).ok sc_S_check_client (fun vs H Q E h => ?_) (fun cdv A outer s H vs Q E hr h => ?_)
  · obtain ⟨p, S, c, rfl, _⟩ := h
    rfl
  · obtain ⟨p, S, c, rfl, ⟨dx, r, l, t, ws, h1, h2, h3, h4, h5⟩, hc, k⟩ := h
    refine ⟨_, PSs.nox (pss_one (ps_if (pt_not (pt_val (pe_call (ok_is_between W) (hr.mono (by decide)) (by rfl) (g_is_between W) (F_is_between W).kp (b_is_between W) .nil pass0 (pa_cons (pv 1) (pa_cons pe_int (pa_cons (pe_op op_sub (pe_callB call_len_seq (by rfl) (n_len W) (by decide +kernel) (pa_cons (pe_fld (pv 0) rfl) pa_nil)) pe_int) pa_nil)))))) (pss_one ps_never) pss_nil)), ?_⟩
    have hl : ((S.starts.map V.int).length : Int) = (S.m : Int) := by rw [List.length_map]
    refine s_when (b := false) (et_is (et_not (et_B (ev_call (ea_cons (ev_var rfl) (ea_cons ev_c (ea_cons (ev_op (ev_lenL (eh_of (ev_fld (ev_var rfl) h1 (cl_Scene W) (na_its_starts W) rfl) h3)) ev_c rv_I0) ea_nil))) (is_between_at (c : Int) 0 _)))) (by rw [hl, decide_eq_true (show (0 : Int) ≤ (c : Int) by omega), decide_eq_true (show (c : Int) ≤ (S.m : Int) - 1 by omega)]; rfl)) (fun z => by cases z) fun _ H1 e1 => k H1 e1
theorem check_client_at {H : Hp} {p : Addr} {S : RS.Scn} {c : Nat} (h : SceneAt K H p S) (hc : c < S.m) : SpV (sp_S_check_client K) [.ref p, .int c] H .non := fun H1 e Q q _ => ⟨p, S, c, rfl, h.mono e, hc, q⟩
theorem sc_S_slot_of : FnScope ["self", "client", "attempt"] ["self", "client", "attempt"] (defScope s_S_slot_of) := ⟨rfl, rfl, rfl, by decide +kernel, rfl, by decide +kernel, by decide +kernel⟩
def sp_S_slot_of (K : PySem.W.Frag) : Sp := fun vs H Q _ => ∃ (p : Addr) (S : RS.Scn) (c k : Nat), vs = [.ref p, .int c, .int k] ∧ SceneAt K H p S ∧ S.rule.Ok ∧ c < S.m ∧ RS.hasB S.rule k = true ∧ (∀ b, S.rule.tail = .tim b → k ≤ 1000) ∧ RetV (.int (S.b c + RS.off S.rule k)) H Q
theorem ok_S_slot_of (W : Wd K mg) : FnOk P w K mg base CX0 4 (a_S_slot_of K) (f_S_slot_of K) ["self", "client", "attempt"] (sp_S_slot_of K) := by
  refine (F_S_slot_of W).ok sc_S_slot_of (fun vs H Q E h => ?_) (fun cdv A outer s H vs Q E hr h => ?_)
  · obtain ⟨p, S, c, n, rfl, _⟩ := h
    rfl
  · obtain ⟨p, S, c, n, rfl, hS, ok, hc, hn, hz, k⟩ := h
    obtain ⟨dx, r, l, t, ws, h1, h2, h3, h4, h5⟩ := id hS
    refine ⟨_, PSs.nox (pss_cons (ps_expr (pe_meth (pv 0) (cl_Scene W) (m_S_check_client W) (ok_S_check_client W) (hr.mono (by decide)) (b_S_check_client W) .nil pass0 (pa_cons (pv 1) pa_nil)))
    (pss_one (ps_ret (pe_op op_add (pe_ix ix_list (pe_fld (pv 0) rfl) (pv 1) (fun _ _ => rfl)) (pe_meth (pe_fld (pv 0) rfl) (cl_Rule W) (m_R_offset W) (ok_R_offset W) (hr.mono (by decide)) (b_R_offset W) .nil pass0 (pa_cons (pv 2) pa_nil)))))), ?_⟩
    refine q_drop (ev_meth (ev_var rfl) h1 rfl (ea_cons (ev_var rfl) ea_nil) (check_client_at hS hc)) fun H1 e1 => ?_
    obtain ⟨dr, l', t', s', r1, _⟩ := h2.mono e1
    exact s_ret (ev_op (ev_ixL (eh_of (ev_fld (ev_var rfl) (e1 _ _ h1) (cl_Scene W) (na_its_starts W) rfl) (e1 _ _ h3)) (ev_var rfl) (atI_nat (b_get hc))) (ev_meth (ev_fld (ev_var rfl) (e1 _ _ h1) (cl_Scene W) (na_its_rule W) rfl) r1 rfl (ea_cons (ev_var rfl) ea_nil) (offset_at (h2.mono e1) ok hn hz)) rv_I0) fun H2 e2 => k H2 (e1.trans e2)
theorem slot_of_at {H : Hp} {p : Addr} {S : RS.Scn} {c k : Nat} (h : SceneAt K H p S) (ok : S.rule.Ok) (hc : c < S.m) (h1 : RS.hasB S.rule k = true) (h2 : ∀ b, S.rule.tail = .tim b → k ≤ 1000) : SpV (sp_S_slot_of K) [.ref p, .int c, .int k] H (.int (S.b c + RS.off S.rule k)) := fun H1 e Q q _ => ⟨p, S, c, k, rfl, h.mono e, ok, hc, h1, h2, q⟩
/-! ### outage_at -/
def inOut (s : Int) (o : Int × Int) : Bool := decide (o.1 ≤ s) && decide (s < o.2)
theorem first_ix {α : Type} (f : α → Bool) : ∀ (l : List α) (k : Nat), (((l.zipIdx k).map fun p => (p.2, p.1)).filter fun p => f p.2).map (fun p => V.int (p.1 : Int)) ++ [V.non] =
    match l.findIdx? f with
    | some i => .int ((k + i : Nat) : Int) :: ((((l.zipIdx k).map fun p => (p.2, p.1)).filter fun p => f p.2).map (fun p => V.int (p.1 : Int))).tail ++ [V.non]
    | none => [V.non]
  | [], k => rfl
  | a :: r, k => by
    rw [List.zipIdx_cons, List.map_cons, List.findIdx?_cons]
    by_cases h : f a = true
    · rw [List.filter_cons, if_pos h, if_pos h]
      rfl
    · rw [List.filter_cons, if_neg h, if_neg h]
      have ih := first_ix f r (k + 1)
      rw [ih]
      cases e : r.findIdx? f with
      | none => rfl
      | some i =>
        show V.int ((k + 1 + i : Nat) : Int) :: _ = V.int ((k + (i + 1) : Nat) : Int) :: _
        rw [show k + 1 + i = k + (i + 1) by omega]
theorem first_at {α : Type} (f : α → Bool) (l : List α) : atI ((((l.zipIdx).map fun p => (p.2, p.1)).filter fun p => f p.2).map (fun p => V.int (p.1 : Int)) ++ [V.non]) 0 = some (optV (l.findIdx? f)) := by
  have a0 : ∀ (x : V) (r : List V), atI (x :: r) 0 = some x := fun x r => atI_nat (xs := x :: r) (j := 0) rfl
  rw [first_ix f l 0]
  cases e : l.findIdx? f with
  | none => exact a0 _ _
  | some i =>
    have h0 : V.int ((0 + i : Nat) : Int) = V.int (i : Int) := by rw [Nat.zero_add]
    exact (a0 _ _).trans (congrArg some h0)
theorem sc_S_outage_at : FnScope ["self", "slot", "at", "outage"] ["self", "slot"] (defScope s_S_outage_at) := ⟨rfl, rfl, rfl, by decide +kernel, rfl, by decide +kernel, by decide +kernel⟩
def sp_S_outage_at (K : PySem.W.Frag) : Sp := fun vs H Q _ => ∃ (p : Addr) (S : RS.Scn) (n : Int), vs = [.ref p, .int n] ∧ SceneAt K H p S ∧ S.outs.length ≤ 5 ∧ RetV (optV (S.outs.findIdx? (inOut n))) H Q
theorem ok_S_outage_at (W : Wd K mg) : FnOk P w K mg base CX0 2 (a_S_outage_at K) (f_S_outage_at K) ["self", "slot"] (sp_S_outage_at K) := by
  refine (F_S_outage_at W).ok sc_S_outage_at (fun vs H Q E h => ?_) (fun cdv A outer s H vs Q E hr h => ?_)
  · obtain ⟨p, S, n, rfl, _⟩ := h
    rfl
  · obtain ⟨p, S, n, rfl, hS, h5l, k⟩ := h
    obtain ⟨dx, r, l, t, ws, h1, h2, h3, h4, h5⟩ := id hS
    refine ⟨_, PSs.nox (pss_cons (ps_if (pt_not (pt_val (pe_call (ok_is_integer W) (hr.mono (by decide)) (by rfl) (g_is_integer W) (F_is_integer W).kp (b_is_integer W) .nil pass0 (pa_cons (pv 1) pa_nil)))) (pss_one ps_never) pss_nil)
    (pss_one (ps_ret (pe_ix ix_list (pe_op op_cat (pe_lc (own := [("at", 2), ("outage", 3)]) rfl sc_S_outage_at.nd (pi_enum (by rfl) (n_enumerate W) (pa_cons (pe_fld (pv 0) rfl) pa_nil)) (blkOk_by (N := ["self", "slot", "at", "outage"]) (sc := defScope s_S_outage_at) (by decide +kernel)) (fun _ _ _ _ _ => (gtupK (K := K) (n := 2) rfl (pgs_cons (pg_name (i := 2) sc_S_outage_at.nd rfl (Or.inl rfl)) (pgs_cons (pg_name (i := 3) sc_S_outage_at.nd rfl (Or.inl rfl)) pgs_nil)))) (fun _ _ _ _ _ => (pts_one (pt_chain op_le op_lt (pe_ix (ixTK (K := K)) (pv 3) pe_int (fun _ _ => rfl)) (pv 1) (pe_ix (ixTK (K := K)) (pv 3) pe_int (fun _ _ => rfl))))) (fun _ _ _ _ _ => (pv 2))) (pe_lst (pa_cons pe_non pa_nil))) pe_int (fun _ _ => rfl))))), ?_⟩
    refine q_when (b := false) (et_not (et_B (ev_call (ea_cons (ev_var rfl) ea_nil) (is_integer_at n)))) (fun z => by cases z) fun _ H1 e1 => ?_
    have hz : ws.map V.ref = (ws.zip S.outs).map fun q => V.ref q.1 := by
      have : ws = (ws.zip S.outs).map (·.1) := by rw [List.map_fst_zip (by have := h5.1; omega)]
      conv => lhs; rw [this]
      rw [List.map_map]
      rfl
    have h4' := e1 _ _ h4
    rw [hz] at h4'
    have zl : (ws.zip S.outs).length ≤ 5 := by rw [List.length_zip]; omega
    have hi : ∀ (i : Nat) (a : Addr × (Int × Int)), (ws.zip S.outs)[i]? = some a → H1 a.1 = some (.tup (winV a.2)) := fun i a ha => by
      rw [List.getElem?_zip_eq_some] at ha
      exact e1 _ _ (h5.2 i _ _ ha.1 ha.2)
    have key := en_lcE (K := K) (tl := tFld K (tVar 0) "windows") (tt := tTest (tChain (rI0 fun i j => .bl (decide (i ≤ j))) (rI0 fun i j => .bl (decide (i < j))) (tOp (rIxT K) (tVar 3) (tC (.int 0))) (tVar 1) (tOp (rIxT K) (tVar 3) (tC (.int 1))))) (te := tVar 2) (j1 := 2) (j2 := 3) (vs := [2, 3]) (σ := L2.start ["self", "slot", "at", "outage"] [.ref p, .int n]) (H := H1)
      (ws.zip S.outs) (fun q => V.ref q.1) (fun q => inOut n q.2.2) (fun q => V.int (q.1 : Int)) (eh_of (ev_fld (ev_var rfl) (e1 _ _ h1) (cl_Scene W) (na_windows W) rfl) h4') (by omega) (fun _ _ => rfl)
      (fun i a H2 ha e2 => et_test (ev_chain (ev_ixT (eh_of (ev_var rfl) (e2 _ _ (hi i a ha))) ev_c rfl) (ev_var rfl) rv_I0 (fun _ => ev_ixT (eh_of (ev_var rfl) (e2 _ _ (hi i a ha))) ev_c rfl) fun _ => rv_I0))
      (fun i a H2 ha e2 _ => ev_var rfl)
    have hcat := en_cat key.h (EvN.h (en_lst (ea_cons ev_c ea_nil) (show ([V.non] : List V).length ≤ 100000 by decide))) (by
      rw [List.length_map]
      have := List.length_filter_le (fun q : Nat × (Addr × (Int × Int)) => inOut n q.2.2) ((ws.zip S.outs).zipIdx.map fun p => (p.2, p.1))
      rw [List.length_map, List.length_zipIdx] at this
      show _ + 1 ≤ 100000
      omega)
    have hf := first_at (fun q : Addr × (Int × Int) => inOut n q.2) (ws.zip S.outs)
    have hfi : (ws.zip S.outs).findIdx? (fun q : Addr × (Int × Int) => inOut n q.2) = S.outs.findIdx? (inOut n) := by
      have e2 : S.outs = (ws.zip S.outs).map (·.2) := by rw [List.map_snd_zip (by have := h5.1; omega)]
      conv => rhs; rw [e2]
      rw [List.findIdx?_map]
      rfl
    rw [hfi] at hf
    exact s_ret (ev_ixL hcat.h ev_c hf) fun H2 e2 => k H2 (e1.trans e2)
theorem outage_at_at {H : Hp} {p : Addr} {S : RS.Scn} {n : Int} (h : SceneAt K H p S) (h5 : S.outs.length ≤ 5) : SpV (sp_S_outage_at K) [.ref p, .int n] H (optV (S.outs.findIdx? (inOut n))) := fun H1 e Q q _ => ⟨p, S, n, rfl, h.mono e, h5, q⟩
/-! ### listed_slots, moments -/
theorem sc_S_listed_slots : FnScope ["self", "client", "count", "attempt"] ["self", "client"] (defScope s_S_listed_slots) := ⟨rfl, rfl, rfl, by decide +kernel, rfl, by decide +kernel, by decide +kernel⟩
def sp_S_listed_slots (K : PySem.W.Frag) : Sp := fun vs H Q _ => ∃ (p : Addr) (S : RS.Scn) (i c : Nat), vs = [.ref p, .int i] ∧ SceneAt K H p S ∧ S.rule.Ok ∧ S.rule.tail = .rep c ∧ i < S.m ∧ RetN (.lst ((RS.listed S c i).map V.int)) H Q
theorem ok_S_listed_slots (W : Wd K mg) : FnOk P w K mg base CX0 3 (a_S_listed_slots K) (f_S_listed_slots K) ["self", "client"] (sp_S_listed_slots K) := by
  refine (F_S_listed_slots W).ok sc_S_listed_slots (fun vs H Q E h => ?_) (fun cdv A outer s H vs Q E hr h => ?_)
  · obtain ⟨p, S, i, c, rfl, _⟩ := h
    rfl
  · obtain ⟨p, S, i, c, rfl, hS, ok, hR, hi, k⟩ := h
    obtain ⟨dx, r, l, t, ws, h1, h2, h3, h4, h5⟩ := id hS
    refine ⟨_, PSs.nox (pss_cons (ps_set (i := 2) sc_S_listed_slots.nd rfl (Or.inl rfl) (pe_op op_sub (pe_callB call_len_seq (by rfl) (n_len W) (by decide +kernel) (pa_cons (pe_meth0 (pe_fld (pv 0) rfl) (cl_Rule W) (m_R_gaps W) (ok_R_gaps W) (hr.mono (by decide)) (b_R_gaps W) .nil pass0) pa_nil)) (pe_ix ix_tup (pe_meth0 (pe_fld (pv 0) rfl) (cl_Rule W) (m_R_tail W) (ok_R_tail W) (hr.mono (by decide)) (b_R_tail W) .nil pass0) pe_int (fun _ _ => rfl))))
    (pss_one (ps_ret (pe_lc (own := [("attempt", 3)]) rfl sc_S_listed_slots.nd (pi_range1 (by rfl) (n_range W) (pa_cons (pe_op op_add (pv 2) pe_int) pa_nil)) (blkOk_by (N := ["self", "client", "count", "attempt"]) (sc := defScope s_S_listed_slots) (by decide +kernel)) (fun _ _ _ _ _ => (pg_name (i := 3) sc_S_listed_slots.nd rfl (Or.inl rfl))) (fun _ _ _ _ _ => pts_nil) (fun _ _ _ _ _ => (pe_op op_add (pe_ix (ixLK (K := K)) (fldK (K := K) (pv 0) rfl) (pv 1) (fun _ _ => rfl)) (pe_meth (fldK (K := K) (pv 0) rfl) (cl_Rule W) (m_R_offset_of W) (ok_R_offset_of W) (hr.mono (by decide)) (b_R_offset_of W) .nil pass0 (pa_cons (pv 3) pa_nil)))))))), ?_⟩
    obtain ⟨dr, l', t', s', r1, r2, r3, r4⟩ := id h2
    obtain ⟨c1, c2⟩ := ok.rep c hR
    have ln := ok.len
    have ht := tail_at h2
    rw [hR] at ht
    refine q_asg (ev_op (ev_lenL (EvN.h (en_meth (ev_fld (ev_var rfl) h1 (cl_Scene W) (na_its_rule W) rfl) r1 rfl ea_nil (gaps_at h2)))) (ev_ixT (eh_meth (ev_fld (ev_var rfl) h1 (cl_Scene W) (na_its_rule W) rfl) r1 rfl ea_nil ht) ev_c rfl) rv_I0) fun H1 e1 => ?_
    rw [show ((S.rule.gaps.map V.int).length : Int) - (c : Int) = ((S.rule.n - c : Nat) : Int) by have : S.rule.gaps.length = S.rule.n := rfl; rw [List.length_map]; omega]
    have hrep : ∀ a, RS.hasB S.rule a = true := fun a => by unfold RS.hasB; rw [hR]
    have hsz : ∀ a, RS.SzK S.rule a := fun a b hb => by rw [hR] at hb; cases hb
    have key := en_lcR (tt := tYes) (te := tOp (rI0 fun i j => .int (i + j)) (tOp (rIxL K) (tFld K (tVar 0) "its_starts") (tVar 1)) (tMeth (He.ga K "Rule") "offset_of" (sp_R_offset_of K) [] E0 (tFld K (tVar 0) "its_rule") (tCons (tVar 3) tNil))) (j := 3) (vs := [3]) (σ := [some (.ref p), some (.int (i : Int)), some (.int ((S.rule.n - c : Nat) : Int)), none]) (H := H1) (ta := tCons (tOp (rI0 fun i j => .int (i + j)) (tVar 2) (tC (.int 1))) tNil)
      (S.rule.n - c + 1) (fun _ => true) (fun a => V.int (S.b i + RS.off S.rule a)) (ea_cons (ev_op (ev_var rfl) ev_c rv_I0) ea_nil) (by have : S.rule.n ≤ 20 := ln; omega) (fun _ => rfl) (fun a H2 _ _ H3 e3 Q q => q H3 (Ex.refl H3))
      (fun a H2 _ e2 _ => ev_op (ev_ixL (eh_of (ev_fld (ev_var rfl) (e2 _ _ (e1 _ _ h1)) (cl_Scene W) (na_its_starts W) rfl) (e2 _ _ (e1 _ _ h3))) (ev_var rfl) (atI_nat (b_get hi))) (ev_meth (ev_fld (ev_var rfl) (e2 _ _ (e1 _ _ h1)) (cl_Scene W) (na_its_rule W) rfl) (e2 _ _ (e1 _ _ r1)) rfl (ea_cons (ev_var rfl) ea_nil) (offset_of_at ((h2.mono e1).mono e2) ok (hrep a) (hsz a))) rv_I0)
    refine s_retN (o := .lst ((RS.listed S c i).map V.int)) ?_ fun a H2 ha e2 h6 => k a H2 (fresh_back e1 ha) (e1.trans e2) h6
    have e : (RS.listed S c i).map V.int = ((List.range (S.rule.n - c + 1)).filter fun _ => true).map fun a => V.int (S.b i + RS.off S.rule a) := by
      rw [List.filter_eq_self.mpr (fun _ _ => rfl)]
      unfold RS.listed
      rw [List.map_map]
      rfl
    rw [e]
    exact key
theorem listed_slots_at {H : Hp} {p : Addr} {S : RS.Scn} {i c : Nat} (h : SceneAt K H p S) (ok : S.rule.Ok) (hR : S.rule.tail = .rep c) (hi : i < S.m) : SpN (sp_S_listed_slots K) [.ref p, .int i] H (.lst ((RS.listed S c i).map V.int)) := fun H1 e Q q _ => ⟨p, S, i, c, rfl, h.mono e, ok, hR, hi, q⟩
end RW
end

section
set_option Elab.async false
set_option linter.all false
set_option maxRecDepth 100000
set_option maxHeartbeats 4000000
namespace RW
open PySem L2 Evl
variable {P : Program} {w : World} {K : PySem.W.Frag} {mg : Str → Option Value} {base : Heap}
theorem sc_S_moments : FnScope ["self", "found", "outage", "client"] ["self"] (defScope s_S_moments) := ⟨rfl, rfl, rfl, by decide +kernel, rfl, by decide +kernel, by decide +kernel⟩
def sp_S_moments (K : PySem.W.Frag) : Sp := fun vs H Q _ => ∃ (p : Addr) (S : RS.Scn), vs = [.ref p] ∧ SceneAt K H p S ∧ S.Ok ∧ ∀ (M : List Int) a H2, M.Perm (RS.rawM S) → M.Pairwise (· ≤ ·) → H a = none → Ex H H2 → H2 a = some (.lst (M.map V.int)) → Q (.ref a) H2
theorem flat_take {α : Type} (f : α → List Int) (l : List α) {i : Nat} {a : α} (h : l[i]? = some a) : (l.take (i + 1)).flatMap f = (l.take i).flatMap f ++ f a := by
  rw [List.take_add_one, h, List.flatMap_append]
  simp
/-- xs.extend(a list), of a list that is known to no one else -/
theorem s_extL {σ : L2.St} {H : Hp} {ta te : TE} {D : L2.Ends} {l : Addr} {xs ys : List V} (hl : H l = some (.lst xs)) (ha : Ev ta σ H (.ref l)) (h : EvH te σ H (.lst ys)) (hz : xs.length + ys.length ≤ 100000) (k : ∀ H1, Ex H H1 → D.nx σ (upd H1 l (.lst (xs ++ ys)))) :
    tDrop (tBM K "list" rExtend ta (tCons te tNil)) D σ H := ha H (Ex.refl H) _ fun H1 e1 =>
  ⟨Or.inl ⟨rfl, xs, sq_of (e1 l _ hl)⟩, h H1 e1 _ fun b H2 e2 hb => ⟨l, b, xs, ys, rfl, rfl, e2 l _ (e1 l _ hl), hb, sz_of hz, k H2 (e1.trans e2)⟩⟩
theorem s_extT {σ : L2.St} {H : Hp} {ta te : TE} {D : L2.Ends} {l : Addr} {xs ys : List V} (hl : H l = some (.lst xs)) (ha : Ev ta σ H (.ref l)) (h : EvH te σ H (.tup ys)) (hz : xs.length + ys.length ≤ 100000) (k : ∀ H1, Ex H H1 → D.nx σ (upd H1 l (.lst (xs ++ ys)))) :
    tDrop (tBM K "list" (rExtendT K) ta (tCons te tNil)) D σ H := ha H (Ex.refl H) _ fun H1 e1 =>
  ⟨Or.inl ⟨rfl, xs, sq_of (e1 l _ hl)⟩, h H1 e1 _ fun b H2 e2 hb => ⟨l, b, xs, ys, rfl, rfl, e2 l _ (e1 l _ hl), st_of hb, sz_of hz, k H2 (e1.trans e2)⟩⟩
theorem len_flat2 : ∀ l : List (Int × Int), (l.flatMap fun o => [o.1, o.2]).length = 2 * l.length
  | [] => rfl
  | o :: r => by
    rw [List.flatMap_cons, List.length_append, len_flat2 r]
    simp
    omega
theorem len_flatL (S : RS.Scn) (c : Nat) : ∀ l : List Nat, (l.flatMap fun i => RS.listed S c i).length = (S.rule.n - c + 1) * l.length
  | [] => rfl
  | o :: r => by
    rw [List.flatMap_cons, List.length_append, len_flatL S c r]
    unfold RS.listed
    rw [List.length_map, List.length_range, List.length_cons, Nat.mul_succ]
    omega
theorem ok_S_moments (W : Wd K mg) : FnOk P w K mg base CX0 4 (a_S_moments K) (f_S_moments K) ["self"] (sp_S_moments K) := by
  refine (F_S_moments W).ok sc_S_moments (fun vs H Q E h => ?_) (fun cdv A outer s H vs Q E hr h => ?_)
  · obtain ⟨p, S, rfl, _⟩ := h
    rfl
  · obtain ⟨p, S, rfl, hS, ok, k⟩ := h
    obtain ⟨dx, r, l, t, ws, h1, h2, h3, h4, h5⟩ := id hS
    obtain ⟨dr, l', t', s', r1, r2, r3, r4⟩ := id h2
    have ln := ok.rule.len
    have tn := ok.ten
    have ol := ok.ol
    have gn : S.rule.gaps.length = S.rule.n := rfl
    refine ⟨_, PSs.nox (pss_cons (ps_set (i := 1) sc_S_moments.nd rfl (Or.inl rfl) (pe_callTy call_list_of (by rfl) (n_list W) (by decide +kernel) (pa_cons (pe_fld (pv 0) rfl) pa_nil)))
    (pss_cons (ps_for PassesOwn.never rfl (pi_list (pe_fld (pv 0) rfl)) (pg_name (i := 2) sc_S_moments.nd rfl (Or.inl rfl)) (pss_one (ps_expr (pe_bm PySem.F.plainAttrs_list PySem.F.slot_list_extend PySem.F.type_list_extend mt_extendT (pv 1) (pa_cons (pv 2) pa_nil)))))
    (pss_cons (ps_if (pt_cmpR op_notN (pe_meth0 (pe_fld (pv 0) rfl) (cl_Rule W) (m_R_period W) (ok_R_period W) (hr.mono (by decide)) (b_R_period W) .nil pass0) pe_non (nomark _)) (pss_one (ps_for PassesOwn.never rfl (pi_range1 (by rfl) (n_range W) (pa_cons (pe_callB call_len_seq (by rfl) (n_len W) (by decide +kernel) (pa_cons (pe_fld (pv 0) rfl) pa_nil)) pa_nil)) (pg_name (i := 3) sc_S_moments.nd rfl (Or.inl rfl)) (pss_one (ps_expr (pe_bm PySem.F.plainAttrs_list PySem.F.slot_list_extend PySem.F.type_list_extend mt_extend (pv 1) (pa_cons (pe_meth (pv 0) (cl_Scene W) (m_S_listed_slots W) (ok_S_listed_slots W) (hr.mono (by decide)) (b_S_listed_slots W) .nil pass0 (pa_cons (pv 3) pa_nil)) pa_nil)))))) pss_nil)
    (pss_one (ps_ret (pe_callB cr_sortedI (by rfl) (n_sorted W) (by decide +kernel) (pa_cons (pv 1) pa_nil))))))), ?_⟩
    refine q_asgN (en_list (eh_of (ev_fld (ev_var rfl) h1 (cl_Scene W) (na_its_starts W) rfl) h3)) fun fa H1 hfa e1 f1 => ?_
    -- the end, from what has been found
    have fin : ∀ (ns : List Int) v2 v3 H', ns = RS.rawM S → Ex H H' → H' fa = some (.lst (ns.map V.int)) → (tRet (tCB (rSortedI K) (tCons (tVar 1) tNil))) { nx := fun _ H' => Q .non H', rt := Q } [some (.ref p), some (.ref fa), v2, v3] H' := by
      intro ns v2 v3 H' hns e' f'
      refine ev_go (ev_var (v := .ref fa) rfl) fun H2 e2 => ⟨fa, ns, rfl, sq_of (e2 _ _ f'), fun ns' q hp hs hq => k ns' q _ (by rw [← hns]; exact hp) hs (fresh_back (e'.trans e2) hq) ((e'.trans e2).trans (Ex.new hq)) upd_same⟩
    -- the outages
    refine q_forLn (a := t) (xs := ws.map V.ref) (ev_fld (ev_var rfl) (e1 _ _ h1) (cl_Scene W) (na_windows W) rfl) (sq_of (e1 _ _ h4)) (fun i σ' H' => Ex H H' ∧ (∃ v2, σ' = [some (.ref p), some (.ref fa), v2, none]) ∧ H' fa = some (.lst ((S.starts ++ (S.outs.take i).flatMap fun o => [o.1, o.2]).map V.int))) (fun H2 e2 => ⟨e1.trans e2, ⟨none, rfl⟩, ?_⟩) (fun i σ' H' _ q => sq_of (q.1 _ _ h4)) ?_ ?_
    · rw [List.take_zero, List.flatMap_nil, List.append_nil]
      exact e2 _ _ f1
    · rintro i x σ' H' hx ⟨e3, ⟨v2, rfl⟩, f3⟩
      have hi : i < S.outs.length := by have := (List.getElem?_eq_some_iff.mp hx).1; rw [List.length_map, h5.1] at this; exact this
      obtain ⟨g1, g2⟩ := wins_get h5 hi
      rw [List.getElem?_map, g1] at hx
      have hx := Option.some.inj hx
      subst hx
      refine s_extT f3 (ev_var rfl) (eh_of (ev_var rfl) (e3 _ _ g2)) ?_ fun H4 e4 => ⟨(e3.trans e4).mut hfa, ⟨_, rfl⟩, ?_⟩
      · rw [List.length_map, List.length_append, len_flat2, List.length_take]
        show S.m + 2 * _ + 2 ≤ 100000
        omega
      · rw [upd_same, flat_take _ _ (List.getElem?_eq_getElem hi)]
        simp only [List.map_append, List.append_assoc]
        rfl
    · rintro σ' H' ⟨e3, ⟨v2, rfl⟩, f3⟩
      have f3 : H' fa = some (.lst ((S.starts ++ S.outs.flatMap fun o => [o.1, o.2]).map V.int)) := by
        rw [List.length_map, h5.1, List.take_length] at f3
        exact f3
      have hS3 := hS.mono e3
      cases hR : S.rule.tail with
      | fin =>
        have pv : perV S.rule = .non := by unfold perV; rw [hR]
        refine q_when (b := false) (et_test (ev_is (ev_op (ev_meth (ev_fld (ev_var rfl) (e3 _ _ h1) (cl_Scene W) (na_its_rule W) rfl) (e3 _ _ r1) rfl ea_nil (period_at (h2.mono e3) ok.rule)) ev_c rv_notN) (by rw [pv]; rfl))) (fun z => by cases z) fun _ H4 e4 => ?_
        exact fin _ _ _ H4 (by unfold RS.rawM; rw [hR, List.append_nil]) (e3.trans e4) (e4 _ _ f3)
      | tim b =>
        have pv : perV S.rule = .non := by unfold perV; rw [hR]
        refine q_when (b := false) (et_test (ev_is (ev_op (ev_meth (ev_fld (ev_var rfl) (e3 _ _ h1) (cl_Scene W) (na_its_rule W) rfl) (e3 _ _ r1) rfl ea_nil (period_at (h2.mono e3) ok.rule)) ev_c rv_notN) (by rw [pv]; rfl))) (fun z => by cases z) fun _ H4 e4 => ?_
        exact fin _ _ _ H4 (by unfold RS.rawM; rw [hR, List.append_nil]) (e3.trans e4) (e4 _ _ f3)
      | rep c =>
        have pv : perV S.rule = .int (RS.per S.rule c) := by unfold perV; rw [hR]
        refine q_when (b := true) (et_test (ev_is (ev_op (ev_meth (ev_fld (ev_var rfl) (e3 _ _ h1) (cl_Scene W) (na_its_rule W) rfl) (e3 _ _ r1) rfl ea_nil (period_at (h2.mono e3) ok.rule)) ev_c rv_notN) (by rw [pv]; rfl))) (fun _ H4 e4 => ?_) (fun z => by cases z)
        have e34 := e3.trans e4
        refine s_forR1 (n := (S.m : Int)) (ea_cons (ev_is (ev_lenL (eh_of (ev_fld (ev_var rfl) (e34 _ _ h1) (cl_Scene W) (na_its_starts W) rfl) (e34 _ _ h3))) (by rw [List.length_map])) ea_nil) ⟨by omega, by omega⟩ (fun i σ' H' => Ex H H' ∧ (∃ v3, σ' = [some (.ref p), some (.ref fa), v2, v3]) ∧ H' fa = some (.lst ((S.starts ++ (S.outs.flatMap fun o => [o.1, o.2]) ++ ((List.range S.m).take i).flatMap fun i => RS.listed S c i).map V.int))) (fun H5 e5 => ⟨e34.trans e5, ⟨none, rfl⟩, ?_⟩) ?_ ?_
        · rw [List.take_zero, List.flatMap_nil, List.append_nil]
          exact e5 _ _ (e4 _ _ f3)
        · rintro i σ' H' hi ⟨e6, ⟨v3, rfl⟩, f6⟩
          have hi : i < S.m := by omega
          refine s_extL f6 (ev_var rfl) (EvN.h (en_meth (ev_var rfl) (e6 _ _ h1) rfl (ea_cons (ev_var rfl) ea_nil) (listed_slots_at (hS.mono e6) ok.rule hR hi))) ?_ fun H7 e7 => ⟨(e6.trans e7).mut hfa, ⟨_, rfl⟩, ?_⟩
          · rw [List.length_map, List.length_append, List.length_append, len_flat2, len_flatL, List.length_take, List.length_range, List.length_map]
            unfold RS.listed
            rw [List.length_map, List.length_range]
            have h9 : (S.rule.n - c + 1) * min i S.m ≤ 21 * 10 := Nat.mul_le_mul (by omega) (by omega)
            show S.m + 2 * S.outs.length + _ + _ ≤ 100000
            omega
          · rw [upd_same, flat_take _ _ (List.getElem?_range hi)]
            simp only [List.map_append, List.append_assoc]
        · rintro σ' H' ⟨e6, ⟨v3, rfl⟩, f6⟩
          refine fin _ _ _ H' ?_ e6 f6
          unfold RS.rawM
          rw [hR, Int.toNat_natCast, List.take_of_length_le (by rw [List.length_range]; exact Nat.le_refl _)]
theorem moments_at {H : Hp} {p : Addr} {S : RS.Scn} (h : SceneAt K H p S) (ok : S.Ok) {H1 : Hp} (e : Ex H H1) {Q : VK} (k : ∀ (M : List Int) a H2, M.Perm (RS.rawM S) → M.Pairwise (· ≤ ·) → H1 a = none → Ex H1 H2 → H2 a = some (.lst (M.map V.int)) → Q (.ref a) H2) (E : XK) : sp_S_moments K [.ref p] H1 Q E := ⟨p, S, rfl, h.mono e, ok, k⟩
end RW
end

section
set_option Elab.async false
set_option linter.all false
set_option maxRecDepth 100000
set_option maxHeartbeats 4000000
namespace RW
open PySem L2 Evl
variable {P : Program} {w : World} {K : PySem.W.Frag} {mg : Str → Option Value} {base : Heap}
/-! ### data: a run as it stands; G knows all but its own instance and its three dicts -/
structure RC where
  dx : Addr
  sc : Addr
  r : Addr
  b : Addr
  ch : Addr
  sv : Addr
  cl : Addr
  wt : Addr
def flU (c : RC) (ff : Int) : List (Str × V) := [("its_scene", V.ref c.sc), ("pattern", V.ref c.r), ("begins", V.ref c.b), ("changes", V.ref c.ch), ("services", V.ref c.sv), ("closed", V.ref c.cl), ("waiting", V.ref c.wt), ("free_from", V.int ff)]
abbrev kI (i : Nat) : Key := Sum.inl (i : Int)
def wtK (wt : List (Nat × Nat)) : List (Key × V) := wt.map fun p => (kI p.1, V.int (p.2 : Int))
def SvAt (H : Hp) (ks : List (Key × V)) (sv : List (Nat × (Nat × Int))) : Prop := ks.length = sv.length ∧ ∀ (i : Nat) (q : Nat × (Nat × Int)), sv[i]? = some q → ∃ t, ks[i]? = some (kI q.1, V.ref t) ∧ H t = some (.tup [.int (q.2.1 : Int), .int q.2.2])
structure RunFix (K : PySem.W.Frag) (G : Hp) (p : Addr) (S : RS.Scn) (M : List Int) (c : RC) : Prop where
  ok : S.Ok
  np : G p = none
  nsv : G c.sv = none
  ncl : G c.cl = none
  nwt : G c.wt = none
  d1 : c.sv ≠ c.cl
  d2 : c.sv ≠ c.wt
  d3 : c.cl ≠ c.wt
  scene : SceneAt K G c.sc S
  rule : RuleAt K G c.r S.rule
  begins : G c.b = some (.lst (S.starts.map V.int))
  changes : G c.ch = some (.lst (M.map V.int))
  mok : RS.MOk S M
structure RunSt (K : PySem.W.Frag) (H : Hp) (p : Addr) (c : RC) (st : RS.Stt) : Prop where
  ob : H p = some (.ins (He.ga K "Run") c.dx (flU c st.fr))
  wt : H c.wt = some (.dK (wtK st.wt))
  cl : ∃ ks : List (Key × V), H c.cl = some (.dK ks) ∧ ks.map (·.1) = st.cl.map kI
  sv : ∃ ks : List (Key × V), H c.sv = some (.dK ks) ∧ SvAt H ks st.sv
theorem SvAt.mono {H H' : Hp} {ks : List (Key × V)} {sv : List (Nat × (Nat × Int))} (h : SvAt H ks sv) (e : Ex H H') : SvAt H' ks sv := ⟨h.1, fun i q hq => let ⟨t, h1, h2⟩ := h.2 i q hq; ⟨t, h1, e _ _ h2⟩⟩
/-- a dict or an instance is changed: the tuples stay -/
theorem SvAt.upd {H : Hp} {ks : List (Key × V)} {sv : List (Nat × (Nat × Int))} {x : Addr} {o u : HO} (h : SvAt H ks sv) (hx : H x = some u) (hu : ∀ xs, u ≠ .tup xs) : SvAt (upd H x o) ks sv := ⟨h.1, fun i q hq => by
  obtain ⟨t, h1, h2⟩ := h.2 i q hq
  refine ⟨t, h1, ?_⟩
  rw [upd_ne (ne_of h2 hx (fun z => hu _ z.symm))]
  exact h2⟩
theorem RunSt.mono {H H' : Hp} {p : Addr} {c : RC} {st : RS.Stt} (h : RunSt K H p c st) (e : Ex H H') : RunSt K H' p c st := by
  obtain ⟨h1, h2, ⟨k1, h3, h4⟩, ⟨k2, h5, h6⟩⟩ := h
  exact ⟨e _ _ h1, e _ _ h2, ⟨k1, e _ _ h3, h4⟩, ⟨k2, e _ _ h5, h6.mono e⟩⟩
section
variable {G H : Hp} {p : Addr} {S : RS.Scn} {M : List Int} {c : RC} {st : RS.Stt}
theorem RunSt.p_wt (h : RunSt K H p c st) : p ≠ c.wt := ne_of h.ob h.wt (by intro z; cases z)
theorem RunSt.p_cl (h : RunSt K H p c st) : p ≠ c.cl := let ⟨_, h3, _⟩ := h.cl; ne_of h.ob h3 (by intro z; cases z)
theorem RunSt.p_sv (h : RunSt K H p c st) : p ≠ c.sv := let ⟨_, h3, _⟩ := h.sv; ne_of h.ob h3 (by intro z; cases z)
/-- waiting is changed -/
theorem RunSt.put_wt (h : RunSt K H p c st) (F : RunFix K G p S M c) (wt' : List (Nat × Nat)) : RunSt K (upd H c.wt (.dK (wtK wt'))) p c { st with wt := wt' } := by
  obtain ⟨k1, h3, h4⟩ := h.cl
  obtain ⟨k2, h5, h6⟩ := h.sv
  exact ⟨by rw [upd_ne h.p_wt]; exact h.ob, upd_same, ⟨k1, by rw [upd_ne F.d3]; exact h3, h4⟩, ⟨k2, by rw [upd_ne F.d2]; exact h5, h6.upd h.wt (by intro xs z; cases z)⟩⟩
/-- closed is changed -/
theorem RunSt.put_cl (h : RunSt K H p c st) (F : RunFix K G p S M c) {ks : List (Key × V)} {cl' : List Nat} (hk : ks.map (·.1) = cl'.map kI) : RunSt K (upd H c.cl (.dK ks)) p c { st with cl := cl' } := by
  obtain ⟨k1, h3, h4⟩ := h.cl
  obtain ⟨k2, h5, h6⟩ := h.sv
  exact ⟨by rw [upd_ne h.p_cl]; exact h.ob, by rw [upd_ne (Ne.symm F.d3)]; exact h.wt, ⟨ks, upd_same, hk⟩, ⟨k2, by rw [upd_ne F.d1]; exact h5, h6.upd h3 (by intro xs z; cases z)⟩⟩
/-- services are changed -/
theorem RunSt.put_sv (h : RunSt K H p c st) (F : RunFix K G p S M c) {ks : List (Key × V)} {sv' : List (Nat × (Nat × Int))} (hk : SvAt H ks sv') : RunSt K (upd H c.sv (.dK ks)) p c { st with sv := sv' } := by
  obtain ⟨k1, h3, h4⟩ := h.cl
  obtain ⟨k2, h5, h6⟩ := h.sv
  exact ⟨by rw [upd_ne h.p_sv]; exact h.ob, by rw [upd_ne (Ne.symm F.d2)]; exact h.wt, ⟨k1, by rw [upd_ne (Ne.symm F.d1)]; exact h3, h4⟩, ⟨ks, upd_same, hk.upd h5 (by intro xs z; cases z)⟩⟩
/-- free_from is changed -/
theorem RunSt.put_fr (h : RunSt K H p c st) (F : RunFix K G p S M c) (f : Int) : RunSt K (upd H p (.ins (He.ga K "Run") c.dx (flU c f))) p c { st with fr := f } := by
  obtain ⟨k1, h3, h4⟩ := h.cl
  obtain ⟨k2, h5, h6⟩ := h.sv
  exact ⟨upd_same, by rw [upd_ne (Ne.symm h.p_wt)]; exact h.wt, ⟨k1, by rw [upd_ne (Ne.symm h.p_cl)]; exact h3, h4⟩, ⟨k2, by rw [upd_ne (Ne.symm h.p_sv)]; exact h5, h6.upd h.ob (by intro xs z; cases z)⟩⟩
theorem RunFix.mono {G' : Hp} (F : RunFix K G p S M c) (e : Ex G G') (h1 : G' p = none) (h2 : G' c.sv = none) (h3 : G' c.cl = none) (h4 : G' c.wt = none) : RunFix K G' p S M c :=
  ⟨F.ok, h1, h2, h3, h4, F.d1, F.d2, F.d3, F.scene.mono e, F.rule.mono e, e _ _ F.begins, e _ _ F.changes, F.mok⟩
/-- all that stands now, but the run's own objects, is known -/
theorem rebase (F : RunFix K G p S M c) (e : Ex G H) (h : RunSt K H p c st) : ∃ G2, Ex G G2 ∧ Ex G2 H ∧ RunFix K G2 p S M c ∧ ∀ x o, H x = some o → x ≠ p → x ≠ c.sv → x ≠ c.cl → x ≠ c.wt → G2 x = some o := by
  refine ⟨fun x => if x = p ∨ x = c.sv ∨ x = c.cl ∨ x = c.wt then none else H x, ?_, ?_, ?_, ?_⟩
  · intro x o hx
    show (if x = p ∨ x = c.sv ∨ x = c.cl ∨ x = c.wt then none else H x) = some o
    rw [if_neg]
    · exact e _ _ hx
    · rintro (z | z | z | z)
      · rw [z, F.np] at hx; cases hx
      · rw [z, F.nsv] at hx; cases hx
      · rw [z, F.ncl] at hx; cases hx
      · rw [z, F.nwt] at hx; cases hx
  · intro x o hx
    have hx : (if x = p ∨ x = c.sv ∨ x = c.cl ∨ x = c.wt then none else H x) = some o := hx
    split at hx
    · cases hx
    · exact hx
  · refine F.mono ?_ ?_ ?_ ?_ ?_
    · intro x o hx
      show (if x = p ∨ x = c.sv ∨ x = c.cl ∨ x = c.wt then none else H x) = some o
      rw [if_neg]
      · exact e _ _ hx
      · rintro (z | z | z | z)
        · rw [z, F.np] at hx; cases hx
        · rw [z, F.nsv] at hx; cases hx
        · rw [z, F.ncl] at hx; cases hx
        · rw [z, F.nwt] at hx; cases hx
    · exact if_pos (.inl rfl)
    · exact if_pos (.inr (.inl rfl))
    · exact if_pos (.inr (.inr (.inl rfl)))
    · exact if_pos (.inr (.inr (.inr rfl)))
  · intro x o hx h1 h2 h3 h4
    show (if x = p ∨ x = c.sv ∨ x = c.cl ∨ x = c.wt then none else H x) = some o
    rw [if_neg (by rintro (z | z | z | z) <;> contradiction)]
    exact hx
/-- what is no dict and no run is none of them -/
theorem RunSt.other (h : RunSt K H p c st) {x : Addr} {o : HO} (hx : H x = some o) (h1 : ∀ C dx fs, o ≠ .ins C dx fs) (h2 : ∀ ks, o ≠ .dK ks) : x ≠ p ∧ x ≠ c.sv ∧ x ≠ c.cl ∧ x ≠ c.wt := by
  obtain ⟨k1, h3, _⟩ := h.cl
  obtain ⟨k2, h5, _⟩ := h.sv
  exact ⟨ne_of hx h.ob (h1 _ _ _), ne_of hx h5 (h2 _), ne_of hx h3 (h2 _), ne_of hx h.wt (h2 _)⟩
end
/-! ### failing_until, latest_moment, is_repeated -/
theorem find_ix {α : Type} (f : α → Bool) : ∀ l : List α, match l.findIdx? f with
    | some i => ∃ a, l[i]? = some a ∧ l.find? f = some a
    | none => l.find? f = none
  | [] => rfl
  | a :: r => by
    rw [List.findIdx?_cons, List.find?_cons]
    by_cases h : f a = true
    · rw [if_pos h, h]
      exact ⟨a, rfl, rfl⟩
    · rw [if_neg h]
      have ih := find_ix f r
      have hf : f a = false := by simpa using h
      rw [hf]
      cases e : r.findIdx? f with
      | none =>
        rw [e] at ih
        exact ih
      | some i =>
        rw [e] at ih
        obtain ⟨b, h1, h2⟩ := ih
        exact ⟨b, by rw [← h1]; rfl, h2⟩
theorem ev_outs {σ : L2.St} {H : Hp} {sc : Addr} {S : RS.Scn} {ta tb : TE} {i : Nat} {o : Int × Int} (h : SceneAt K H sc S) (ha : Ev ta σ H (.ref sc)) (hb : Ev tb σ H (.int (i : Int))) (ho : S.outs[i]? = some o) :
    Ev (tOp (rIxT K) (tOp (rIxL K) (tMeth (He.ga K "Scene") "outages" (sp_S_outages K) [] E0 ta tNil) tb) (tC (.int 1))) σ H (.int o.2) := fun H1 e Q q =>
  ha H1 e _ fun H2 e2 => by
    obtain ⟨dx, r, l, t, ws, h1, _⟩ := h
    refine ⟨sc, dx, _, rfl, e2 _ _ (e _ _ h1), rfl, sc, S, rfl, SceneAt.mono (e.trans e2) ⟨dx, r, l, t, ws, h1, by assumption⟩, fun ws' a H3 ha3 e3 h3 hw => ?_⟩
    refine hb H3 ((e.trans e2).trans e3) _ fun H4 e4 => ?_
    have hi : i < S.outs.length := (List.getElem?_eq_some_iff.mp ho).1
    obtain ⟨g1, g2⟩ := wins_get hw hi
    rw [List.getElem?_eq_getElem hi] at ho
    have ho := Option.some.inj ho
    refine ⟨a, _, _, .ref (ws'[i]'(by have := hw.1; omega)), rfl, rfl, sq_of (e4 _ _ h3), atI_nat (by rw [List.getElem?_map, g1]; rfl), ?_⟩
    refine ⟨_, winV o, 1, .int o.2, rfl, rfl, st_of (e4 _ _ (by rw [← ho]; exact g2)), rfl, q H4 ((e2.trans e3).trans e4)⟩
theorem sc_U_failing_until : FnScope ["self", "slot", "at"] ["self", "slot"] (defScope s_U_failing_until) := ⟨rfl, rfl, rfl, by decide +kernel, rfl, by decide +kernel, by decide +kernel⟩
def sp_U_failing_until (K : PySem.W.Frag) : Sp := fun vs H Q _ => ∃ (p : Addr) (s : Int) (G : Hp) (S : RS.Scn) (M : List Int) (c : RC) (st : RS.Stt), vs = [.ref p, .int s] ∧ RunFix K G p S M c ∧ Ex G H ∧ RunSt K H p c st ∧ RetV (.int (RS.failUntil S st.fr s)) H Q
theorem ok_U_failing_until (W : Wd K mg) : FnOk P w K mg base CX0 3 (a_U_failing_until K) (f_U_failing_until K) ["self", "slot"] (sp_U_failing_until K) := by
  refine (F_U_failing_until W).ok sc_U_failing_until (fun vs H Q E h => ?_) (fun cdv A outer s H vs Q E hr h => ?_)
  · obtain ⟨p, s, G, S, M, c, st, rfl, _⟩ := h
    rfl
  · obtain ⟨p, n, G, S, M, c, st, rfl, F, eG, hst, k⟩ := h
    refine ⟨_, PSs.nox (pss_cons (ps_if (pt_cmpR op_lt (pv 1) (pe_fld (pv 0) rfl) (nomark _)) (pss_one (ps_ret (pe_fld (pv 0) rfl))) pss_nil)
    (pss_cons (ps_set (i := 2) sc_U_failing_until.nd rfl (Or.inl rfl) (pe_meth (pe_fld (pv 0) rfl) (cl_Scene W) (m_S_outage_at W) (ok_S_outage_at W) (hr.mono (by decide)) (b_S_outage_at W) .nil pass0 (pa_cons (pv 1) pa_nil)))
    (pss_one (ps_ret (pe_ifExp (pt_cmpR op_isN (pv 2) pe_non (nomark _)) (pv 1) (pe_ix ix_tup (pe_ix ix_list (pe_meth0 (pe_fld (pv 0) rfl) (cl_Scene W) (m_S_outages W) (ok_S_outages W) (hr.mono (by decide)) (b_S_outages W) .nil pass0) (pv 2) (fun _ _ => rfl)) pe_int (fun _ _ => rfl))))))), ?_⟩
    have ob := hst.ob
    refine q_when (b := decide (n < st.fr)) (et_test (ev_op (ev_var rfl) (ev_fld (ev_var rfl) ob (cl_Run W) (na_free_from W) rfl) rv_I0)) (fun hb H1 e1 => ?_) fun hb H1 e1 => ?_
    · have hb := of_decide_eq_true hb
      have : RS.failUntil S st.fr n = st.fr := by unfold RS.failUntil; rw [if_pos hb]
      rw [this] at k
      exact s_ret (ev_fld (ev_var rfl) (e1 _ _ ob) (cl_Run W) (na_free_from W) rfl) fun H2 e2 => k H2 (e1.trans e2)
    · have hb := of_decide_eq_false hb
      have hs := F.scene.mono (eG.trans e1)
      obtain ⟨dx, r, l, t, ws, h1, _⟩ := id hs
      refine q_asg (ev_meth (ev_fld (ev_var rfl) (e1 _ _ ob) (cl_Run W) (na_its_scene W) rfl) h1 rfl (ea_cons (ev_var rfl) ea_nil) (outage_at_at hs F.ok.ol)) fun H2 e2 => ?_
      have hf := find_ix (inOut n) S.outs
      cases e : S.outs.findIdx? (inOut n) with
      | none =>
        rw [e] at hf
        have hf : S.outs.find? (inOut n) = none := hf
        have : RS.failUntil S st.fr n = n := by
          unfold RS.failUntil
          rw [if_neg hb]
          show (match S.outs.find? (inOut n) with | none => n | some o => o.2) = n
          rw [hf]
        rw [this] at k
        exact s_ret (v := .int n) (ev_if (b := true) (et_test (ev_op (ev_var rfl) ev_c rv_isN)) (fun _ => ev_var rfl) (fun z => by cases z)) fun H3 e3 => k H3 ((e1.trans e2).trans e3)
      | some i =>
        rw [e] at hf
        obtain ⟨o, ho, hf⟩ := hf
        have : RS.failUntil S st.fr n = o.2 := by
          unfold RS.failUntil
          rw [if_neg hb]
          show (match S.outs.find? (inOut n) with | none => n | some o => o.2) = o.2
          rw [hf]
        rw [this] at k
        exact s_ret (v := .int o.2) (ev_if (b := false) (et_test (ev_op (ev_var rfl) ev_c rv_isN)) (fun z => by cases z) fun _ => ev_outs (hs.mono e2) (ev_fld (ev_var rfl) (e2 _ _ (e1 _ _ ob)) (cl_Run W) (na_its_scene W) rfl) (ev_var rfl) ho) fun H3 e3 => k H3 ((e1.trans e2).trans e3)
theorem failing_until_at {G H : Hp} {p : Addr} {S : RS.Scn} {M : List Int} {c : RC} {st : RS.Stt} {n : Int} (F : RunFix K G p S M c) (eG : Ex G H) (h : RunSt K H p c st) : SpV (sp_U_failing_until K) [.ref p, .int n] H (.int (RS.failUntil S st.fr n)) := fun H1 e Q q _ => ⟨p, n, G, S, M, c, st, rfl, F, eG.trans e, h.mono e, q⟩
theorem sc_U_latest_moment : FnScope ["self", "slot", "moment"] ["self", "slot"] (defScope s_U_latest_moment) := ⟨rfl, rfl, rfl, by decide +kernel, rfl, by decide +kernel, by decide +kernel⟩
def sp_U_latest_moment (K : PySem.W.Frag) : Sp := fun vs H Q _ => ∃ (p : Addr) (s : Int) (G : Hp) (S : RS.Scn) (M : List Int) (c : RC) (st : RS.Stt), vs = [.ref p, .int s] ∧ RunFix K G p S M c ∧ Ex G H ∧ RunSt K H p c st ∧ M.length ≤ 40000 ∧ st.fr ≤ s ∧ RetV (.int (RS.latest M st.fr s)) H Q
theorem ok_U_latest_moment (W : Wd K mg) : FnOk P w K mg base CX0 1 (a_U_latest_moment K) (f_U_latest_moment K) ["self", "slot"] (sp_U_latest_moment K) := by
  refine (F_U_latest_moment W).ok sc_U_latest_moment (fun vs H Q E h => ?_) (fun cdv A outer s H vs Q E hr h => ?_)
  · obtain ⟨p, s, G, S, M, c, st, rfl, _⟩ := h
    rfl
  · obtain ⟨p, n, G, S, M, c, st, rfl, F, eG, hst, hM, hfr, k⟩ := h
    refine ⟨_, PSs.nox (pss_one (ps_ret (pe_callB (cr_max rfl) (by rfl) (n_max W) (by decide +kernel) (pa_cons (pe_lc (own := [("moment", 2)]) rfl sc_U_latest_moment.nd (pi_list (pe_op op_cat (pe_fld (pv 0) rfl) (pe_lst (pa_cons (pe_fld (pv 0) rfl) pa_nil)))) (blkOk_by (N := ["self", "slot", "moment"]) (sc := defScope s_U_latest_moment) (by decide +kernel)) (fun _ _ _ _ _ => (pg_name (i := 2) sc_U_latest_moment.nd rfl (Or.inl rfl))) (fun _ _ _ _ _ => (pts_one (pt_cmpR op_le (pv 2) (pv 1) (nomark _)))) (fun _ _ _ _ _ => (pv 2))) pa_nil)))), ?_⟩
    have ob := hst.ob
    have hcat : EvN (tOp rCat (tFld K (tVar 0) "changes") (tLst (tCons (tFld K (tVar 0) "free_from") tNil))) (L2.start ["self", "slot", "moment"] [.ref p, .int n]) H (.lst ((M ++ [st.fr]).map V.int)) := by
      rw [List.map_append]
      exact en_cat (eh_of (ev_fld (ev_var rfl) ob (cl_Run W) (na_changes W) rfl) (eG _ _ F.changes)) (EvN.h (en_lst (ea_cons (ev_fld (ev_var rfl) ob (cl_Run W) (na_free_from W) rfl) ea_nil) (show (1 : Nat) ≤ 100000 by decide))) (by rw [List.length_map]; show M.length + 1 ≤ 100000; omega)
    have key := en_lcL (K := K) (tt := tTest (tOp (rI0 fun i j => .bl (decide (i ≤ j))) (tVar 2) (tVar 1))) (te := tVar 2) (j := 2) (vs := [2]) (σ := L2.start ["self", "slot", "moment"] [.ref p, .int n]) (M ++ [st.fr]) V.int (fun x => decide (x ≤ n)) V.int hcat.h (by rw [List.length_append]; show M.length + 1 ≤ 50000; omega) (fun _ => rfl)
      (fun i a H1 ha e1 => et_test (ev_op (ev_var rfl) (ev_var rfl) rv_I0)) (fun i a H1 ha e1 _ => ev_var rfl)
    refine s_ret (ev_max key.h ?_) k
    intro z
    have : st.fr ∈ (M ++ [st.fr]).filter fun x => decide (x ≤ n) := List.mem_filter.mpr ⟨by simp, by simpa using hfr⟩
    rw [z] at this
    cases this
theorem latest_moment_at {G H : Hp} {p : Addr} {S : RS.Scn} {M : List Int} {c : RC} {st : RS.Stt} {n : Int} (F : RunFix K G p S M c) (eG : Ex G H) (h : RunSt K H p c st) (hM : M.length ≤ 40000) (hfr : st.fr ≤ n) : SpV (sp_U_latest_moment K) [.ref p, .int n] H (.int (RS.latest M st.fr n)) := fun H1 e Q q _ => ⟨p, n, G, S, M, c, st, rfl, F, eG.trans e, h.mono e, hM, hfr, q⟩
theorem sc_U_is_repeated : FnScope ["self", "slot", "period"] ["self", "slot"] (defScope s_U_is_repeated) := ⟨rfl, rfl, rfl, by decide +kernel, rfl, by decide +kernel, by decide +kernel⟩
def sp_U_is_repeated (K : PySem.W.Frag) : Sp := fun vs H Q _ => ∃ (p : Addr) (s : Int) (G : Hp) (S : RS.Scn) (M : List Int) (c : RC) (st : RS.Stt), vs = [.ref p, .int s] ∧ RunFix K G p S M c ∧ Ex G H ∧ RunSt K H p c st ∧ M.length ≤ 40000 ∧ st.fr ≤ s ∧ RetV (.bl (RS.repeated S M st.fr s)) H Q
theorem ok_U_is_repeated (W : Wd K mg) : FnOk P w K mg base CX0 2 (a_U_is_repeated K) (f_U_is_repeated K) ["self", "slot"] (sp_U_is_repeated K) := by
  refine (F_U_is_repeated W).ok sc_U_is_repeated (fun vs H Q E h => ?_) (fun cdv A outer s H vs Q E hr h => ?_)
  · obtain ⟨p, s, G, S, M, c, st, rfl, _⟩ := h
    rfl
  · obtain ⟨p, n, G, S, M, c, st, rfl, F, eG, hst, hM, hfr, k⟩ := h
    refine ⟨_, PSs.nox (pss_cons (ps_set (i := 2) sc_U_is_repeated.nd rfl (Or.inl rfl) (pe_meth0 (pe_fld (pv 0) rfl) (cl_Rule W) (m_R_period W) (ok_R_period W) (hr.mono (by decide)) (b_R_period W) .nil pass0))
    (pss_one (ps_ret (pe_and (pe_cmpR op_notN (pv 2) pe_non (nomark _)) (pe_one (pe_cmpR op_gt (pe_op op_sub (pv 1) (pe_meth (pv 0) (cl_Run W) (m_U_latest_moment W) (ok_U_latest_moment W) (hr.mono (by decide)) (b_U_latest_moment W) .nil pass0 (pa_cons (pv 1) pa_nil))) (pv 2) (nomark _))))))), ?_⟩
    have ob := hst.ob
    have hR := F.rule.mono eG
    obtain ⟨dr, l', t', s', r1, _⟩ := id hR
    refine q_asg (ev_meth (ev_fld (ev_var rfl) ob (cl_Run W) (na_pattern W) rfl) r1 rfl ea_nil (period_at hR F.ok.rule)) fun H1 e1 => ?_
    unfold RS.repeated RS.period at k
    unfold perV
    cases e : S.rule.tail with
    | fin =>
      rw [e] at k
      exact s_ret (v := .bl false) (ev_andV (a := false) (b := false) (ev_op (ev_var rfl) ev_c rv_notN) (fun z => by cases z)) fun H2 e2 => k H2 (e1.trans e2)
    | tim b =>
      rw [e] at k
      exact s_ret (v := .bl false) (ev_andV (a := false) (b := false) (ev_op (ev_var rfl) ev_c rv_notN) (fun z => by cases z)) fun H2 e2 => k H2 (e1.trans e2)
    | rep c0 =>
      rw [e] at k
      exact s_ret (ev_andV (a := true) (ev_op (ev_var rfl) ev_c rv_notN) fun _ => ev_op (ev_op (ev_var rfl) (ev_meth (ev_var rfl) (e1 _ _ ob) rfl (ea_cons (ev_var rfl) ea_nil) (latest_moment_at F (eG.trans e1) (hst.mono e1) hM hfr)) rv_I0) (ev_var rfl) rv_I0) fun H2 e2 => k H2 (e1.trans e2)
theorem is_repeated_at {G H : Hp} {p : Addr} {S : RS.Scn} {M : List Int} {c : RC} {st : RS.Stt} {n : Int} (F : RunFix K G p S M c) (eG : Ex G H) (h : RunSt K H p c st) (hM : M.length ≤ 40000) (hfr : st.fr ≤ n) : SpV (sp_U_is_repeated K) [.ref p, .int n] H (.bl (RS.repeated S M st.fr n)) := fun H1 e Q q _ => ⟨p, n, G, S, M, c, st, rfl, F, eG.trans e, h.mono e, hM, hfr, q⟩
end RW
end

section
set_option Elab.async false
set_option linter.all false
set_option maxRecDepth 100000
set_option maxHeartbeats 4000000
/-! ### comprehensions over a locked dict; tables of ints -/
namespace RW
open PySem L2 Evl
def hide (H : Hp) (d : Addr) : Hp := fun x => if x = d then none else H x
section
variable {G H H' : Hp} {d x : Addr} {o u : HO}
theorem hide_ex : Ex (hide H d) H := fun a o h => by
  unfold hide at h
  split at h
  · cases h
  · exact h
theorem hide_no : hide H d d = none := if_pos rfl
theorem hide_at (hx : H x = some o) (h : x ≠ d) : hide H d x = some o := by
  unfold hide
  rw [if_neg h]
  exact hx
theorem hide_lock : Ex (hide H d) (upd H d u) := hide_ex.mut hide_no
theorem hide_mono (e : Ex H H') : Ex (hide H d) (hide H' d) := fun a o h => by
  unfold hide at h ⊢
  split at h
  · cases h
  · rw [if_neg (by assumption)]
    exact e _ _ h
theorem ex_hide (e : Ex G H) (h : G d = none) : Ex G (hide H d) := fun a o ha => hide_at (e _ _ ha) (ne_of_none ha h)
end
section
variable {K : PySem.W.Frag} {tt : TT} {te tk tv td : TE} {vs : List Nat} {σ : L2.St} {H : Hp} {d : Addr} {j : Nat}
/-- what a locked dict's walk leaves -/
theorem lock_back {H0 H1 H2 : Hp} {Dl : Addr} {u o : HO} {od : Obj} (hd : H0 d = some u) (e1 : Ex (upd H0 d (.frz od u)) H1) (hD : H1 Dl = none) (e2 : Ex H1 H2) (h2 : H2 Dl = some o) : H2 d = some (.frz od u) ∧ H0 Dl = none ∧ Ex H0 (upd H2 d u) ∧ upd H2 d u Dl = some o := by
  have hf : H1 d = some (.frz od u) := e1 _ _ upd_same
  have hne : Dl ≠ d := by
    intro z
    rw [z, hf] at hD
    cases hD
  refine ⟨e2 _ _ hf, ?_, ex_unlock hd (e1.trans e2), by rw [upd_ne hne]; exact h2⟩
  have := fresh_back e1 hD
  rw [upd_ne hne] at this
  exact this
/-- [.. for k in d] -/
theorem en_lcK {kvs : List (Key × V)} (as : List Nat) (sel : Nat → Bool) (val : Nat → V) (hd : H d = some (.dK kvs)) (hk : kvs.map (·.1) = as.map kI) (hn : as.length ≤ 50000) (htd : Ev td σ (hide H d) (.ref d)) (hw : ∀ x, wipe ((wipe σ vs).set j (some x)) vs = wipe σ vs)
    (ht : ∀ (i : Nat) (a : Nat) H1, as[i]? = some a → Ex (hide H d) H1 → EvT tt ((wipe σ vs).set j (some (.int (a : Int)))) H1 (sel a)) (he : ∀ (i : Nat) (a : Nat) H1, as[i]? = some a → Ex (hide H d) H1 → sel a = true → Ev te ((wipe σ vs).set j (some (.int (a : Int)))) H1 (val a)) :
    EvN (tLockE (tLc (iKeys td) (gName j) tt te vs)) σ H (.lst ((as.filter sel).map val)) := fun H0 e Q q => by
  refine ⟨d, .dK kvs, e _ _ hd, True.intro, fun od => ?_⟩
  have ex : Ex (hide H d) (upd H0 d (.frz od (.dK kvs))) := (hide_mono e).trans hide_lock
  refine htd _ ex _ fun H1 e1 => ⟨d, od, rfl, .inl ⟨kvs, e1 _ _ upd_same, fun Dl hD => ?_⟩⟩
  have hl : kvs.length = as.length := by
    have := congrArg List.length hk
    rw [List.length_map, List.length_map] at this
    exact this
  refine lc_walk (J := Itk d od kvs) (G := fun H => H d = some (.frz od (.dK kvs))) (Y := fun i H x H' => H' = H ∧ ∃ k v, kvs[i]? = some (k, v) ∧ x = kV k) as (by rw [← hl]; exact walk_keys) sel val hD (fun H a => a _ _ (e1 _ _ upd_same)) hn
    (fun i a x H2 H3 ha ex2 y => ?_) gName_mono (fun H2 e2 h2 => ?_)
  · obtain ⟨e2, k, v, g1, e3⟩ := y
    subst e2 e3
    have g2 : (kvs.map (·.1))[i]? = some k := by rw [List.getElem?_map, g1]; rfl
    rw [hk, List.getElem?_map, ha] at g2
    have g3 : kI a = k := Option.some.inj g2
    subst g3
    have ex3 := (ex.trans e1).trans ex2
    exact ⟨hw _, Ex.refl _, ht i a _ ha ex3, he i a _ ha ex3⟩
  · obtain ⟨g1, g2, g3, g4⟩ := lock_back (e _ _ hd) e1 hD e2 h2
    exact ⟨g1, q Dl _ g2 g3 g4⟩
/-- [.. for k, v in d.items()] -/
theorem en_lcI {α : Type} {j1 j2 : Nat} {kvs : List (Key × V)} (as : List α) (fk : α → Nat) (fv : α → V) (sel : α → Bool) (val : α → V) (hd : H d = some (.dK kvs)) (hk : kvs = as.map fun a => (kI (fk a), fv a)) (hn : as.length ≤ 50000) (htd : Ev td σ (hide H d) (.ref d)) (hw : ∀ x y, wipe (((wipe σ vs).set j1 (some x)).set j2 (some y)) vs = wipe σ vs)
    (ht : ∀ (i : Nat) (a : α) H1, as[i]? = some a → Ex (hide H d) H1 → EvT tt (((wipe σ vs).set j1 (some (.int (fk a : Int)))).set j2 (some (fv a))) H1 (sel a)) (he : ∀ (i : Nat) (a : α) H1, as[i]? = some a → Ex (hide H d) H1 → sel a = true → Ev te (((wipe σ vs).set j1 (some (.int (fk a : Int)))).set j2 (some (fv a))) H1 (val a)) :
    EvN (tLockE (tLc (iItems td) (gTup K 2 (gCons (gName j1) (gCons (gName j2) gNil))) tt te vs)) σ H (.lst ((as.filter sel).map val)) := fun H0 e Q q => by
  refine ⟨d, .dK kvs, e _ _ hd, True.intro, fun od => ?_⟩
  have ex : Ex (hide H d) (upd H0 d (.frz od (.dK kvs))) := (hide_mono e).trans hide_lock
  refine htd _ ex _ fun H1 e1 => ⟨d, od, kvs, rfl, e1 _ _ upd_same, fun Dl hD => ?_⟩
  have hl : kvs.length = as.length := by rw [hk, List.length_map]
  refine lc_walk (J := Iti d od kvs) (G := fun H => H d = some (.frz od (.dK kvs))) (Y := YPair (fun i => kvs[i]?.map fun kv => kV kv.1) (fun i => kvs[i]?.map Prod.snd)) as (by rw [← hl]; exact walk_items) sel val hD (fun H a => a _ _ (e1 _ _ upd_same)) hn
    (fun i a x H2 H3 ha ex2 y => ?_) gTup2_mono (fun H2 e2 h2 => ?_)
  · obtain ⟨T, x1, x2, e2, e3, e4, e5, e6⟩ := y
    subst e2 e4
    have hq : kvs[i]? = some (kI (fk a), fv a) := by rw [hk, List.getElem?_map, ha]; rfl
    simp only [hq] at e5 e6
    have ea : V.int (fk a : Int) = x1 := Option.some.inj e5
    have eb : fv a = x2 := Option.some.inj e6
    subst ea eb
    have ex3 : Ex (hide H d) (upd H2 T (.tup [.int (fk a : Int), fv a])) := ((ex.trans e1).trans ex2).trans (Ex.new e3)
    exact gTup2_of upd_same ⟨hw _ _, Ex.new e3, ht i a _ ha ex3, he i a _ ha ex3⟩
  · obtain ⟨g1, g2, g3, g4⟩ := lock_back (e _ _ hd) e1 hD e2 h2
    exact ⟨g1, q Dl _ g2 g3 g4⟩
theorem wtK_len (wt : List (Nat × Nat)) : (wtK wt).length = wt.length := List.length_map _
theorem kI_inj {i j : Nat} (h : kI i = kI j) : i = j := by
  have := Sum.inl.inj h
  omega
theorem int_val_none {α : Type} {l : List α} {fk : α → Nat} {fv : α → V} {c : Nat} (h : c ∉ l.map fk) : valV (l.map fun a => (kI (fk a), fv a)) (kI c) = none := by
  unfold valV
  rw [List.find?_eq_none.mpr ?_]
  · rfl
  · intro p hp
    obtain ⟨a, ha, rfl⟩ := List.mem_map.mp hp
    simp only [decide_eq_true_eq]
    intro z
    exact h (List.mem_map.mpr ⟨a, ha, kI_inj z⟩)
/-- {k: .. for k, v in d.items()} -/
theorem en_dcI {α : Type} {j1 j2 : Nat} {kvs : List (Key × V)} (as : List α) (fk : α → Nat) (fv val : α → V) (hd : H d = some (.dK kvs)) (hk : kvs = as.map fun a => (kI (fk a), fv a)) (hnd : (as.map fk).Nodup) (hn : as.length ≤ 50000) (htd : Ev td σ (hide H d) (.ref d)) (hw : ∀ x y, wipe (((wipe σ vs).set j1 (some x)).set j2 (some y)) vs = wipe σ vs)
    (ht : ∀ (i : Nat) (a : α) H1, as[i]? = some a → Ex (hide H d) H1 → EvT tt (((wipe σ vs).set j1 (some (.int (fk a : Int)))).set j2 (some (fv a))) H1 true) (hkk : ∀ (i : Nat) (a : α) H1, as[i]? = some a → Ex (hide H d) H1 → Ev tk (((wipe σ vs).set j1 (some (.int (fk a : Int)))).set j2 (some (fv a))) H1 (.int (fk a : Int)))
    (he : ∀ (i : Nat) (a : α) H1, as[i]? = some a → Ex (hide H d) H1 → Ev tv (((wipe σ vs).set j1 (some (.int (fk a : Int)))).set j2 (some (fv a))) H1 (val a)) :
    EvN (tLockE (tDc (iItems td) (gTup K 2 (gCons (gName j1) (gCons (gName j2) gNil))) tt tk tv vs)) σ H (.dK (as.map fun a => (kI (fk a), val a))) := fun H0 e Q q => by
  refine ⟨d, .dK kvs, e _ _ hd, True.intro, fun od => ?_⟩
  have ex : Ex (hide H d) (upd H0 d (.frz od (.dK kvs))) := (hide_mono e).trans hide_lock
  refine htd _ ex _ fun H1 e1 => ⟨d, od, kvs, rfl, e1 _ _ upd_same, fun Dl hD => ?_⟩
  have hl : kvs.length = as.length := by rw [hk, List.length_map]
  refine ⟨fun i m H' => m = as.length - i ∧ i ≤ as.length ∧ Ex H1 H' ∧ H' Dl = some (.dK ((as.take i).map fun a => (kI (fk a), val a))), ⟨as.length, by simp, Nat.zero_le _, Ex.new hD, upd_same⟩, fun i m H' hW => ?_⟩
  obtain ⟨rfl, hi, e2, h2⟩ := hW
  have hf : H' d = some (.frz od (.dK kvs)) := e2 _ _ (e1 _ _ upd_same)
  by_cases hlt : i < as.length
  · refine .inr ⟨⟨hf, by omega⟩, fun H'' => Ex H1 H'' ∧ H'' Dl = some (.dK ((as.take (i + 1)).map fun a => (kI (fk a), val a))), fun H'' h => ⟨as.length - (i + 1), by omega, rfl, by omega, h.1, h.2⟩, fun x H2 y => ?_⟩
    obtain ⟨a, ha⟩ : ∃ a, as[i]? = some a := ⟨as[i], List.getElem?_eq_getElem hlt⟩
    have hq : kvs[i]? = some (kI (fk a), fv a) := by rw [hk, List.getElem?_map, ha]; rfl
    obtain ⟨T, k, v, g1, g2, g3, g4⟩ := y
    rw [hq] at g1
    have g5 := Option.some.inj g1
    have ek : kI (fk a) = k := congrArg Prod.fst g5
    have ev : fv a = v := congrArg Prod.snd g5
    subst ek ev g2 g4
    have ex3 : Ex (hide H d) (upd H' T (.tup [.int (fk a : Int), fv a])) := ((ex.trans e1).trans e2).trans (Ex.new g3)
    have exD : Ex H1 (upd H' T (.tup [.int (fk a : Int), fv a])) := e2.trans (Ex.new g3)
    refine gTup2_of upd_same ⟨hw _ _, et_go (ht i a _ ha ex3) fun H4 e4 => iteT ?_⟩
    refine ev_go (hkk i a _ ha (ex3.trans e4)) fun H5 e5 => ev_go (he i a _ ha ((ex3.trans e4).trans e5)) fun H6 e6 => ?_
    have hDk := e6 _ _ (e5 _ _ (e4 _ _ (Ex.new g3 _ _ h2)))
    refine ⟨_, kI (fk a), rfl, hDk, sz_lt (by rw [List.length_map, List.length_take]; omega), ((exD.trans e4).trans (e5.trans e6)).mut hD, ?_⟩
    rw [upd_same, putK_new]
    · rw [List.take_add_one, ha, List.map_append]
      rfl
    · refine int_val_none fun hm => ?_
      rw [List.map_take] at hm
      obtain ⟨i2, hi2, g⟩ := List.mem_iff_getElem.mp hm
      rw [List.length_take, List.length_map] at hi2
      rw [List.getElem_take] at g
      have hh : (as.map fk)[i2]? = (as.map fk)[i]? := by
        rw [List.getElem?_eq_getElem (by rw [List.length_map]; omega), g, List.getElem?_map, ha]
        rfl
      have := (List.getElem?_inj (by rw [List.length_map]; omega) hnd).mp hh
      omega
  · have e0 : as.take i = as := List.take_of_length_le (by omega)
    rw [e0] at h2
    obtain ⟨g1, g2, g3, g4⟩ := lock_back (e _ _ hd) e1 hD e2 h2
    exact .inl ⟨⟨hf, by omega⟩, g1, q Dl _ g2 g3 g4⟩
/-- a locked comprehension onto a name -/
theorem q_lockN {te : TE} {i : Nat} {D : L2.Ends} {o : HO} {tz : TS} (h : EvN (tLockE te) σ H o) (k : ∀ p H1, H p = none → Ex H H1 → H1 p = some o → tz D (σ.set i (some (.ref p))) H1) : tSeq (tLock (tAsg te (gName i))) tz D σ H := en_go h k
end
/-! ### turning a table's entries -/
theorem fmap_congr {α β : Type} {f g : α → Option β} : ∀ {l : List α}, (∀ x ∈ l, f x = g x) → l.filterMap f = l.filterMap g
  | [], _ => rfl
  | a :: r, h => by
    rw [List.filterMap_cons, List.filterMap_cons, h a (List.mem_cons_self ..), fmap_congr fun x hx => h x (List.mem_cons_of_mem _ hx)]
def stepW (f : Nat × Nat → Option Nat) (L : List Nat) (wt : List (Nat × Nat)) : List (Nat × Nat) := wt.filterMap fun p => if p.1 ∈ L then (f p).map fun k => (p.1, k) else some p
theorem valV_in {wt : List (Nat × Nat)} (hn : (wt.map (·.1)).Nodup) : ∀ {p : Nat × Nat}, p ∈ wt → valV (wtK wt) (kI p.1) = some (.int (p.2 : Int)) := by
  induction wt with
  | nil => intro p hp; cases hp
  | cons a r ih =>
    intro p hp
    rw [List.map_cons, List.nodup_cons] at hn
    rcases List.mem_cons.mp hp with e | e
    · subst e
      exact valV_pos rfl
    · have : a.1 ≠ p.1 := fun z => hn.1 (List.mem_map.mpr ⟨p, e, z.symm⟩)
      have h2 : valV (wtK (a :: r)) (kI p.1) = valV (wtK r) (kI p.1) := valV_neg fun z => this (kI_inj z)
      rw [h2]
      exact ih hn.2 e
theorem stepW_fst {f : Nat × Nat → Option Nat} {L : List Nat} (p q : Nat × Nat) (h : (if p.1 ∈ L then (f p).map fun k => (p.1, k) else some p) = some q) : q.1 = p.1 := by
  split at h
  · obtain ⟨k, _, rfl⟩ := Option.map_eq_some_iff.mp h
    rfl
  · cases h
    rfl
section
variable {f : Nat × Nat → Option Nat} {L : List Nat} {wt : List (Nat × Nat)} {p : Nat × Nat}
theorem stepW_nd (hn : (wt.map (·.1)).Nodup) : ((stepW f L wt).map (·.1)).Nodup := RS.nodup_fmap stepW_fst hn
theorem stepW_len : (stepW f L wt).length ≤ wt.length := List.length_filterMap_le _ _
theorem stepW_mem (hp : p ∈ wt) (hL : p.1 ∉ L) : p ∈ stepW f L wt := List.mem_filterMap.mpr ⟨p, hp, if_neg hL⟩
theorem stepW_val (hn : (wt.map (·.1)).Nodup) (hp : p ∈ wt) (hL : p.1 ∉ L) : valV (wtK (stepW f L wt)) (kI p.1) = some (.int (p.2 : Int)) := valV_in (stepW_nd hn) (stepW_mem hp hL)
theorem dropW (l : List (Nat × Nat)) (c : Nat) : dropK (wtK l) (kI c) = wtK (l.filter fun q => decide (q.1 ≠ c)) := by
  unfold dropK wtK
  rw [List.filter_map]
  congr 1
  refine List.filter_congr fun q _ => ?_
  show decide (kI q.1 ≠ kI c) = decide (q.1 ≠ c)
  exact decide_eq_decide.mpr ⟨fun h z => h (by rw [z]), fun h z => h (kI_inj z)⟩
theorem putW {l : List (Nat × Nat)} {c : Nat} {k : Nat} (h : c ∈ l.map (·.1)) : putK (wtK l) (kI c) (.int (k : Int)) = wtK (l.map fun q => if q.1 = c then (q.1, k) else q) := by
  unfold putK
  rw [if_pos]
  · unfold wtK
    rw [List.map_map, List.map_map]
    refine List.map_congr_left fun q _ => ?_
    show (if kI q.1 = kI c then (kI q.1, V.int (k : Int)) else (kI q.1, V.int (q.2 : Int))) = _
    by_cases e : q.1 = c
    · rw [if_pos (by rw [e])]
      show _ = (kI (if q.1 = c then (q.1, k) else q).1, V.int ((if q.1 = c then (q.1, k) else q).2 : Int))
      rw [if_pos e]
    · rw [if_neg fun z => e (kI_inj z)]
      show _ = (kI (if q.1 = c then (q.1, k) else q).1, V.int ((if q.1 = c then (q.1, k) else q).2 : Int))
      rw [if_neg e]
  · obtain ⟨q, hq, rfl⟩ := List.mem_map.mp h
    refine List.any_eq_true.mpr ⟨(kI q.1, .int (q.2 : Int)), List.mem_map.mpr ⟨q, hq, rfl⟩, by simp⟩
theorem stepW_drop (hn : (wt.map (·.1)).Nodup) (hp : p ∈ wt) (hL : p.1 ∉ L) (hf : f p = none) : dropK (wtK (stepW f L wt)) (kI p.1) = wtK (stepW f (L ++ [p.1]) wt) := by
  rw [dropW]
  congr 1
  unfold stepW
  rw [List.filter_filterMap]
  refine fmap_congr fun q hq => ?_
  by_cases e : q.1 = p.1
  · have := RS.inj_fst hn hq hp e
    subst this
    rw [if_neg hL, if_pos (by simp), hf]
    simp [Option.filter]
  · by_cases g : q.1 ∈ L
    · rw [if_pos g, if_pos (by simp [g])]
      cases f q with
      | none => rfl
      | some k => simp [Option.filter, e]
    · rw [if_neg g, if_neg (by simp [g, e])]
      simp [Option.filter, e]
theorem stepW_put {k : Nat} (hn : (wt.map (·.1)).Nodup) (hp : p ∈ wt) (hL : p.1 ∉ L) (hf : f p = some k) : putK (wtK (stepW f L wt)) (kI p.1) (.int (k : Int)) = wtK (stepW f (L ++ [p.1]) wt) := by
  rw [putW (List.mem_map.mpr ⟨p, stepW_mem hp hL, rfl⟩)]
  congr 1
  unfold stepW
  rw [List.map_filterMap]
  refine fmap_congr fun q hq => ?_
  by_cases e : q.1 = p.1
  · have := RS.inj_fst hn hq hp e
    subst this
    rw [if_neg hL, if_pos (by simp), hf]
    simp
  · by_cases g : q.1 ∈ L
    · rw [if_pos g, if_pos (by simp [g])]
      cases f q with
      | none => rfl
      | some k => simp [e]
    · rw [if_neg g, if_neg (by simp [g, e])]
      simp [e]
theorem dropW_put {l : List (Nat × Nat)} {c k : Nat} (h : c ∈ l.map (·.1)) : dropK (putK (wtK l) (kI c) (.int (k : Int))) (kI c) = dropK (wtK l) (kI c) := by
  rw [putW h, dropW, dropW]
  congr 1
  rw [List.filter_map]
  rw [show ((fun q : Nat × Nat => decide (q.1 ≠ c)) ∘ fun q => if q.1 = c then (q.1, k) else q) = fun q => decide (q.1 ≠ c) from by
    funext q
    show decide ((if q.1 = c then (q.1, k) else q).1 ≠ c) = _
    split <;> rfl]
  rw [List.map_congr_left (g := id)]
  · simp
  · intro q hq
    have := (List.mem_filter.mp hq).2
    rw [if_neg (by simpa using this)]
    rfl
theorem stepW_nil : stepW f [] wt = wt := by
  unfold stepW
  rw [fmap_congr (g := some)]
  · simp
  · intro q _
    rw [if_neg (by simp)]
end
end RW
end

section
set_option Elab.async false
set_option linter.all false
set_option maxRecDepth 100000
set_option maxHeartbeats 4000000
namespace RW
open PySem L2 Evl
variable {P : Program} {w : World} {K : PySem.W.Frag} {mg : Str → Option Value} {base : Heap}
section
variable {σ : L2.St} {H : Hp} {D : L2.Ends} {td ty tv te : TE} {kvs : List (Key × V)} {k : Key} {v : V} {d : Addr}
/-- d[k] = v -/
theorem s_dput (hd : Ev td σ H (.ref d)) (ho : H d = some (.dK kvs)) (hy : Ev ty σ H (kV k)) (hv : Ev tv σ H v) (hl : kvs.length ≤ 50000) (kk : ∀ H1, Ex H H1 → D.nx σ (upd H1 d (.dK (putK kvs k v)))) : sDPut td ty tv D σ H :=
  ev_go hv fun H1 e1 => hd H1 e1 _ fun H2 e2 => hy H2 (e1.trans e2) _ fun H3 e3 => ⟨d, _, rfl, DPut.k (((e1.trans e2).trans e3) _ _ ho) (sz_lt (by omega)), kk H3 ((e1.trans e2).trans e3)⟩
theorem s_dputN {o : HO} (hd : Ev td σ H (.ref d)) (ho : H d = some (.dK kvs)) (hy : Ev ty σ H (kV k)) (hv : EvN tv σ H o) (hl : kvs.length ≤ 50000) (kk : ∀ a H1, H a = none → Ex H H1 → H1 a = some o → D.nx σ (upd H1 d (.dK (putK kvs k (.ref a))))) : sDPut td ty tv D σ H :=
  en_go hv fun a H1 ha e1 h1 => hd H1 e1 _ fun H2 e2 => hy H2 (e1.trans e2) _ fun H3 e3 => ⟨d, _, rfl, DPut.k (((e1.trans e2).trans e3) _ _ ho) (sz_lt (by omega)), kk a H3 ha ((e1.trans e2).trans e3) (e3 _ _ (e2 _ _ h1))⟩
/-- d.pop(k) -/
theorem s_dpop (hd : Ev td σ H (.ref d)) (ho : H d = some (.dK kvs)) (hy : Ev ty σ H (kV k)) (hv : valV kvs k = some v) (kk : ∀ H1, Ex H H1 → D.nx σ (upd H1 d (.dK (dropK kvs k)))) : tDrop (tDPop1 td ty) D σ H :=
  ev_go hd fun H1 e1 => ⟨d, rfl, .inl ⟨kvs, .inl (e1 _ _ ho)⟩, hy H1 e1 _ fun H2 e2 => ⟨kvs, k, v, (e1.trans e2) _ _ ho, rfl, hv, kk H2 (e1.trans e2)⟩⟩
/-- list(d) -/
theorem en_listD (h : EvH td σ H (.dK kvs)) : EvN (tCB rListD (tCons td tNil)) σ H (.lst (kvs.map fun kv => kV kv.1)) := fun H1 e Q q =>
  h H1 e _ fun p H2 e2 hp => ⟨p, kvs, rfl, hp, fun l hl => q l _ (fresh_back e2 hl) (e2.trans (Ex.new hl)) upd_same⟩
end
theorem units1 {n : Nat} {A : Around} (r : Room n A) : A.units + 1 < cLine := by have := r.un; omega
theorem take_one {α : Type} {l : List α} {i : Nat} {a : α} (h : l[i]? = some a) : l.take (i + 1) = l.take i ++ [a] := by
  rw [List.take_add_one, h]
  rfl
theorem not_take {l : List Nat} (hn : l.Nodup) {i : Nat} {a : Nat} (h : l[i]? = some a) : a ∉ l.take i := by
  intro hm
  obtain ⟨j, hj, g⟩ := List.mem_iff_getElem.mp hm
  rw [List.length_take] at hj
  rw [List.getElem_take] at g
  have hi := (List.getElem?_eq_some_iff.mp h).1
  have hh : l[j]? = l[i]? := by rw [h, List.getElem?_eq_getElem (by omega), g]
  have := (List.getElem?_inj (by omega) hn).mp hh
  omega
/-- what the run's methods that change it promise -/
def RetU (K : PySem.W.Frag) (G : Hp) (p : Addr) (c : RC) (st : RS.Stt) (Q : VK) : Prop := ∀ H', Ex G H' → RunSt K H' p c st → Q .non H'
def skipF (S : RS.Scn) (n : Int) : Nat × Nat → Option Nat := fun q => RS.ffr S.rule (n - S.b q.1)
theorem sc_U_skip_to : FnScope ["self", "slot", "client", "attempt"] ["self", "slot"] (defScope s_U_skip_to) := ⟨rfl, rfl, rfl, by decide +kernel, rfl, by decide +kernel, by decide +kernel⟩
def sp_U_skip_to (K : PySem.W.Frag) : Sp := fun vs H Q _ => ∃ (p : Addr) (s : Int) (G : Hp) (S : RS.Scn) (M : List Int) (c : RC) (st : RS.Stt), vs = [.ref p, .int s] ∧ RunFix K G p S M c ∧ Ex G H ∧ RunSt K H p c st ∧ (st.wt.map (·.1)).Nodup ∧ st.wt.length ≤ 100 ∧ (∀ q ∈ st.wt, q.1 < S.m ∧ RS.SzD S.rule (s - S.b q.1)) ∧ RetU K G p c (RS.skipTo S st s) Q
theorem ok_U_skip_to (W : Wd K mg) : FnOk P w K mg base CX0 4 (a_U_skip_to K) (f_U_skip_to K) ["self", "slot"] (sp_U_skip_to K) := by
  refine (F_U_skip_to W).ok sc_U_skip_to (fun vs H Q E h => ?_) (fun cdv A outer s H vs Q E hr h => ?_)
  · obtain ⟨p, s, G, S, M, c, st, rfl, _⟩ := h
    rfl
  · obtain ⟨p, n, G, S, M, c, st, rfl, F, eG, hst, hnd, hl, hq, k⟩ := h
    have hu := units1 hr
    refine ⟨_, PSs.nox (pss_one (ps_for PassesOwn.never rfl (pi_list (pe_callTy (call_list_dK rfl) (by rfl) (n_list W) (by decide +kernel) (pa_cons (pe_fld (pv 0) rfl) pa_nil))) (pg_name (i := 2) sc_U_skip_to.nd rfl (Or.inl rfl)) (pss_cons (ps_set (i := 3) sc_U_skip_to.nd rfl (Or.inl rfl) (pe_meth (pe_fld (pv 0) rfl) (cl_Rule W) (m_R_first_from W) (ok_R_first_from W) (hr.mono (by decide)) (b_R_first_from W) .nil pass0 (pa_cons (pe_op op_sub (pv 1) (pe_ix ix_list (pe_fld (pv 0) rfl) (pv 2) (fun _ _ => rfl))) pa_nil)))
      (pss_one (ps_if (pt_cmpR op_isN (pv 3) pe_non (nomark _)) (pss_one (ps_expr (pe_dpop1 (pe_fld (pv 0) rfl) (pv 2) ⟨rfl, rfl, rfl, rfl⟩))) (pss_one (ps_dput hu (pe_fld (pv 0) rfl) (pv 2) (pv 3) rfl))))))), ?_⟩
    have ob := hst.ob
    have hlen : (wtK st.wt).length = st.wt.length := wtK_len _
    refine s_forNL (xs := (wtK st.wt).map fun kv : Key × V => kV kv.1) (en_listD (eh_of (ev_fld (ev_var rfl) ob (cl_Run W) (na_waiting W) rfl) hst.wt))
      (fun a i σ' H' => ∃ G2, Ex G G2 ∧ Ex G2 H' ∧ RunFix K G2 p S M c ∧ G2 a = some (.lst ((wtK st.wt).map fun kv => kV kv.1)) ∧ RunSt K H' p c { st with wt := stepW (skipF S n) ((st.wt.map (·.1)).take i) st.wt } ∧ ∃ v2 v3, σ' = [some (.ref p), some (.int n), v2, v3])
      (fun a H1 ha e1 h1 => ?_) (fun a i σ' H' _ hP => ?_) (fun a i x σ' H' hx hP => ?_) (fun a σ' H' hP => ?_)
    · have hst1 := hst.mono e1
      obtain ⟨G2, g1, g2, F2, g3⟩ := rebase F (eG.trans e1) hst1
      obtain ⟨o1, o2, o3, o4⟩ := hst1.other h1 (by intro _ _ _ z; cases z) (by intro _ z; cases z)
      refine ⟨G2, g1, g2, F2, g3 _ _ h1 o1 o2 o3 o4, ?_, _, _, rfl⟩
      rw [List.take_zero, stepW_nil]
      exact hst1
    · obtain ⟨G2, g1, g2, F2, g3, _⟩ := hP
      exact sq_of (g2 _ _ g3)
    · obtain ⟨G2, g1, g2, F2, g3, h', v2, v3, rfl⟩ := hP
      obtain ⟨q, hqi, rfl⟩ : ∃ q : Nat × Nat, st.wt[i]? = some q ∧ x = .int (q.1 : Int) := by
        rw [wtK, List.map_map, List.getElem?_map] at hx
        cases h : st.wt[i]? with
        | none => rw [h] at hx; cases hx
        | some q => rw [h] at hx; exact ⟨q, rfl, (Option.some.inj hx).symm⟩
      have hqm := List.mem_of_getElem? hqi
      obtain ⟨hlt, hsz⟩ := hq q hqm
      have hLi : (st.wt.map (·.1))[i]? = some q.1 := by rw [List.getElem?_map, hqi]; rfl
      have hnt := not_take hnd hLi
      have hR := F2.rule.mono g2
      obtain ⟨dr, l', t', s', r1, _⟩ := id hR
      have ob' := h'.ob
      refine q_asg (ev_meth (ev_fld (ev_var rfl) ob' (cl_Run W) (na_pattern W) rfl) r1 rfl (ea_cons (ev_op (ev_var rfl) (ev_ixL (eh_of (ev_fld (ev_var rfl) ob' (cl_Run W) (na_begins W) rfl) (g2 _ _ F2.begins)) (ev_var rfl) (atI_nat (b_get hlt))) rv_I0) ea_nil) (first_from_at hR F2.ok.rule hsz)) fun H2 e2 => ?_
      have ob2 := e2 _ _ ob'
      have hw2 := e2 _ _ h'.wt
      have hv := stepW_val (f := skipF S n) hnd hqm hnt
      cases hf : RS.ffr S.rule (n - S.b q.1) with
      | none =>
        refine s_if (b := true) (et_test (ev_op (ev_var rfl) ev_c rv_isN)) (fun _ H3 e3 => ?_) (fun z => by cases z)
        refine s_dpop (ev_fld (ev_var rfl) (e3 _ _ ob2) (cl_Run W) (na_waiting W) rfl) (e3 _ _ hw2) (k := kI q.1) (ev_var rfl) hv fun H4 e4 => ?_
        have e24 := (e2.trans e3).trans e4
        refine ⟨G2, g1, (g2.trans e24).mut F2.nwt, F2, g3, ?_, _, _, rfl⟩
        show RunSt K (upd H4 c.wt (.dK (dropK (wtK (stepW (skipF S n) ((st.wt.map (·.1)).take i) st.wt)) (kI q.1)))) p c _
        rw [stepW_drop (f := skipF S n) hnd hqm hnt hf, take_one hLi]
        exact (h'.mono e24).put_wt F2 _
      | some j =>
        refine s_if (b := false) (et_test (ev_op (ev_var rfl) ev_c rv_isN)) (fun z => by cases z) (fun _ H3 e3 => ?_)
        refine s_dput (ev_fld (ev_var rfl) (e3 _ _ ob2) (cl_Run W) (na_waiting W) rfl) (e3 _ _ hw2) (k := kI q.1) (ev_var rfl) (ev_var rfl) (by rw [wtK_len]; exact Nat.le_trans stepW_len (by omega)) fun H4 e4 => ?_
        have e24 := (e2.trans e3).trans e4
        refine ⟨G2, g1, (g2.trans e24).mut F2.nwt, F2, g3, ?_, _, _, rfl⟩
        show RunSt K (upd H4 c.wt (.dK (putK (wtK (stepW (skipF S n) ((st.wt.map (·.1)).take i) st.wt)) (kI q.1) (.int (j : Int))))) p c _
        rw [stepW_put (f := skipF S n) hnd hqm hnt hf, take_one hLi]
        exact (h'.mono e24).put_wt F2 _
    · obtain ⟨G2, g1, g2, F2, g3, h', v2, v3, rfl⟩ := hP
      refine k _ (g1.trans g2) ?_
      have e : stepW (skipF S n) ((st.wt.map (·.1)).take ((wtK st.wt).map fun kv => kV kv.1).length) st.wt = st.wt.filterMap fun q => (RS.ffr S.rule (n - S.b q.1)).map fun k => (q.1, k) := by
        rw [List.take_of_length_le (by rw [List.length_map, List.length_map, wtK_len]; exact Nat.le_refl _)]
        unfold stepW
        exact fmap_congr fun q hq => if_pos (List.mem_map.mpr ⟨q, hq, rfl⟩)
      rw [e] at h'
      exact h'
theorem skip_to_at {G H : Hp} {p : Addr} {S : RS.Scn} {M : List Int} {c : RC} {st : RS.Stt} {n : Int} (F : RunFix K G p S M c) (eG : Ex G H) (h : RunSt K H p c st) (hnd : (st.wt.map (·.1)).Nodup) (hl : st.wt.length ≤ 100) (hq : ∀ q ∈ st.wt, q.1 < S.m ∧ RS.SzD S.rule (n - S.b q.1)) {Q : VK} (k : RetU K G p c (RS.skipTo S st n) Q) (E : XK) : sp_U_skip_to K [.ref p, .int n] H Q E := ⟨p, n, G, S, M, c, st, rfl, F, eG, h, hnd, hl, hq, k⟩
end RW
end

section
set_option Elab.async false
set_option linter.all false
set_option maxRecDepth 100000
set_option maxHeartbeats 4000000
namespace RW
open PySem L2 Evl
variable {P : Program} {w : World} {K : PySem.W.Frag} {mg : Str → Option Value} {base : Heap}
abbrev nV (a : Nat) : V := V.int (a : Int)
section
variable {σ : L2.St} {H : Hp} {D : L2.Ends} {ta : TE} {tz : TS}
theorem q_asgSort {i : Nat} {ns : List Int} (h : EvH ta σ H (.lst (ns.map V.int))) (k : ∀ p H1 (ns' : List Int), H p = none → Ex H H1 → H1 p = some (.lst (ns'.map V.int)) → ns'.Perm ns → ns'.Pairwise (· ≤ ·) → tz D (σ.set i (some (.ref p))) H1) : tSeq (tAsg (tCB (rSortedI K) (tCons ta tNil)) (gName i)) tz D σ H :=
  eh_go h fun a H1 e1 h1 => ⟨a, ns, rfl, sq_of h1, fun ns' p hp hs hn => k p _ ns' (fresh_back e1 hn) (e1.trans (Ex.new hn)) upd_same hp hs⟩
theorem q_dpop {td ty : TE} {kvs kvs' : List (Key × V)} {k : Key} {v : V} {d : Addr} (hd : Ev td σ H (.ref d)) (ho : H d = some (.dK kvs)) (hy : Ev ty σ H (kV k)) (hv : valV kvs k = some v) (hk : dropK kvs k = kvs') (kk : ∀ H1, Ex H H1 → tz D σ (upd H1 d (.dK kvs'))) : tSeq (tDrop (tDPop1 td ty)) tz D σ H := by
  subst hk
  exact s_dpop (D := { D with nx := tz D }) hd ho hy hv kk
end
theorem nV_map (l : List Nat) : l.map nV = (l.map fun a : Nat => (a : Int)).map V.int := by
  rw [List.map_map]
  rfl
theorem listed_last {S : RS.Scn} {c0 i : Nat} (hR : S.rule.tail = .rep c0) : atI ((RS.listed S c0 i).map V.int) (-1) = some (.int (RS.lastListed S i)) := by
  have hl : (RS.listed S c0 i).length = S.rule.n - c0 + 1 := by unfold RS.listed; rw [List.length_map, List.length_range]
  rw [last_at (by omega), hl]
  unfold RS.lastListed
  rw [hR]
  unfold RS.listed
  rw [List.getD_eq_getElem?_getD, List.getElem?_map, List.getElem?_range (by omega)]
  rfl
theorem fmap_not {α : Type} {b : α → Bool} : ∀ l : List α, l.filterMap (fun q => if b q = true then none else some q) = l.filter fun q => !b q
  | [] => rfl
  | a :: r => by
    rw [List.filterMap_cons, List.filter_cons]
    cases h : b a with
    | true => simp [fmap_not r]
    | false => simp [fmap_not r]
theorem valV_out {ks : List (Key × V)} {cl : List Nat} {c : Nat} (hk : ks.map (·.1) = cl.map kI) (h : c ∉ cl) : valV ks (kI c) = none := by
  unfold valV
  rw [List.find?_eq_none.mpr ?_]
  · rfl
  · intro q hq
    simp only [decide_eq_true_eq]
    intro z
    have : q.1 ∈ cl.map kI := by rw [← hk]; exact List.mem_map.mpr ⟨q, hq, rfl⟩
    obtain ⟨x, hx, e⟩ := List.mem_map.mp this
    rw [z] at e
    rw [kI_inj e] at hx
    exact h hx
theorem sc_U_close : FnScope ["self", "slot", "begin", "fresh", "members", "client"] ["self", "slot"] (defScope s_U_close) := ⟨rfl, rfl, rfl, by decide +kernel, rfl, by decide +kernel, by decide +kernel⟩
def sp_U_close (K : PySem.W.Frag) : Sp := fun vs H Q _ => ∃ (p : Addr) (s : Int) (G : Hp) (S : RS.Scn) (M : List Int) (c : RC) (st : RS.Stt) (c0 : Nat), vs = [.ref p, .int s] ∧ RunFix K G p S M c ∧ Ex G H ∧ RunSt K H p c st ∧ (st.wt.map (·.1)).Nodup ∧ st.wt.length ≤ 100 ∧ st.cl.length ≤ 100 ∧ (∀ q ∈ st.wt, q.1 < S.m ∧ q.1 ∉ st.cl) ∧ (∀ d ∈ st.cl, d < S.m) ∧ S.rule.tail = .rep c0 ∧ M.length ≤ 40000 ∧ st.fr ≤ s ∧ RetU K G p c (RS.closeAt S M st s) Q
theorem ok_U_close (W : Wd K mg) : FnOk P w K mg base CX0 4 (a_U_close K) (f_U_close K) ["self", "slot"] (sp_U_close K) := by
  refine (F_U_close W).ok sc_U_close (fun vs H Q E h => ?_) (fun cdv A outer s H vs Q E hr h => ?_)
  · obtain ⟨p, s, G, S, M, c, st, c0, rfl, _⟩ := h
    rfl
  · obtain ⟨p, n, G, S, M, c, st, c0, rfl, F, eG, hst, hnd, hl, hcl, hq, hd, hR, hM, hfr, k⟩ := h
    have hu := units1 hr
    refine ⟨_, PSs.nox (pss_cons (ps_set (i := 2) sc_U_close.nd rfl (Or.inr rfl) (pe_meth (pv 0) (cl_Run W) (m_U_latest_moment W) (ok_U_latest_moment W) (hr.mono (by decide)) (b_U_latest_moment W) .nil pass0 (pa_cons (pv 1) pa_nil)))
    (pss_cons (ps_lock (ps_setLc (i := 3) (own := [("client", 5)]) rfl sc_U_close.nd rfl rfl (sw_true rfl rfl rfl (by decide +kernel)) (pi_keys (pe_fld (pv 0) rfl)) (blkOk_by (N := ["self", "slot", "begin", "fresh", "members", "client"]) (sc := defScope s_U_close) (by decide +kernel)) (fun _ _ _ _ _ => (pg_name (i := 5) sc_U_close.nd rfl (Or.inl rfl))) (fun _ _ _ _ _ => (pts_one (pt_cmpR op_le (pe_ix (ixLK (K := K)) (pe_meth (fldK (K := K) (pv 0) rfl) (cl_Scene W) (m_S_listed_slots W) (ok_S_listed_slots W) (hr.mono (by decide)) (b_S_listed_slots W) .nil pass0 (pa_cons (pv 5) pa_nil)) (pe_un un_neg pe_int) (fun _ _ => rfl)) (pv 2) (nomark _)))) (fun _ _ _ _ _ => (pv 5))))
    (pss_cons (ps_set (i := 4) sc_U_close.nd rfl (Or.inl rfl) (pe_callB cr_sortedI (by rfl) (n_sorted W) (by decide +kernel) (pa_cons (pe_op op_cat (pv 3) (pe_lock (pe_lc (own := [("client", 5)]) rfl sc_U_close.nd (pi_keys (pe_fld (pv 0) rfl)) (blkOk_by (N := ["self", "slot", "begin", "fresh", "members", "client"]) (sc := defScope s_U_close) (by decide +kernel)) (fun _ _ _ _ _ => (pg_name (i := 5) sc_U_close.nd rfl (Or.inl rfl))) (fun _ _ _ _ _ => (pts_one (pt_cmpR op_le (pe_ix (ixLK (K := K)) (fldK (K := K) (pv 0) rfl) (pv 5) (fun _ _ => rfl)) (pv 2) (nomark _)))) (fun _ _ _ _ _ => (pv 5))))) pa_nil)))
    (pss_one (ps_for PassesOwn.never rfl (pi_list (pv 3)) (pg_name (i := 5) sc_U_close.nd rfl (Or.inl rfl)) (pss_cons (ps_expr (pe_dpop1 (pe_fld (pv 0) rfl) (pv 5) ⟨rfl, rfl, rfl, rfl⟩))
      (pss_one (ps_dput hu (pe_fld (pv 0) rfl) (pv 5) (pe_tup (pa_cons (pe_op op_add (pv 2) pe_int) (pa_cons (pv 4) pa_nil))) rfl)))))))), ?_⟩
    have ob := hst.ob
    refine q_asg (ev_meth (ev_var rfl) ob rfl (ea_cons (ev_var rfl) ea_nil) (latest_moment_at F eG hst hM hfr)) fun H1 e1 => ?_
    generalize hbg : RS.latest M st.fr n = bg
    have hst1 := hst.mono e1
    have eG1 := eG.trans e1
    have ob1 := hst1.ob
    obtain ⟨fr, hfrs⟩ : ∃ fr, fr = (st.wt.map (·.1)).filter (RS.freshB S bg) := ⟨_, rfl⟩
    -- fresh
    have obh := hide_at (d := c.wt) ob1 hst1.p_wt
    have eGh := ex_hide eG1 F.nwt
    have hSh := F.scene.mono eGh
    obtain ⟨dx, r, l, t, ws, s1, _⟩ := id hSh
    refine q_lockN (en_lcK (kvs := wtK st.wt) (st.wt.map (·.1)) (RS.freshB S bg) nV hst1.wt (by rw [wtK, List.map_map, List.map_map]; rfl) (by rw [List.length_map]; omega) (ev_fld (ev_var rfl) obh (cl_Run W) (na_waiting W) rfl) (fun _ => rfl)
      (fun i a H2 ha e2 => ?_) (fun i a H2 ha e2 _ => ev_var rfl)) fun af H2 hf2 e2 h2 => ?_
    · obtain ⟨q, hqm, rfl⟩ := List.mem_map.mp (List.mem_of_getElem? ha)
      exact et_test (ev_op (ev_ixL (EvN.h (en_meth (ev_fld (ev_var rfl) (e2 _ _ obh) (cl_Run W) (na_its_scene W) rfl) (e2 _ _ s1) rfl (ea_cons (ev_var rfl) ea_nil) (listed_slots_at (hSh.mono e2) F.ok.rule hR (hq q hqm).1))) (ev_un ev_c ru_neg) (listed_last hR)) (ev_var rfl) rv_I0)
    rw [← hfrs] at h2
    have hst2 := hst1.mono e2
    have eG2 := eG1.trans e2
    have ob2 := hst2.ob
    -- members
    obtain ⟨ks, hc2, hks⟩ := hst2.cl
    have obk := hide_at (d := c.cl) ob2 hst2.p_cl
    have eGk := ex_hide eG2 F.ncl
    have key := en_lcK (td := tFld K (tVar 0) "closed") (tt := tTest (tOp (rI0 fun i j => .bl (decide (i ≤ j))) (tOp (rIxL K) (tFld K (tVar 0) "begins") (tVar 5)) (tVar 2))) (te := tVar 5) (j := 5) (vs := [5]) (σ := [some (.ref p), some (.int n), some (.int bg), some (.ref af), none, none]) (H := H2) st.cl (fun d => decide (S.b d ≤ bg)) nV hc2 hks (by omega) (ev_fld (ev_var rfl) obk (cl_Run W) (na_closed W) rfl) (fun _ => rfl)
      (fun i a H3 ha e3 => et_test (ev_op (ev_ixL (eh_of (ev_fld (ev_var rfl) (e3 _ _ obk) (cl_Run W) (na_begins W) rfl) (e3 _ _ (eGk _ _ F.begins))) (ev_var rfl) (atI_nat (b_get (hd a (List.mem_of_getElem? ha))))) (ev_var rfl) rv_I0)) (fun i a H3 ha e3 _ => ev_var rfl)
    have hfl : fr.length ≤ 100 := by
      rw [hfrs]
      have := List.length_filter_le (RS.freshB S bg) (st.wt.map (·.1))
      rw [List.length_map] at this
      omega
    have hcat := en_cat (eh_of (σ := [some (.ref p), some (.int n), some (.int bg), some (.ref af), none, none]) (ev_var (i := 3) rfl) h2) key.h (by
      have := List.length_filter_le (fun d => decide (S.b d ≤ bg)) st.cl
      rw [List.length_map, List.length_map]
      omega)
    rw [← List.map_append, nV_map] at hcat
    refine q_asgSort hcat.h fun am H3 ns' hm3 e3 h3 _ _ => ?_
    have hst3 := hst2.mono e3
    obtain ⟨G2, g1, g2, F2, g3⟩ := rebase F (eG2.trans e3) hst3
    obtain ⟨o1, o2, o3, o4⟩ := hst3.other h3 (by intro _ _ _ z; cases z) (by intro _ z; cases z)
    have gm := g3 _ _ h3 o1 o2 o3 o4
    have h2' := e3 _ _ h2
    obtain ⟨o1, o2, o3, o4⟩ := hst3.other h2' (by intro _ _ _ z; cases z) (by intro _ z; cases z)
    have gf := g3 _ _ h2' o1 o2 o3 o4
    have hfn : fr.Nodup := by rw [hfrs]; exact hnd.filter _
    have hfm : ∀ a ∈ fr, ∃ q ∈ st.wt, q.1 = a := fun a ha => by
      rw [hfrs] at ha
      obtain ⟨q, hq, e⟩ := List.mem_map.mp (List.mem_filter.mp ha).1
      exact ⟨q, hq, e⟩
    refine s_forLn (a := af) (xs := fr.map nV) (ev_var rfl) (sq_of h2')
      (fun i σ' H' => Ex G2 H' ∧ RunSt K H' p c { st with cl := st.cl ++ fr.take i, wt := stepW (fun _ => none) (fr.take i) st.wt } ∧ ∃ v5, σ' = [some (.ref p), some (.int n), some (.int bg), some (.ref af), some (.ref am), v5])
      (fun H4 e4 => ⟨g2.trans e4, ?_, _, rfl⟩) (fun i σ' H' _ hP => sq_of (hP.1 _ _ gf)) (fun i x σ' H' hx hP => ?_) (fun σ' H' hP => ?_)
    · rw [List.take_zero, stepW_nil, List.append_nil]
      exact hst3.mono e4
    · obtain ⟨g4, h', v5, rfl⟩ := hP
      obtain ⟨a, hai, rfl⟩ : ∃ a : Nat, fr[i]? = some a ∧ x = nV a := by
        rw [List.getElem?_map] at hx
        cases h : fr[i]? with
        | none => rw [h] at hx; cases hx
        | some a => rw [h] at hx; exact ⟨a, rfl, (Option.some.inj hx).symm⟩
      obtain ⟨q, hqm, rfl⟩ := hfm a (List.mem_of_getElem? hai)
      have hnt := not_take hfn hai
      have hv := stepW_val (f := fun _ => none) hnd hqm hnt
      refine q_dpop (ev_fld (ev_var rfl) h'.ob (cl_Run W) (na_waiting W) rfl) h'.wt (k := kI q.1) (ev_var rfl) hv (stepW_drop (f := fun _ => none) hnd hqm hnt rfl) fun H5 e5 => ?_
      have hh : RunSt K (upd H5 c.wt (.dK (wtK (stepW (fun _ => none) (fr.take (i + 1)) st.wt)))) p c { st with cl := st.cl ++ fr.take i, wt := stepW (fun _ => none) (fr.take (i + 1)) st.wt } := (h'.mono e5).put_wt F2 _
      rw [← take_one hai]
      obtain ⟨ks6, hc6, hks6⟩ := hh.cl
      have hnc : q.1 ∉ st.cl ++ fr.take i := by
        rw [List.mem_append]
        rintro (z | z)
        · exact (hq q hqm).2 z
        · exact hnt z
      refine s_dputN (o := .tup [.int (bg + 1), .ref am]) (ev_fld (ev_var rfl) hh.ob (cl_Run W) (na_closed W) rfl) hc6 (k := kI q.1) (ev_var rfl) (en_tup (ea_cons (ev_op (ev_var rfl) ev_c rv_I0) (ea_cons (ev_var rfl) ea_nil)) (show (2 : Nat) ≤ 100000 by decide)) ?_ fun at6 H7 hat e7 h7 => ?_
      · have hll := congrArg List.length hks6
        rw [List.length_map, List.length_map, List.length_append, List.length_take] at hll
        omega
      · refine ⟨((g4.trans e5).mut F2.nwt).trans e7 |>.mut F2.ncl, ?_, _, rfl⟩
        refine (hh.mono e7).put_cl F2 ?_
        rw [putK_new _ (valV_out hks6 hnc), List.map_append, hks6, take_one hai, ← List.append_assoc, List.map_append, List.map_append, List.map_append]
        rfl
    · obtain ⟨g4, h', v5, rfl⟩ := hP
      refine k _ (g1.trans g4) ?_
      rw [List.take_of_length_le (by rw [List.length_map]; exact Nat.le_refl _)] at h'
      have e : RS.closeAt S M st n = { st with cl := st.cl ++ fr, wt := stepW (fun _ => none) fr st.wt } := by
        unfold RS.closeAt
        rw [hbg, ← hfrs]
        congr 1
        rw [← fmap_not]
        unfold stepW
        refine fmap_congr fun q hqm => ?_
        have : q.1 ∈ fr ↔ RS.freshB S bg q.1 = true := by
          rw [hfrs, List.mem_filter]
          exact ⟨fun h => h.2, fun h => ⟨List.mem_map.mpr ⟨q, hqm, rfl⟩, h⟩⟩
        by_cases z : RS.freshB S bg q.1 = true
        · rw [if_pos z, if_pos (this.mpr z)]
          rfl
        · rw [if_neg z, if_neg fun y => z (this.mp y)]
      rw [e]
      exact h'
theorem close_at {G H : Hp} {p : Addr} {S : RS.Scn} {M : List Int} {c : RC} {st : RS.Stt} {n : Int} {c0 : Nat} (F : RunFix K G p S M c) (eG : Ex G H) (h : RunSt K H p c st) (hnd : (st.wt.map (·.1)).Nodup) (hl : st.wt.length ≤ 100) (hcl : st.cl.length ≤ 100) (hq : ∀ q ∈ st.wt, q.1 < S.m ∧ q.1 ∉ st.cl) (hd : ∀ d ∈ st.cl, d < S.m) (hR : S.rule.tail = .rep c0) (hM : M.length ≤ 40000) (hfr : st.fr ≤ n) {Q : VK} (k : RetU K G p c (RS.closeAt S M st n) Q) (E : XK) : sp_U_close K [.ref p, .int n] H Q E := ⟨p, n, G, S, M, c, st, c0, rfl, F, eG, h, hnd, hl, hcl, hq, hd, hR, hM, hfr, k⟩
end RW
end

section
set_option Elab.async false
set_option linter.all false
set_option maxRecDepth 100000
set_option maxHeartbeats 4000000
namespace RW
open PySem L2 Evl
variable {P : Program} {w : World} {K : PySem.W.Frag} {mg : Str → Option Value} {base : Heap}
section
variable {σ : L2.St} {H : Hp} {D : L2.Ends} {tz : TS}
/-- d[k] += .. -/
theorem q_daug {td ty tv : TE} {d : Addr} {kvs kvs' : List (Key × V)} {k : Key} {i j : Int} (hd : Ev td σ H (.ref d)) (ho : H d = some (.dK kvs)) (hy : Ev ty σ H (kV k)) (hv : valV kvs k = some (.int i)) (hz : Ev tv σ H (.int j)) (hl : kvs.length ≤ 50000) (hk : putK kvs k (.int (i + j)) = kvs')
    (kk : ∀ H1, Ex H H1 → tz D σ (upd H1 d (.dK kvs'))) : tSeq (sDAug td ty tv rAdd) tz D σ H := by
  subst hk
  refine hd H (Ex.refl H) _ fun H1 e1 => hy H1 e1 _ fun H2 e2 => ⟨d, .int i, rfl, by rw [← hv]; exact DGet.k ((e1.trans e2) _ _ ho), ?_⟩
  exact hz H2 (e1.trans e2) _ fun H3 e3 => ⟨i, j, rfl, rfl, ⟨_, DPut.k (((e1.trans e2).trans e3) _ _ ho) (sz_lt (by omega)), kk H3 ((e1.trans e2).trans e3)⟩⟩
/-- d[k] = (e.pop(k), v) -/
theorem q_serve {tw ts tc tv : TE} {wA sA : Addr} {kws kws' kss : List (Key × V)} {k : Key} {v u : V} (hw : Ev tw σ H (.ref wA)) (how : H wA = some (.dK kws)) (hc : Ev tc σ H (kV k)) (hv : valV kws k = some v) (hk : dropK kws k = kws')
    (hn : ∀ H1, Ex H H1 → Ev tv σ (upd H1 wA (.dK kws')) u) (hs : ∀ H1, Ex H H1 → Ev ts σ (upd H1 wA (.dK kws')) (.ref sA)) (hc2 : ∀ H1, Ex H H1 → Ev tc σ (upd H1 wA (.dK kws')) (kV k)) (hos : H sA = some (.dK kss)) (hne : sA ≠ wA) (hl : kss.length ≤ 50000)
    (kk : ∀ H1 H2 a, Ex H H1 → Ex (upd H1 wA (.dK kws')) H2 → H2 a = some (.tup [v, u]) → tz D σ (upd H2 sA (.dK (putK kss k (.ref a))))) : tSeq (sDPut ts tc (tTup (tCons (tDPop1 tw tc) (tCons tv tNil)))) tz D σ H := by
  subst hk
  refine hw H (Ex.refl H) _ fun H3 e3 => ⟨wA, rfl, .inl ⟨_, .inl (e3 _ _ how)⟩, hc H3 e3 _ fun H4 e4 => ⟨kws, k, v, e4 _ _ (e3 _ _ how), rfl, hv, ?_⟩⟩
  have e34 := e3.trans e4
  refine hn H4 e34 _ (Ex.refl _) _ fun H5 e5 => ⟨sz_of (show (2 : Nat) ≤ 100000 by decide), fun a ha => ?_⟩
  have e6 := e5.trans (Ex.new (o := .tup [v, u]) ha)
  refine hs H4 e34 _ e6 _ fun H7 e7 => hc2 H4 e34 _ (e6.trans e7) _ fun H8 e8 => ?_
  have x8 := (e6.trans e7).trans e8
  have hs8 : H8 sA = some (.dK kss) := x8 _ _ (by rw [upd_ne hne]; exact e34 _ _ hos)
  exact ⟨sA, _, rfl, DPut.k hs8 (sz_lt (by omega)), kk H4 H8 a e34 x8 (e8 _ _ (e7 _ _ upd_same))⟩
end
def meetF (S : RS.Scn) : Nat × Nat → Option Nat := fun q => if RS.hasB S.rule (q.2 + 1) = true then some (q.2 + 1) else none
theorem meet_step {S : RS.Scn} {st : RS.Stt} {s : Int} (hnd : (st.wt.map (·.1)).Nodup) (h : ¬ ((RS.here S st s).length + (RS.others S st s).length = 1)) : RS.decideAt S st s = { st with wt := stepW (meetF S) ((RS.here S st s).map (·.1)) st.wt } := by
  have e : stepW (meetF S) ((RS.here S st s).map (·.1)) st.wt = st.wt.filterMap fun p => if RS.slotOf S p = s then (if RS.hasB S.rule (p.2 + 1) = true then some (p.1, p.2 + 1) else none) else some p := by
    unfold stepW
    refine fmap_congr fun q hq => ?_
    have : q.1 ∈ (RS.here S st s).map (·.1) ↔ RS.slotOf S q = s := by
      rw [List.mem_map]
      constructor
      · rintro ⟨r, hr, e⟩
        obtain ⟨g1, g2⟩ := RS.here_mem.mp hr
        rw [← RS.inj_fst hnd g1 hq e]
        exact g2
      · exact fun g => ⟨q, RS.here_mem.mpr ⟨hq, g⟩, rfl⟩
    by_cases z : RS.slotOf S q = s
    · rw [if_pos z, if_pos (this.mpr z)]
      unfold meetF
      split <;> rfl
    · rw [if_neg z, if_neg fun y => z (this.mp y)]
  rw [e]
  unfold RS.decideAt
  split
  · rename_i p h1 h2
    rw [h1, h2] at h
    exact (h rfl).elim
  · rfl
theorem serve_step {S : RS.Scn} {st : RS.Stt} {s : Int} (hne : RS.here S st s ≠ []) (h : (RS.here S st s).length + (RS.others S st s).length = 1) : ∃ q, RS.here S st s = [q] ∧ RS.others S st s = [] ∧ RS.decideAt S st s = { st with sv := st.sv ++ [(q.1, (q.2, s))], wt := st.wt.filter (fun r => r.1 ≠ q.1), fr := s + S.len } := by
  cases h1 : RS.here S st s with
  | nil => exact absurd h1 hne
  | cons q r =>
    rw [h1] at h
    have hr : r = [] := List.length_eq_zero_iff.mp (by simp at h; omega)
    have ho : RS.others S st s = [] := List.length_eq_zero_iff.mp (by simp at h; omega)
    subst hr
    refine ⟨q, rfl, ho, ?_⟩
    unfold RS.decideAt
    rw [h1, ho]
theorem att_eq {R : RS.Rul} {k : Nat} (h : RS.hasB R k = true) : RV rEq (.int ((k : Int) + 1)) (attV R) H0 (.bl (!RS.hasB R (k + 1))) := by
  have hs : scal (.int ((k : Int) + 1)) (attV R) = true := by unfold attV; cases R.tail <;> rfl
  have hb : decide (V.int ((k : Int) + 1) = attV R) = !RS.hasB R (k + 1) := by
    unfold attV RS.hasB
    unfold RS.hasB at h
    cases e : R.tail with
    | fin =>
      rw [e] at h
      have h := of_decide_eq_true h
      by_cases z : k + 1 ≤ R.n
      · have : ¬ (V.int ((k : Int) + 1) = V.int ((R.n + 1 : Nat) : Int)) := fun y => by
          have := V.int.inj y
          omega
        simp [z, this]
        try omega
      · have : V.int ((k : Int) + 1) = V.int ((R.n + 1 : Nat) : Int) := by
          congr 1
          omega
        simp [z, this]
        try omega
    | tim b => simp
    | rep b => simp
  rw [← hb]
  exact rv_eq hs
theorem SvAt.app {H : Hp} {ks : List (Key × V)} {sv : List (Nat × (Nat × Int))} {c k : Nat} {t : Int} {a : Addr} (h : SvAt H ks sv) (ha : H a = some (.tup [.int (k : Int), .int t])) : SvAt H (ks ++ [(kI c, .ref a)]) (sv ++ [(c, (k, t))]) := by
  obtain ⟨h1, h2⟩ := h
  refine ⟨by simp [h1], fun i q hq => ?_⟩
  by_cases hi : i < sv.length
  · rw [List.getElem?_append_left hi] at hq
    obtain ⟨x, g1, g2⟩ := h2 i q hq
    exact ⟨x, by rw [List.getElem?_append_left (by omega)]; exact g1, g2⟩
  · rw [List.getElem?_append_right (by omega)] at hq
    have hi2 := (List.getElem?_eq_some_iff.mp hq).1
    have : i - sv.length = 0 := by simp at hi2; omega
    rw [this] at hq
    have e := Option.some.inj hq
    subst e
    refine ⟨a, ?_, ha⟩
    rw [List.getElem?_append_right (by omega), show i - ks.length = 0 by omega]
    rfl
theorem SvAt.out {H : Hp} {ks : List (Key × V)} {sv : List (Nat × (Nat × Int))} {c : Nat} (h : SvAt H ks sv) (hc : sv.lookup c = none) : valV ks (kI c) = none := by
  unfold valV
  rw [List.find?_eq_none.mpr ?_]
  · rfl
  · intro q hq
    simp only [decide_eq_true_eq]
    intro z
    obtain ⟨i, hi, e⟩ := List.mem_iff_getElem.mp hq
    have hi2 : i < sv.length := by rw [← h.1]; exact hi
    obtain ⟨t, g1, _⟩ := h.2 i _ (List.getElem?_eq_getElem hi2)
    rw [List.getElem?_eq_getElem hi, e] at g1
    have e2 := Option.some.inj g1
    rw [e2] at z
    have := kI_inj z
    rw [List.lookup_eq_none_iff] at hc
    have := hc _ (List.getElem_mem hi2)
    simp_all
theorem wtK_inj : ∀ {a b : List (Nat × Nat)}, wtK a = wtK b → a = b
  | [], [], _ => rfl
  | [], _ :: _, h => by cases h
  | _ :: _, [], h => by cases h
  | x :: r, y :: t, h => by
    have h1 : (kI x.1, V.int (x.2 : Int)) = (kI y.1, V.int (y.2 : Int)) := (List.cons.inj h).1
    have h2 := wtK_inj (List.cons.inj h).2
    have h3 := kI_inj (congrArg Prod.fst h1)
    have h4 := V.int.inj (congrArg Prod.snd h1)
    rw [h2, show x = y from Prod.ext h3 (by omega)]
theorem take_one_rev {α : Type} {l : List α} {i : Nat} {a : α} (h : l[i]? = some a) : l.take i ++ [a] = l.take (i + 1) := (take_one h).symm
theorem sc_U_decide : FnScope ["self", "slot", "clients", "others", "client"] ["self", "slot", "clients"] (defScope s_U_decide) := ⟨rfl, rfl, rfl, by decide +kernel, rfl, by decide +kernel, by decide +kernel⟩
def sp_U_decide (K : PySem.W.Frag) : Sp := fun vs H Q _ => ∃ (p : Addr) (s : Int) (lc : Addr) (G : Hp) (S : RS.Scn) (M : List Int) (c : RC) (st : RS.Stt), vs = [.ref p, .int s, .ref lc] ∧ RunFix K G p S M c ∧ Ex G H ∧ RunSt K H p c st ∧ H lc = some (.lst ((RS.here S st s).map fun q => nV q.1)) ∧ (st.wt.map (·.1)).Nodup ∧ st.wt.length ≤ 100 ∧ st.cl.length ≤ 100 ∧ st.sv.length ≤ 100 ∧ (∀ q ∈ st.wt, st.sv.lookup q.1 = none ∧ RS.hasB S.rule q.2 = true) ∧ (∀ d ∈ st.cl, d < S.m ∧ RS.SzD S.rule (s - S.b d)) ∧ RS.here S st s ≠ [] ∧ RetU K G p c (RS.decideAt S st s) Q
theorem ok_U_decide (W : Wd K mg) : FnOk P w K mg base CX0 5 (a_U_decide K) (f_U_decide K) ["self", "slot", "clients"] (sp_U_decide K) := by
  refine (F_U_decide W).ok sc_U_decide (fun vs H Q E h => ?_) (fun cdv A outer s H vs Q E hr h => ?_)
  · obtain ⟨p, s, lc, G, S, M, c, st, rfl, _⟩ := h
    rfl
  · obtain ⟨p, n, lc, G, S, M, c, st, rfl, F, eG, hst, hlc, hnd, hl, hcl, hsl, hq, hd, hne, k⟩ := h
    have hu := units1 hr
    refine ⟨_, PSs.nox (pss_cons (ps_lock (ps_setLc (i := 3) (own := [("client", 4)]) rfl sc_U_decide.nd rfl rfl (sw_true rfl rfl rfl (by decide +kernel)) (pi_keys (pe_fld (pv 0) rfl)) (blkOk_by (N := ["self", "slot", "clients", "others", "client"]) (sc := defScope s_U_decide) (by decide +kernel)) (fun _ _ _ _ _ => (pg_name (i := 4) sc_U_decide.nd rfl (Or.inl rfl))) (fun _ _ _ _ _ => (pts_one (pt_cmpR op_notN (pe_meth (fldK (K := K) (pv 0) rfl) (cl_Rule W) (m_R_attempt_at W) (ok_R_attempt_at W) (hr.mono (by decide)) (b_R_attempt_at W) .nil pass0 (pa_cons (pe_op op_sub (pv 1) (pe_ix (ixLK (K := K)) (fldK (K := K) (pv 0) rfl) (pv 4) (fun _ _ => rfl))) pa_nil)) pe_non (nomark _)))) (fun _ _ _ _ _ => (pv 4))))
    (pss_cons (ps_if (pt_cmpR op_eq (pe_callB call_len_seq (by rfl) (n_len W) (by decide +kernel) (pa_cons (pe_op op_cat (pv 2) (pv 3)) pa_nil)) pe_int (nomark _)) (pss_cons (ps_dput hu (pe_fld (pv 0) rfl) (pe_ix ix_list (pv 2) pe_int (fun _ _ => rfl)) (pe_tup (pa_cons (pe_dpop1 (pe_fld (pv 0) rfl) (pe_ix ix_list (pv 2) pe_int (fun _ _ => rfl)) ⟨rfl, rfl, rfl, rfl⟩) (pa_cons (pv 1) pa_nil))) rfl)
      (pss_cons (ps_fld (pv 0) (pe_op op_add (pv 1) (pe_meth0 (pe_fld (pv 0) rfl) (cl_Scene W) (m_S_length W) (ok_S_length W) (hr.mono (by decide)) (b_S_length W) .nil pass0)) rfl)
      (pss_one ps_retN))) pss_nil)
    (pss_one (ps_for PassesOwn.never rfl (pi_list (pv 2)) (pg_name (i := 4) sc_U_decide.nd rfl (Or.inl rfl)) (pss_cons (ps_daug hu (pe_fld (pv 0) rfl) (pv 4) pe_int in_add (fun _ _ _ => rfl))
      (pss_one (ps_if (pt_cmpR op_eq (pe_dget hu (pe_fld (pv 0) rfl) (pv 4) (fun _ _ => rfl)) (pe_meth0 (pe_fld (pv 0) rfl) (cl_Rule W) (m_R_attempts W) (ok_R_attempts W) (hr.mono (by decide)) (b_R_attempts W) .nil pass0) (nomark _)) (pss_one (ps_expr (pe_dpop1 (pe_fld (pv 0) rfl) (pv 4) ⟨rfl, rfl, rfl, rfl⟩))) pss_nil))))))), ?_⟩
    have ob := hst.ob
    obtain ⟨ks, hck, hks⟩ := hst.cl
    have obk := hide_at (d := c.cl) ob hst.p_cl
    have eGk := ex_hide eG F.ncl
    have hRk := F.rule.mono eGk
    obtain ⟨dr, l', t', s', r1, _⟩ := id hRk
    refine q_lockN (en_lcK st.cl (fun d => (RS.atr S.rule (n - S.b d)).isSome) nV hck hks (by omega) (ev_fld (ev_var rfl) obk (cl_Run W) (na_closed W) rfl) (fun _ => rfl)
      (fun i a H2 ha e2 => ?_) (fun i a H2 ha e2 _ => ev_var rfl)) fun ao H1 ho1 e1 h1 => ?_
    · obtain ⟨hlt, hsz⟩ := hd a (List.mem_of_getElem? ha)
      refine et_test (ev_is (ev_op (ev_meth (ev_fld (ev_var rfl) (e2 _ _ obk) (cl_Run W) (na_pattern W) rfl) (e2 _ _ r1) rfl (ea_cons (ev_op (ev_var rfl) (ev_ixL (eh_of (ev_fld (ev_var rfl) (e2 _ _ obk) (cl_Run W) (na_begins W) rfl) (e2 _ _ (eGk _ _ F.begins))) (ev_var rfl) (atI_nat (b_get hlt))) rv_I0) ea_nil) (attempt_at_at (hRk.mono e2) F.ok.rule hsz)) ev_c rv_notN) ?_)
      cases RS.atr S.rule (n - S.b a) <;> rfl
    have h1 : H1 ao = some (.lst ((RS.others S st n).map nV)) := h1
    have hst1 := hst.mono e1
    have eG1 := eG.trans e1
    have ob1 := hst1.ob
    have hlc1 := e1 _ _ hlc
    have hcat := en_cat (eh_of (σ := [some (.ref p), some (.int n), some (.ref lc), some (.ref ao), none]) (ev_var (i := 2) rfl) hlc1) (eh_of (ev_var (i := 3) rfl) h1) (by
      have g1 := List.length_filter_le (fun p => decide (RS.slotOf S p = n)) st.wt
      have g2 := List.length_filter_le (fun c => (RS.atr S.rule (n - S.b c)).isSome) st.cl
      rw [List.length_map, List.length_map]
      unfold RS.here RS.others
      omega)
    refine q_when (b := decide ((RS.here S st n).length + (RS.others S st n).length = 1)) (et_test (ev_is (ev_op (ev_lenL hcat.h) ev_c rv_eqI) ?_)) (fun hb H2 e2 => ?_) fun hb H2 e2 => ?_
    · congr 1
      rw [List.length_append, List.length_map, List.length_map]
      exact decide_eq_decide.mpr ⟨fun h => by omega, fun h => by omega⟩
    · obtain ⟨q, hh, hoo, hdec⟩ := serve_step hne (of_decide_eq_true hb)
      rw [hdec] at k
      have hqm : q ∈ st.wt := (RS.here_mem.mp (by rw [hh]; exact List.mem_singleton.mpr rfl)).1
      obtain ⟨hq1, hq2⟩ := hq q hqm
      have hst2 := hst1.mono e2
      have ob2 := hst2.ob
      have hlc2 := e2 _ _ hlc1
      rw [hh] at hlc2
      have c0 : ∀ {σ : L2.St} {H' : Hp}, σ[2]? = some (some (.ref lc)) → H' lc = some (.lst ([q].map fun q => nV q.1)) → Ev (tOp (rIxL K) (tVar 2) (tC (.int 0))) σ H' (nV q.1) := fun hs hl => ev_ixL (eh_of (ev_var hs) hl) ev_c rfl
      obtain ⟨G2, g1, g2, F2, g3⟩ := rebase F (eG1.trans e2) hst2
      obtain ⟨o1, o2, o3, o4⟩ := hst2.other hlc2 (by intro _ _ _ z; cases z) (by intro _ z; cases z)
      have gl := g3 _ _ hlc2 o1 o2 o3 o4
      obtain ⟨k2, hs2, hsv2⟩ := hst2.sv
      have h4 : ∀ {H4 : Hp}, Ex H2 H4 → RunSt K (upd H4 c.wt (.dK (wtK (st.wt.filter fun r => decide (r.1 ≠ q.1))))) p c { st with wt := st.wt.filter fun r => decide (r.1 ≠ q.1) } := fun e => (hst2.mono e).put_wt F2 _
      have x4 : ∀ {H4 : Hp}, Ex H2 H4 → Ex G2 (upd H4 c.wt (.dK (wtK (st.wt.filter fun r => decide (r.1 ≠ q.1))))) := fun e => (g2.trans e).mut F2.nwt
      refine q_serve (k := kI q.1) (ev_fld (ev_var rfl) ob2 (cl_Run W) (na_waiting W) rfl) hst2.wt (c0 rfl hlc2) (valV_in hnd hqm) (dropW _ _) (fun H4 e4 => ev_var rfl) (fun H4 e4 => ev_fld (ev_var rfl) (h4 e4).ob (cl_Run W) (na_services W) rfl) (fun H4 e4 => c0 rfl (x4 e4 _ _ gl)) hs2 F2.d2 (by rw [hsv2.1]; omega) fun H4 H8 a e4 e8 h8a => ?_
      have h8 := (h4 e4).mono e8
      have x8 := (x4 e4).trans e8
      obtain ⟨k3, hs3, hsv3⟩ := h8.sv
      have hk3 : k3 = k2 := by
        have g := e8 c.sv (.dK k2) (by rw [upd_ne F2.d2]; exact e4 _ _ hs2)
        rw [hs3] at g
        exact HO.dK.inj (Option.some.inj g)
      subst hk3
      have hk2 : putK k3 (kI q.1) (.ref a) = k3 ++ [(kI q.1, .ref a)] := putK_new _ (hsv3.out hq1)
      rw [hk2]
      have h9 := h8.put_sv F2 (hsv3.app (c := q.1) (k := q.2) (t := n) h8a)
      have x9 := x8.mut (o := .dK (k3 ++ [(kI q.1, .ref a)])) F2.nsv
      have hS9 := F2.scene.mono x9
      obtain ⟨dx, r, l, t, ws, s1, _⟩ := id hS9
      refine q_fld (ev_op (ev_var rfl) (ev_meth (ev_fld (ev_var rfl) h9.ob (cl_Run W) (na_its_scene W) rfl) s1 rfl ea_nil (length_at hS9)) rv_I0) (ev_var rfl) h9.ob (cl_Run W) (na_free_from W) (by show (8 : Nat) < 1000; decide) fun H10 e10 => ?_
      exact k _ ((g1.trans x9).trans e10 |>.mut F.np) ((h9.mono e10).put_fr F2 (n + S.len))
    · have hb := of_decide_eq_false hb
      rw [meet_step hnd hb] at k
      have hst2 := hst1.mono e2
      have hlc2 := e2 _ _ hlc1
      obtain ⟨G2, g1, g2, F2, g3⟩ := rebase F (eG1.trans e2) hst2
      obtain ⟨o1, o2, o3, o4⟩ := hst2.other hlc2 (by intro _ _ _ z; cases z) (by intro _ z; cases z)
      have gl := g3 _ _ hlc2 o1 o2 o3 o4
      obtain ⟨L, hL⟩ : ∃ L, L = (RS.here S st n).map (·.1) := ⟨_, rfl⟩
      have hLn : L.Nodup := by
        rw [hL]
        unfold RS.here
        exact List.Nodup.sublist (List.Sublist.map _ List.filter_sublist) hnd
      rw [← hL] at k
      refine s_forLn (a := lc) (xs := (RS.here S st n).map fun q => nV q.1) (ev_var rfl) (sq_of hlc2)
        (fun i σ' H' => Ex G2 H' ∧ RunSt K H' p c { st with wt := stepW (meetF S) (L.take i) st.wt } ∧ ∃ v4, σ' = [some (.ref p), some (.int n), some (.ref lc), some (.ref ao), v4])
        (fun H4 e4 => ⟨g2.trans e4, ?_, _, rfl⟩) (fun i σ' H' _ hP => sq_of (hP.1 _ _ gl)) (fun i x σ' H' hx hP => ?_) (fun σ' H' hP => ?_)
      · rw [List.take_zero, stepW_nil]
        exact hst2.mono e4
      · obtain ⟨g4, h', v5, rfl⟩ := hP
        obtain ⟨q, hqi, rfl⟩ : ∃ q : Nat × Nat, (RS.here S st n)[i]? = some q ∧ x = nV q.1 := by
          rw [List.getElem?_map] at hx
          cases h : (RS.here S st n)[i]? with
          | none => rw [h] at hx; cases hx
          | some a => rw [h] at hx; exact ⟨a, rfl, (Option.some.inj hx).symm⟩
        have hqm := (RS.here_mem.mp (List.mem_of_getElem? hqi)).1
        have hLi : L[i]? = some q.1 := by rw [hL, List.getElem?_map, hqi]; rfl
        have hnt := not_take hLn hLi
        have hv := stepW_val (f := meetF S) hnd hqm hnt
        have hin : q.1 ∈ (stepW (meetF S) (L.take i) st.wt).map (·.1) := List.mem_map.mpr ⟨q, stepW_mem hqm hnt, rfl⟩
        have hput : putK (wtK (stepW (meetF S) (L.take i) st.wt)) (kI q.1) (.int ((q.2 : Int) + 1)) = wtK ((stepW (meetF S) (L.take i) st.wt).map fun r => if r.1 = q.1 then (r.1, q.2 + 1) else r) := putW (k := q.2 + 1) hin
        have hdr : dropK (wtK ((stepW (meetF S) (L.take i) st.wt).map fun r => if r.1 = q.1 then (r.1, q.2 + 1) else r)) (kI q.1) = dropK (wtK (stepW (meetF S) (L.take i) st.wt)) (kI q.1) := by
          rw [← hput]
          exact dropW_put (k := q.2 + 1) hin
        have hvv : valV (wtK ((stepW (meetF S) (L.take i) st.wt).map fun r => if r.1 = q.1 then (r.1, q.2 + 1) else r)) (kI q.1) = some (.int ((q.2 : Int) + 1)) := by
          rw [← hput, valV_put, if_pos rfl]
        refine q_daug (ev_fld (ev_var rfl) h'.ob (cl_Run W) (na_waiting W) rfl) h'.wt (k := kI q.1) (ev_var rfl) hv ev_c (by rw [wtK_len]; exact Nat.le_trans stepW_len (by omega)) hput fun H7 e57 => ?_
        have h8 := (h'.mono e57).put_wt F2 ((stepW (meetF S) (L.take i) st.wt).map fun r => if r.1 = q.1 then (r.1, q.2 + 1) else r)
        have x8 := (g4.trans e57).mut (o := .dK (wtK ((stepW (meetF S) (L.take i) st.wt).map fun r => if r.1 = q.1 then (r.1, q.2 + 1) else r))) F2.nwt
        have hR8 := F2.rule.mono x8
        obtain ⟨dr, l', t', s', r8, _⟩ := id hR8
        refine s_when (b := !RS.hasB S.rule (q.2 + 1)) (et_test (ev_op (ev_dget (eh_of (ev_fld (ev_var rfl) h8.ob (cl_Run W) (na_waiting W) rfl) h8.wt) (k := kI q.1) (ev_var rfl) hvv) (ev_meth (ev_fld (ev_var rfl) h8.ob (cl_Run W) (na_pattern W) rfl) r8 rfl ea_nil (attempts_at hR8)) (att_eq (hq q hqm).2))) (fun hb H9 e9 => ?_) fun hb H9 e9 => ?_
        · have hf : meetF S q = none := by
            unfold meetF
            rw [if_neg (by simpa using hb)]
          refine s_dpop (ev_fld (ev_var rfl) (e9 _ _ h8.ob) (cl_Run W) (na_waiting W) rfl) (e9 _ _ h8.wt) (k := kI q.1) (ev_var rfl) hvv fun H10 e10 => ?_
          refine ⟨((x8.trans e9).trans e10).mut F2.nwt, ?_, _, rfl⟩
          rw [hdr, stepW_drop hnd hqm hnt hf, take_one hLi]
          exact ((h8.mono e9).mono e10).put_wt F2 _
        · have hf : meetF S q = some (q.2 + 1) := by
            unfold meetF
            rw [if_pos (by simpa using hb)]
          refine ⟨x8.trans e9, ?_, _, rfl⟩
          have e : (stepW (meetF S) (L.take i) st.wt).map (fun r => if r.1 = q.1 then (r.1, q.2 + 1) else r) = stepW (meetF S) (L.take (i + 1)) st.wt := by
            have g := stepW_put hnd hqm hnt hf
            rw [putW hin, take_one_rev hLi] at g
            exact wtK_inj g
          rw [← e]
          exact h8.mono e9
      · obtain ⟨g4, h', v5, rfl⟩ := hP
        rw [List.take_of_length_le (by rw [hL, List.length_map, List.length_map]; exact Nat.le_refl _)] at h'
        exact k _ (g1.trans g4) h'
theorem decide_at {G H : Hp} {p lc : Addr} {S : RS.Scn} {M : List Int} {c : RC} {st : RS.Stt} {n : Int} (F : RunFix K G p S M c) (eG : Ex G H) (h : RunSt K H p c st) (hlc : H lc = some (.lst ((RS.here S st n).map fun q => nV q.1))) (hnd : (st.wt.map (·.1)).Nodup) (hl : st.wt.length ≤ 100) (hcl : st.cl.length ≤ 100) (hsl : st.sv.length ≤ 100) (hq : ∀ q ∈ st.wt, st.sv.lookup q.1 = none ∧ RS.hasB S.rule q.2 = true) (hd : ∀ d ∈ st.cl, d < S.m ∧ RS.SzD S.rule (n - S.b d)) (hne : RS.here S st n ≠ []) {Q : VK} (k : RetU K G p c (RS.decideAt S st n) Q) (E : XK) : sp_U_decide K [.ref p, .int n, .ref lc] H Q E := ⟨p, n, lc, G, S, M, c, st, rfl, F, eG, h, hlc, hnd, hl, hcl, hsl, hq, hd, hne, k⟩
end RW
end

section
set_option Elab.async false
set_option linter.all false
set_option maxRecDepth 100000
set_option maxHeartbeats 4000000
/-! ### name = {k: v for ..} on one line, the name a local: a rule of our own -/
namespace RW
open PySem L2 Evl
section
variable {X : Cx}
theorem ps_setDc {i : Nat} {y : Str} {py : Pos} {kx vx tg iter : Expr} {ifs : List Expr} {scope : Scope} {own : List (Str × Nat)} {pos spos : Pos} {wi : TI} {g : TG} {tt : TT} {tk tv : TE} (hc : X.calm = true) (hN : X.N.Nodup) (hy : X.N[i]? = some y) (hyl : X.env.scope.names.lookup y = some .local)
    (hsw : swapsWith (.DictComp kx vx [⟨tg, iter, ifs, 0⟩] scope pos) (some (.Name y py)) spos.line X.env = pure true) (hi : PI X tg iter wi) (ok : BlkOk X.N X.env.scope scope own)
    (hg : ∀ (s : Shared) (H : Hp) (C : Addr) (cl : List (Str × Addr)) (fp : List Addr), PG (X.blk s H scope (compEnvC scope cl C X.env) fp) tg g) (ht : ∀ (s : Shared) (H : Hp) (C : Addr) (cl : List (Str × Addr)) (fp : List Addr), PTs (X.blk s H scope (compEnvC scope cl C X.env) fp) ifs tt)
    (hk : ∀ (s : Shared) (H : Hp) (C : Addr) (cl : List (Str × Addr)) (fp : List Addr), PE (X.blk s H scope (compEnvC scope cl C X.env) fp) kx tk)
    (he : ∀ (s : Shared) (H : Hp) (C : Addr) (cl : List (Str × Addr)) (fp : List Addr), PE (X.blk s H scope (compEnvC scope cl C X.env) fp) vx tv) (hs : ∀ x, foldedSetIterable iter X.env x = pure x := by intro _; rfl) :
    PS X (.Assign [.Name y py] (.DictComp kx vx [⟨tg, iter, ifs, 0⟩] scope pos) spos) (tAsg (tDc wi g tt tk tv (own.map (·.2))) (gName i)) := by
  refine ⟨fun pins s σ H D I h => ?_⟩
  rw [exec_Assign_Name_used _ _ _ _ hsw]
  refine wpAny_bind (wpAny_standAt (wpAny_bind ?_))
  show wpAny _ X.A (do let _ ← comprehension (.DictComp kx vx [⟨tg, iter, ifs, 0⟩] scope pos) scope X.env (firstIterPos [⟨tg, iter, ifs, 0⟩] pos) newDict false (eval iter X.env) (some (assign (.Name y py) X.env))) _ _ s
  have h : tDc wi g tt tk tv (own.map (·.2)) σ H (fun x H1 => gName i x σ H1 D.nx) := h
  refine wpAny_bind (thn (dc_core (Qf := fun _ s' => SP X pins D .next s') hc hN I hi ok hg ht hk he hs h fun L C s' m H' I' q hn f => ?_) fun _ s' hq => wpAny_pure (wpAny_pure hq))
  show wpAny _ _ (assign (.Name y py) X.env (.ref L)) _ _ _
  refine wpAny_assign_Name (store_ok2 (v := V.ref L) I' hN hy (.inl hyl) rfl (fun s2 I2 ⟨a, sb, ha⟩ => ?_) (.inr hyl))
  obtain ⟨f0, f1, f2, f3, f4, f5⟩ := f
  have haC : C ≠ a := by
    rcases ha with z | z
    · rw [z]; exact f1
    · exact fun e => f4 y a z e.symm
  refine ⟨m, hn.sameBut sb haC, fun h3 sb3 => ?_⟩
  exact ⟨_, H', I2.turned (t' := s2.toks) (fun b o hb e => (sb3.2 b hb).trans e) f0 f1 f3 f4 f5, q⟩
theorem sw_trueD {kx vx : Expr} {gs : List Comprehension} {scope : Scope} {pos py : Pos} {y : Str} {l : Nat} {env : Env} (hk : env.scope.kind = .function) (hy : env.scope.names.lookup y = some .local) (hl : (py.line == pos.line) = true)
    (ha : (scope.names.any fun (n, k) => n == y && (k == .local || k == .cell)) = false) : swapsWith (.DictComp kx vx gs scope pos) (some (.Name y py)) l env = pure true := by
  have ky : env.kindOf y = some .local := hy
  have hb : env.blockKind = .function := by unfold Env.blockKind; rw [hk]; rfl
  unfold swapsWith
  simp only [hb, ky, ha, Expr.pos, hl]
  rfl
end
end RW
end

section
set_option Elab.async false
set_option linter.all false
set_option maxRecDepth 100000
set_option maxHeartbeats 4000000
namespace RW
open PySem L2 Evl
variable {P : Program} {w : World} {K : PySem.W.Frag} {mg : Str → Option Value} {base : Heap}
section
variable {σ : L2.St} {H : Hp} {D : L2.Ends} {tz : TS} {ta td t1 t2 : TE} {o : HO}
/-- min(d.values()) -/
theorem ev_minV {kvs : List (Key × V)} {ns : List Int} (h : EvH td σ H (.dK kvs)) (hv : valI kvs ns) (hne : ns ≠ []) : Ev (tCB rMinV (tCons (tVals td) tNil)) σ H (.int (RS.minL ns)) := fun H1 e Q q =>
  h H1 e _ fun d H2 e2 hd => ⟨d, kvs, rfl, .inl hd, fun v hv2 => ⟨v, d, kvs, ns, rfl, upd_same, .inl (Ex.new hv2 _ _ hd), hv, List.length_pos_iff.mpr hne, fun m h1 h2 => by rw [← RS.minL_eq h1 h2]; exact q _ (e2.trans (Ex.new hv2))⟩⟩
/-- a call of a method that changes the object -/
theorem s_methU {a C dx : Addr} {fs : List (Str × V)} {m : Str} {sp : Sp} {dvs vs : List V} {E : XK} {t : TA} (h : Ev ta σ H (.ref a)) (ho : H a = some (.ins C dx fs)) (l : fs.lookup m = none) (ha : EvA t σ H vs) (k : ∀ H1, Ex H H1 → sp (.ref a :: (vs ++ dvs)) H1 (fun _ H2 => D.nx σ H2) E) : tDrop (tMeth C m sp dvs E ta t) D σ H :=
  h H (Ex.refl H) _ fun H2 e2 => ⟨a, dx, fs, rfl, e2 _ _ ho, l, ha H2 e2 _ fun H3 e3 => k H3 (e2.trans e3)⟩
theorem s_methU2 {a C dx : Addr} {fs : List (Str × V)} {m : Str} {sp : Sp} {dvs : List V} {v : V} {E : XK} (h : Ev ta σ H (.ref a)) (ho : H a = some (.ins C dx fs)) (l : fs.lookup m = none) (h1 : Ev t1 σ H v) (h2 : EvN t2 σ H o) (k : ∀ b H1, H b = none → Ex H H1 → H1 b = some o → sp (.ref a :: ([v, .ref b] ++ dvs)) H1 (fun _ H2 => D.nx σ H2) E) : tDrop (tMeth C m sp dvs E ta (tCons t1 (tCons t2 tNil))) D σ H :=
  h H (Ex.refl H) _ fun H2 e2 => ⟨a, dx, fs, rfl, e2 _ _ ho, l, h1 H2 e2 _ fun H3 e3 => h2 H3 (e2.trans e3) _ fun b H4 hb e4 h4 => k b H4 (fresh_back (e2.trans e3) hb) ((e2.trans e3).trans e4) h4⟩
end
/-- what an invariant says of sizes -/
theorem inv_sizes {S : RS.Scn} {st : RS.Stt} {T : Int} (ok : S.Ok) (I : RS.Inv S st T) (Z : RS.Sz S st) :
    st.wt.length ≤ 10 ∧ st.cl.length ≤ 10 ∧ st.sv.length ≤ 10 ∧ (∀ q ∈ st.wt, RS.SzK S.rule q.2) := by
  have h1 := RS.nodup_lt S.m I.wtn (fun x hx => by
    obtain ⟨q, hq, rfl⟩ := List.mem_map.mp hx
    exact (I.wlt q hq).1)
  have h2 := RS.nodup_lt S.m I.cln (fun x hx => (I.clt x hx).1)
  have h3 := RS.sv_len I
  have := ok.ten
  rw [List.length_map] at h1
  refine ⟨by omega, by omega, by omega, fun q hq b hb => ?_⟩
  have := (Z b hb).1 q hq
  omega
theorem adv_dist {S : RS.Scn} {st : RS.Stt} {T : Int} (ok : S.Ok) (I : RS.Inv S st T) (Z : RS.Sz S st) {q : Nat × Nat} (hq : q ∈ st.wt) (d : Nat) : RS.SzD S.rule (RS.slotOf S q - S.b d) := fun b hb => by
  have h1 := (Z b hb).1 q hq
  have h3 := (inv_sizes ok I Z).2.2.1
  have h2 := RS.off_next ok.rule hb q.2
  have b1 := (ok.b q.1).2
  have b2 := (ok.b d).1
  refine ⟨max 119 (q.2 + 1), by omega, ?_⟩
  show S.b q.1 + RS.off S.rule q.2 - S.b d ≤ _
  omega
theorem sc_U_advance : FnScope ["self", "slots", "slot", "end", "client", "its", "its_slot"] ["self"] (defScope s_U_advance) := ⟨rfl, rfl, rfl, by decide +kernel, rfl, by decide +kernel, by decide +kernel⟩
def sp_U_advance (K : PySem.W.Frag) : Sp := fun vs H Q _ => ∃ (p : Addr) (G : Hp) (S : RS.Scn) (M : List Int) (c : RC) (st : RS.Stt) (T : Int), vs = [.ref p] ∧ RunFix K G p S M c ∧ Ex G H ∧ RunSt K H p c st ∧ RS.Inv S st T ∧ RS.Sz S st ∧ st.wt ≠ [] ∧ M.length ≤ 40000 ∧ RetU K G p c (RS.adv S M st) Q
theorem ok_U_advance (W : Wd K mg) : FnOk P w K mg base CX0 6 (a_U_advance K) (f_U_advance K) ["self"] (sp_U_advance K) := by
  refine (F_U_advance W).ok sc_U_advance (fun vs H Q E h => ?_) (fun cdv A outer s H vs Q E hr h => ?_)
  · obtain ⟨p, G, S, M, c, st, T, rfl, _⟩ := h
    rfl
  · obtain ⟨p, G, S, M, c, st, T, rfl, F, eG, hst, I, Z, hne, hM, k⟩ := h
    refine ⟨_, PSs.nox (pss_cons (ps_lock (ps_setDc (i := 1) (own := [("client", 4), ("its", 5)]) rfl sc_U_advance.nd rfl rfl (sw_trueD rfl rfl rfl (by decide +kernel)) (pi_items (pe_fld (pv 0) rfl)) (blkOk_by (N := ["self", "slots", "slot", "end", "client", "its", "its_slot"]) (sc := defScope s_U_advance) (by decide +kernel)) (fun _ _ _ _ _ => (gtupK (K := K) (n := 2) rfl (pgs_cons (pg_name (i := 4) sc_U_advance.nd rfl (Or.inl rfl)) (pgs_cons (pg_name (i := 5) sc_U_advance.nd rfl (Or.inl rfl)) pgs_nil)))) (fun _ _ _ _ _ => pts_nil) (fun _ _ _ _ _ => (pv 4)) (fun _ _ _ _ _ => (pe_op op_add (pe_ix (ixLK (K := K)) (fldK (K := K) (pv 0) rfl) (pv 4) (fun _ _ => rfl)) (pe_meth (fldK (K := K) (pv 0) rfl) (cl_Rule W) (m_R_offset_of W) (ok_R_offset_of W) (hr.mono (by decide)) (b_R_offset_of W) .nil pass0 (pa_cons (pv 5) pa_nil))))))
    (pss_cons (ps_set (i := 2) sc_U_advance.nd rfl (Or.inr rfl) (pe_callB (cr_minV rfl) (by rfl) (n_min W) (by decide +kernel) (pa_cons (pe_values (pv 1)) pa_nil)))
    (pss_cons (ps_set (i := 3) sc_U_advance.nd rfl (Or.inl rfl) (pe_meth (pv 0) (cl_Run W) (m_U_failing_until W) (ok_U_failing_until W) (hr.mono (by decide)) (b_U_failing_until W) .nil pass0 (pa_cons (pv 2) pa_nil)))
    (pss_one (ps_if (pt_cmpR op_gt (pv 3) (pv 2) (nomark _)) (pss_one (ps_expr (pe_meth (pv 0) (cl_Run W) (m_U_skip_to W) (ok_U_skip_to W) (hr.mono (by decide)) (b_U_skip_to W) .nil pass0 (pa_cons (pv 3) pa_nil)))) (pss_one (ps_if (pt_val (pe_meth (pv 0) (cl_Run W) (m_U_is_repeated W) (ok_U_is_repeated W) (hr.mono (by decide)) (b_U_is_repeated W) .nil pass0 (pa_cons (pv 2) pa_nil))) (pss_one (ps_expr (pe_meth (pv 0) (cl_Run W) (m_U_close W) (ok_U_close W) (hr.mono (by decide)) (b_U_close W) .nil pass0 (pa_cons (pv 2) pa_nil)))) (pss_one (ps_expr (pe_meth (pv 0) (cl_Run W) (m_U_decide W) (ok_U_decide W) (hr.mono (by decide)) (b_U_decide W) .nil pass0 (pa_cons (pv 2) (pa_cons (pe_lock (pe_lc (own := [("client", 4), ("its_slot", 6)]) rfl sc_U_advance.nd (pi_items (pv 1)) (blkOk_by (N := ["self", "slots", "slot", "end", "client", "its", "its_slot"]) (sc := defScope s_U_advance) (by decide +kernel)) (fun _ _ _ _ _ => (gtupK (K := K) (n := 2) rfl (pgs_cons (pg_name (i := 4) sc_U_advance.nd rfl (Or.inl rfl)) (pgs_cons (pg_name (i := 6) sc_U_advance.nd rfl (Or.inl rfl)) pgs_nil)))) (fun _ _ _ _ _ => (pts_one (pt_cmpR op_eq (pv 6) (pv 2) (nomark _)))) (fun _ _ _ _ _ => (pv 4)))) pa_nil)))))))))))), ?_⟩
    have ob := hst.ob
    obtain ⟨z1, z2, z3, z4⟩ := inv_sizes F.ok I Z
    obtain ⟨⟨p0, hp0, hps⟩, hmin⟩ := RS.next_spec (S := S) hne
    have hT : T ≤ RS.nextSlot S st := by rw [← hps]; exact (I.wlt p0 hp0).2.2.1
    -- slots
    have obk := hide_at (d := c.wt) ob hst.p_wt
    have eGk := ex_hide eG F.nwt
    have hRk := F.rule.mono eGk
    obtain ⟨dr, l', t', s', r1, _⟩ := id hRk
    refine q_asgN (en_dcI (K := K) (kvs := wtK st.wt) st.wt (fun q => q.1) (fun q => .int (q.2 : Int)) (fun q => .int (RS.slotOf S q)) hst.wt rfl I.wtn (by omega) (ev_fld (ev_var rfl) obk (cl_Run W) (na_waiting W) rfl) (fun _ _ => rfl)
      (fun i a H2 ha e2 H3 e3 Q q => q H3 (Ex.refl H3)) (fun i a H2 ha e2 => ev_var rfl) (fun i a H2 ha e2 => ?_)) fun ad H1 hd1 e1 h1 => ?_
    · have ham := List.mem_of_getElem? ha
      obtain ⟨w1, w2, _⟩ := I.wlt a ham
      exact ev_op (ev_ixL (eh_of (ev_fld (ev_var rfl) (e2 _ _ obk) (cl_Run W) (na_begins W) rfl) (e2 _ _ (eGk _ _ F.begins))) (ev_var rfl) (atI_nat (b_get w1))) (ev_meth (ev_fld (ev_var rfl) (e2 _ _ obk) (cl_Run W) (na_pattern W) rfl) (e2 _ _ r1) rfl (ea_cons (ev_var rfl) ea_nil) (offset_of_at (hRk.mono e2) F.ok.rule w2 (z4 a ham))) rv_I0
    have hvI : valI (st.wt.map fun q => (kI q.1, V.int (RS.slotOf S q))) (st.wt.map (RS.slotOf S)) := by
      unfold valI
      rw [List.map_map, List.map_map]
      rfl
    refine q_asg (ev_minV (eh_of (ev_var rfl) h1) hvI (by simpa using hne)) fun H2 e2 => ?_
    show tSeq _ _ _ ([some (.ref p), some (.ref ad), some (.int (RS.nextSlot S st)), none, none, none, none] : L2.St) H2
    unfold RS.adv at k
    generalize hn : RS.nextSlot S st = n at *
    have hst2 := (hst.mono e1).mono e2
    have eG2 := (eG.trans e1).trans e2
    refine q_asg (ev_meth (ev_var rfl) hst2.ob rfl (ea_cons (ev_var rfl) ea_nil) (failing_until_at F eG2 hst2)) fun H3 e3 => ?_
    have hst3 := hst2.mono e3
    have eG3 := eG2.trans e3
    have h3 := e3 _ _ (e2 _ _ h1)
    dsimp only at k
    refine s_if (b := decide (n < RS.failUntil S st.fr n)) (et_test (ev_op (ev_var rfl) (ev_var rfl) rv_I0)) (fun hb H4 e4 => ?_) fun hb H4 e4 => ?_
    · have hb := of_decide_eq_true hb
      rw [if_pos hb] at k
      have hst4 := hst3.mono e4
      refine s_methU (ev_var rfl) hst4.ob rfl (ea_cons (ev_var rfl) ea_nil) fun H5 e5 => ?_
      refine skip_to_at F ((eG3.trans e4).trans e5) (hst4.mono e5) I.wtn (by omega) (fun q hq => ⟨(I.wlt q hq).1, fun b hbt => ?_⟩) (fun H' g1 g2 => k H' g1 g2) E
      exact ⟨119 + st.sv.length, by omega, RS.until_reach F.ok I Z hT q.1 hb hbt⟩
    · have hb := of_decide_eq_false hb
      rw [if_neg hb] at k
      have hst4 := hst3.mono e4
      have eG4 := eG3.trans e4
      have hfr : st.fr ≤ n := by
        rcases RS.failUntil_spec I hT with ⟨_, g, _⟩ | ⟨g, _⟩
        · exact g
        · exact absurd g hb
      refine s_if (b := RS.repeated S M st.fr n) (et_B (ev_meth (ev_var rfl) hst4.ob rfl (ea_cons (ev_var rfl) ea_nil) (is_repeated_at F eG4 hst4 hM hfr))) (fun hr2 H5 e5 => ?_) fun hr2 H5 e5 => ?_
      · rw [if_pos hr2] at k
        have hst5 := hst4.mono e5
        obtain ⟨c0, hc0⟩ : ∃ c0, S.rule.tail = .rep c0 := by
          unfold RS.repeated RS.period at hr2
          cases e : S.rule.tail with
          | fin => rw [e] at hr2; cases hr2
          | tim b => rw [e] at hr2; cases hr2
          | rep c => exact ⟨c, rfl⟩
        refine s_methU (ev_var rfl) hst5.ob rfl (ea_cons (ev_var rfl) ea_nil) fun H6 e6 => ?_
        exact close_at F ((eG4.trans e5).trans e6) (hst5.mono e6) I.wtn (by omega) (by omega) (fun q hq => ⟨(I.wlt q hq).1, I.wcl q hq⟩) (fun d hd => (I.clt d hd).1) hc0 hM hfr (fun H' g1 g2 => k H' g1 g2) E
      · rw [if_neg (by rw [hr2]; decide)] at k
        have hst5 := hst4.mono e5
        have h5 := e5 _ _ (e4 _ _ h3)
        have key := en_lcI (K := K) (td := tVar 1) (tt := tTest (tOp rEq (tVar 6) (tVar 2))) (te := tVar 4) (j1 := 4) (j2 := 6) (vs := [4, 6]) (σ := [some (.ref p), some (.ref ad), some (.int n), some (.int (RS.failUntil S st.fr n)), none, none, none]) (H := H5) st.wt (fun q => q.1) (fun q => .int (RS.slotOf S q)) (fun q => decide (RS.slotOf S q = n)) (fun q => nV q.1) h5 rfl (by omega) (ev_var rfl) (fun _ _ => rfl)
          (fun i a H6 ha e6 => et_test (ev_op (ev_var rfl) (ev_var rfl) rv_eqI)) (fun i a H6 ha e6 _ => ev_var rfl)
        refine s_methU2 (ev_var rfl) hst5.ob rfl (ev_var rfl) key fun lc H6 hl6 e6 h6 => ?_
        refine decide_at F ((eG4.trans e5).trans e6) (hst5.mono e6) h6 I.wtn (by omega) (by omega) (by omega) (fun q hq => ⟨I.wsv q hq, (I.wlt q hq).2.1⟩) (fun d hd => ⟨(I.clt d hd).1, ?_⟩) ?_ (fun H' g1 g2 => k H' g1 g2) E
        · rw [← hps]
          exact adv_dist F.ok I Z hp0 d
        · intro z
          have : p0 ∈ RS.here S st n := RS.here_mem.mpr ⟨hp0, hps⟩
          rw [z] at this
          cases this
theorem advance_at {G H : Hp} {p : Addr} {S : RS.Scn} {M : List Int} {c : RC} {st : RS.Stt} {T : Int} (F : RunFix K G p S M c) (eG : Ex G H) (h : RunSt K H p c st) (I : RS.Inv S st T) (Z : RS.Sz S st) (hne : st.wt ≠ []) (hM : M.length ≤ 40000) {Q : VK} (k : RetU K G p c (RS.adv S M st) Q) (E : XK) : sp_U_advance K [.ref p] H Q E := ⟨p, G, S, M, c, st, T, rfl, F, eG, h, I, Z, hne, hM, k⟩
end RW
end

section
set_option autoImplicit false
namespace RS
/-! ### the start -/
def eqs (S : Scn) (x : Int) : List Nat := (List.range S.m).filter fun j => decide (S.b j = x)
def dup (S : Scn) (i : Nat) : Bool := decide (1 < (eqs S (S.b i)).length)
theorem zip_eqs (S : Scn) : (S.starts.zipIdx.map fun p => (p.2, p.1)) = (List.range S.m).map fun j => (j, S.b j) := by
  refine List.ext_getElem? fun i => ?_
  rw [List.getElem?_map, List.getElem?_map, List.getElem?_zipIdx]
  by_cases h : i < S.starts.length
  · rw [List.getElem?_range h, List.getElem?_eq_getElem h]
    unfold Scn.b
    simp [h]
  · rw [List.getElem?_eq_none (Nat.le_of_not_lt h), List.getElem?_eq_none (by rw [List.length_range]; exact Nat.le_of_not_lt h)]
    rfl
theorem eqs_mem {S : Scn} {x : Int} {j : Nat} : j ∈ eqs S x ↔ j < S.m ∧ S.b j = x := by
  unfold eqs
  rw [List.mem_filter, List.mem_range]
  simp
theorem eqs_nd (S : Scn) (x : Int) : (eqs S x).Nodup := List.nodup_range.filter _
theorem not_dup {S : Scn} {i d : Nat} (h : dup S i = false) (hi : i < S.m) (hd : d < S.m) (hne : d ≠ i) : S.b d ≠ S.b i := by
  intro e
  have h1 : i ∈ eqs S (S.b i) := eqs_mem.mpr ⟨hi, rfl⟩
  have h2 : d ∈ eqs S (S.b i) := eqs_mem.mpr ⟨hd, e⟩
  have h3 : ¬ (1 < (eqs S (S.b i)).length) := of_decide_eq_false h
  cases hl : eqs S (S.b i) with
  | nil => rw [hl] at h1; cases h1
  | cons a r =>
    rw [hl] at h1 h2 h3
    cases r with
    | nil =>
      simp at h1 h2
      omega
    | cons c t => exact absurd (by simp) h3
theorem is_dup {S : Scn} {i : Nat} (h : dup S i = true) : ∃ d, d < S.m ∧ d ≠ i ∧ S.b d = S.b i ∧ dup S d = true := by
  have h3 : 1 < (eqs S (S.b i)).length := of_decide_eq_true h
  have hn := eqs_nd S (S.b i)
  cases hl : eqs S (S.b i) with
  | nil => rw [hl] at h3; simp at h3
  | cons a r =>
    cases r with
    | nil => rw [hl] at h3; simp at h3
    | cons c t =>
      rw [hl, List.nodup_cons] at hn
      have hac : a ≠ c := fun z => hn.1 (by rw [z]; exact List.mem_cons_self ..)
      have ma : a ∈ eqs S (S.b i) := by rw [hl]; exact List.mem_cons_self ..
      have mc : c ∈ eqs S (S.b i) := by rw [hl]; exact List.mem_cons_of_mem _ (List.mem_cons_self ..)
      have q : ∀ d, d ∈ eqs S (S.b i) → d ≠ i → ∃ d, d < S.m ∧ d ≠ i ∧ S.b d = S.b i ∧ dup S d = true := fun d hd hne => by
        obtain ⟨g1, g2⟩ := eqs_mem.mp hd
        refine ⟨d, g1, hne, g2, ?_⟩
        unfold dup
        rw [g2]
        exact h
      by_cases z : a = i
      · exact q c mc fun y => hac (by omega)
      · exact q a ma z
def start (S : Scn) (M : List Int) (n : Nat) : Stt := ⟨[], (List.range n).filter (dup S), ((List.range n).filter fun i => !dup S i).map fun i => (i, 0), M.headD 0⟩
theorem mok_of {S : Scn} {M : List Int} (h : M.Perm (rawM S)) (hs : M.Pairwise (· ≤ ·)) : MOk S M := by
  refine ⟨fun x => h.mem_iff, fun x hx => ?_⟩
  cases M with
  | nil => cases hx
  | cons a r =>
    show a ≤ x
    rcases List.mem_cons.mp hx with e | e
    · omega
    · exact (List.pairwise_cons.mp hs).1 x e
theorem flat_len {α β : Type} {f : α → List β} {k : Nat} : ∀ {l : List α}, (∀ x ∈ l, (f x).length ≤ k) → (l.flatMap f).length ≤ l.length * k
  | [], _ => by simp
  | a :: r, h => by
    rw [List.flatMap_cons, List.length_append, List.length_cons]
    have h1 := h a (List.mem_cons_self ..)
    have h2 := flat_len fun x hx => h x (List.mem_cons_of_mem _ hx)
    rw [Nat.succ_mul]
    omega
theorem raw_len {S : Scn} (ok : S.Ok) : (rawM S).length ≤ 40000 := by
  unfold rawM
  rw [List.length_append, List.length_append]
  have h1 := flat_len (f := fun o : Int × Int => [o.1, o.2]) (k := 2) (l := S.outs) fun x _ => by simp
  have h2 := ok.ten
  have h3 := ok.ol
  have h4 := ok.rule.len
  have h6 : S.starts.length ≤ 10 := h2
  cases e : S.rule.tail with
  | fin =>
    show _ + _ + ([] : List Int).length ≤ _
    rw [List.length_nil]
    omega
  | tim b =>
    show _ + _ + ([] : List Int).length ≤ _
    rw [List.length_nil]
    omega
  | rep c =>
    show _ + _ + ((List.range S.m).flatMap fun i => listed S c i).length ≤ _
    have := flat_len (f := fun i => listed S c i) (k := 21) (l := List.range S.m) fun x _ => by
      unfold listed
      rw [List.length_map, List.length_range]
      have : S.rule.n ≤ 20 := h4
      omega
    rw [List.length_range] at this
    have : S.m * 21 ≤ 10 * 21 := Nat.mul_le_mul_right _ h2
    omega
theorem has0 (R : Rul) : hasB R 0 = true := by
  unfold hasB
  split
  · simp
  · rfl
theorem start_inv {S : Scn} {M : List Int} (ok : S.Ok) (mok : MOk S M) : Inv S (start S M S.m) (M.headD 0) := by
  have hT : ∀ c, c < S.m → M.headD 0 ≤ S.b c := fun c hc => mok.hd _ (mem_raw_start mok hc)
  have hw : ∀ p ∈ (start S M S.m).wt, p.1 < S.m ∧ dup S p.1 = false ∧ p.2 = 0 := fun p hp => by
    obtain ⟨i, hi, rfl⟩ := List.mem_map.mp hp
    obtain ⟨g1, g2⟩ := List.mem_filter.mp hi
    exact ⟨List.mem_range.mp g1, by simpa using g2, rfl⟩
  have hc : ∀ c, c ∈ (start S M S.m).cl ↔ c < S.m ∧ dup S c = true := fun c => by
    show c ∈ (List.range S.m).filter (dup S) ↔ _
    rw [List.mem_filter, List.mem_range]
  have hwf : (start S M S.m).wt.map (·.1) = (List.range S.m).filter fun i => !dup S i := by
    show (((List.range S.m).filter fun i => !dup S i).map fun i => (i, 0)).map (·.1) = _
    rw [List.map_map]
    exact List.map_id' _
  refine ⟨?_, fun p hp => ?_, fun p hp => rfl, fun p hp z => ?_, fun p hp d hd hne => not_dup (hw p hp).2.1 (hw p hp).1 hd hne, fun c hcc => ⟨((hc c).mp hcc).1, rfl⟩, ?_, fun c hcc s _ ha => ?_, fun c h1 h2 h3 _ s _ => ?_, fun c h1 s h2 h3 _ => ?_, fun c k t h => (by cases h), .inl (Int.le_refl _), List.nodup_nil⟩
  · rw [hwf]
    exact List.nodup_range.filter _
  · obtain ⟨g1, g2, g3⟩ := hw p hp
    refine ⟨g1, by rw [g3]; exact has0 _, ?_, fun j hj => by omega⟩
    show _ ≤ S.b p.1 + off S.rule p.2
    rw [g3, show off S.rule 0 = 0 from rfl]
    have := hT p.1 g1
    omega
  · have := ((hc p.1).mp z).2
    rw [(hw p hp).2.1] at this
    cases this
  · exact List.nodup_range.filter _
  · obtain ⟨g1, g2⟩ := (hc c).mp hcc
    obtain ⟨d, h1, h2, h3, h4⟩ := is_dup g2
    refine ⟨d, (hc d).mpr ⟨h1, h4⟩, h2, ?_⟩
    obtain ⟨k, h5, h6⟩ := ha
    exact ⟨k, h5, by rw [h3]; exact h6⟩
  · exfalso
    cases e : dup S c with
    | true => exact h2 ((hc c).mpr ⟨h1, e⟩)
    | false =>
      refine h3 ?_
      rw [hwf]
      exact List.mem_filter.mpr ⟨List.mem_range.mpr h1, by rw [e]; rfl⟩
  · exfalso
    obtain ⟨k, _, e⟩ := h3
    have := hT c h1
    have := off_nonneg ok.rule k
    omega
theorem start_sz {S : Scn} {M : List Int} : Sz S (start S M S.m) := fun b _ => ⟨fun p hp => by
  obtain ⟨i, hi, rfl⟩ := List.mem_map.mp hp
  exact Nat.zero_le _, fun x hx => by cases hx⟩
theorem start_succ (S : Scn) (M : List Int) (n : Nat) : start S M (n + 1) = if dup S n = true then { start S M n with cl := (start S M n).cl ++ [n] } else { start S M n with wt := (start S M n).wt ++ [(n, 0)] } := by
  unfold start
  rw [List.range_succ, List.filter_append, List.filter_append, List.map_append]
  cases h : dup S n with
  | true => simp [h]
  | false => simp [h]
end RS
end

section
set_option autoImplicit false
namespace RS
/-! ### is there an attempt? -/
theorem has_stop {R : Rul} (ok : R.Ok) {d : Int} {m : Nat} (hno : ∀ j, j < m → off R j ≠ d) (h : d ≤ off R m ∨ ∀ k, hasB R k = true → k ≤ m) (hb : hasB R m = true) : (atr R d).isSome = decide (off R m = d) := by
  by_cases z : off R m = d
  · rw [decide_eq_true z]
    exact (atr_isSome ok).mpr ⟨m, hb, z⟩
  · rw [decide_eq_false z]
    cases e : (atr R d).isSome with
    | false => rfl
    | true =>
      exfalso
      obtain ⟨k, h1, h2⟩ := (atr_isSome ok).mp e
      have hk : m ≤ k := by
        apply Decidable.byContradiction
        intro q
        exact hno k (by omega) h2
      rcases h with h | h
      · have := off_le ok hk
        omega
      · have := h k h1
        have : k = m := by omega
        rw [this] at h2
        exact z h2
theorem has_hit {R : Rul} (ok : R.Ok) {d : Int} {m : Nat} (hb : hasB R m = true) (z : off R m = d) : (atr R d).isSome = true := (atr_isSome ok).mpr ⟨m, hb, z⟩
theorem has_rep {R : Rul} (ok : R.Ok) {d : Int} {c : Nat} (h : R.tail = .rep c) (hd : off R R.n < d) : (atr R d).isSome = true ↔ ∃ j, j < c ∧ off R (R.n - c + j) - off R (R.n - c) = (d - off R R.n) % per R c := by
  obtain ⟨c1, c2⟩ := ok.rep c h
  have pp := per_pos ok h
  have hper : per R c = off R R.n - off R (R.n - c) := rfl
  have part : ∀ j, j < c → 0 ≤ off R (R.n - c + j) - off R (R.n - c) ∧ off R (R.n - c + j) - off R (R.n - c) < per R c := fun j hj => by
    have h1 := off_le ok (show R.n - c ≤ R.n - c + j by omega)
    have h2 := off_lt ok (show R.n - c + j < R.n by omega)
    omega
  rw [atr_isSome ok]
  constructor
  · rintro ⟨k, _, e⟩
    have hk : R.n < k := lt_of_off ok (by omega)
    have hdm := Nat.div_add_mod (k - (R.n - c)) c
    have hml := Nat.mod_lt (k - (R.n - c)) (show 0 < c by omega)
    generalize hq : (k - (R.n - c)) / c = q at *
    generalize hj : (k - (R.n - c)) % c = j at *
    have hq1 : 1 ≤ q := by
      cases q with
      | zero => omega
      | succ q => omega
    have hkk : k = R.n - c + j + q * c := by
      rw [Nat.mul_comm q c]
      omega
    have o := off_reps h c1 c2 (show R.n - c ≤ R.n - c + j by omega) q
    rw [← hkk] at o
    refine ⟨j, hml, ?_⟩
    have hD : d - off R R.n = (off R (R.n - c + j) - off R (R.n - c)) + ((q : Int) - 1) * per R c := by
      rw [Int.sub_mul, Int.one_mul]
      omega
    rw [hD, Int.add_mul_emod_self_right, Int.emod_eq_of_lt (part j hml).1 (part j hml).2]
  · rintro ⟨j, hj, e⟩
    have hDm := Int.mul_ediv_add_emod (d - off R R.n) (per R c)
    have hq0 : 0 ≤ (d - off R R.n) / per R c := Int.ediv_nonneg (by omega) (by omega)
    generalize hq : (d - off R R.n) / per R c = q at *
    have o := off_reps h c1 c2 (show R.n - c ≤ R.n - c + j by omega) (q.toNat + 1)
    refine ⟨R.n - c + j + (q.toNat + 1) * c, ?_, ?_⟩
    · unfold hasB
      rw [h]
    · rw [o]
      have e1 : ((q.toNat + 1 : Nat) : Int) = q + 1 := by omega
      rw [e1, Int.add_mul, Int.one_mul, Int.mul_comm q]
      omega
theorem gapAt_lt {R : Rul} {k : Nat} (h : k < R.n) : gapAt R k = R.gaps.getD k 1 := by
  unfold gapAt
  rw [if_pos h]
theorem drop_sum {R : Rul} : ∀ (m i : Nat), i + m = R.n → (R.gaps.drop i).sum = off R R.n - off R i
  | 0, i, h => by
    rw [List.drop_eq_nil_of_le (show R.gaps.length ≤ i from Nat.le_of_eq h.symm)]
    rw [show i = R.n by omega]
    simp
  | m + 1, i, h => by
    have hi : i < R.gaps.length := by
      show i < R.n
      omega
    rw [List.drop_eq_getElem_cons hi, List.sum_cons, drop_sum m (i + 1) (by omega), off_succ, gapAt_lt hi]
    simp [hi]
    omega
theorem drop_get {R : Rul} {c j : Nat} (hj : R.n - c + j < R.n) : (R.gaps.drop (R.n - c))[j]? = some (gapAt R (R.n - c + j)) := by
  rw [List.getElem?_drop, gapAt_lt hj]
  have h : R.n - c + j < R.gaps.length := hj
  rw [List.getElem?_eq_getElem h]
  simp [h]
theorem off_small {R : Rul} (ok : R.Ok) : ∀ {k : Nat}, k ≤ R.n → off R k ≤ (k : Int) * 1000000000000
  | 0, _ => by simp [off]
  | k + 1, h => by
    have h1 := off_small ok (show k ≤ R.n by omega)
    have h2 := (ok.gap k).2
    rw [off_succ, gapAt_lt (by omega)]
    rw [show ((k + 1 : Nat) : Int) = (k : Int) + 1 by omega, Int.add_mul]
    omega
theorem mem_of_lookup {α : Type} {d : Nat} {x : α} : ∀ {l : List (Nat × α)}, l.lookup d = some x → (d, x) ∈ l
  | [], h => by cases h
  | (a, y) :: r, h => by
    rw [List.lookup_cons] at h
    by_cases z : d = a
    · subst z
      simp at h
      subst h
      exact List.mem_cons_self ..
    · rw [beq_false_of_ne z] at h
      exact List.mem_cons_of_mem _ (mem_of_lookup h)
/-! ### sizes, where a rule repeats -/
def SzR (S : Scn) (st : Stt) : Prop := ∀ c, S.rule.tail = .rep c → st.fr ≤ 2 ^ 98 + (st.sv.length : Int) * 2 ^ 50 ∧ ∀ x ∈ st.sv, x.2.2 ≤ 2 ^ 98 + (st.sv.length : Int) * 2 ^ 50
theorem raw_le {S : Scn} {M : List Int} (ok : S.Ok) (mok : MOk S M) {x : Int} (hx : x ∈ M) : x ≤ 2 ^ 98 := by
  rw [mok.mem] at hx
  unfold rawM at hx
  rcases List.mem_append.mp hx with h | h
  · rcases List.mem_append.mp h with h | h
    · have := (ok.sts x h).2
      omega
    · obtain ⟨o, ho, h⟩ := List.mem_flatMap.mp h
      obtain ⟨h1, h2⟩ := ok.outs o ho
      have : x = o.1 ∨ x = o.2 := by simpa using h
      rcases this with e | e <;> omega
  · cases e : S.rule.tail with
    | fin => rw [e] at h; cases h
    | tim b => rw [e] at h; cases h
    | rep c =>
      rw [e] at h
      obtain ⟨i, _, h⟩ := List.mem_flatMap.mp h
      unfold listed at h
      obtain ⟨k, hk, rfl⟩ := List.mem_map.mp h
      have hk := List.mem_range.mp hk
      obtain ⟨c1, c2⟩ := ok.rule.rep c e
      have h1 := off_small ok.rule (show k ≤ S.rule.n by omega)
      have h2 := (ok.b i).2
      have h3 : S.rule.n ≤ 20 := ok.rule.len
      have h4 : (k : Int) * 1000000000000 ≤ 20 * 1000000000000 := by
        have : (k : Int) ≤ 20 := by omega
        omega
      omega
theorem start_szr {S : Scn} {M : List Int} (ok : S.Ok) (mok : MOk S M) : SzR S (start S M S.m) := fun c _ => by
  refine ⟨?_, fun x hx => by cases hx⟩
  show M.headD 0 ≤ _
  have h1 := mok.hd _ (mem_raw_start mok (c := 0) ok.one)
  have h2 := (ok.b 0).2
  have h3 : ((start S M S.m).sv.length : Int) = 0 := rfl
  rw [h3]
  omega
theorem adv_szr {S : Scn} {st : Stt} {T : Int} {M : List Int} (ok : S.Ok) (mok : MOk S M) (I : Inv S st T) (hne : st.wt ≠ []) (Z : SzR S st) : SzR S (adv S M st) := by
  obtain ⟨⟨p, hp, hps⟩, hmin⟩ := next_spec (S := S) hne
  have hT : T ≤ nextSlot S st := by rw [← hps]; exact (I.wlt p hp).2.2.1
  unfold adv
  generalize nextSlot S st = s at *
  dsimp only
  rcases failUntil_spec I hT with ⟨e, hfr, _⟩ | ⟨he, _⟩
  · rw [e, if_neg (by omega)]
    by_cases hr : repeated S M st.fr s = true
    · rw [if_pos hr]
      exact fun c hc => Z c hc
    · rw [if_neg hr]
      unfold decideAt
      split
      · intro c hc
        obtain ⟨z1, z2⟩ := Z c hc
        obtain ⟨l1, l2, l3, l4⟩ := latest_spec (M := M) hfr
        have hs : ¬ per S.rule c < s - latest M st.fr s := fun z => by
          apply hr
          unfold repeated period
          rw [hc]
          exact decide_eq_true z
        have hl : latest M st.fr s ≤ 2 ^ 98 + (st.sv.length : Int) * 2 ^ 50 := by
          rcases l2 with h | h
          · have := raw_le ok mok h
            omega
          · omega
        have hper : per S.rule c ≤ 20 * 1000000000000 := by
          have h1 := off_small ok.rule (Nat.le_refl S.rule.n)
          have h2 := off_nonneg ok.rule (S.rule.n - c)
          have h3 : S.rule.n ≤ 20 := ok.rule.len
          have h4 : per S.rule c = off S.rule S.rule.n - off S.rule (S.rule.n - c) := rfl
          have : (S.rule.n : Int) * 1000000000000 ≤ 20 * 1000000000000 := by omega
          omega
        have hlen := ok.len.2
        have e1 : ∀ (a : Nat × (Nat × Int)), ((st.sv ++ [a]).length : Int) = (st.sv.length : Int) + 1 := fun a => by simp
        rw [e1]
        refine ⟨?_, fun x hx => ?_⟩
        · show s + S.len ≤ _
          omega
        · rcases List.mem_append.mp hx with h | h
          · have := z2 x h
            omega
          · have := List.mem_singleton.mp h
            subst this
            show s ≤ _
            omega
      · exact fun c hc => Z c hc
  · rw [if_pos he]
    exact fun c hc => Z c hc
/-- the services' attempts are of moderate size -/
structure KB (S : Scn) (sv : List (Nat × (Nat × Int))) : Prop where
  big : ∀ c k t, sv.lookup c = some (k, t) → (k : Int) ≤ 2 ^ 110
  tim : ∀ c k t, sv.lookup c = some (k, t) → ∀ b, S.rule.tail = .tim b → k ≤ 1000
theorem kb_of {S : Scn} {st : Stt} {T : Int} (ok : S.Ok) (I : Inv S st T) (Z : Sz S st) (Y : SzR S st) : KB S st.sv := by
  have hl := sv_len I
  have h10 := ok.ten
  have ht : ∀ c k t, st.sv.lookup c = some (k, t) → ∀ b, S.rule.tail = .tim b → k ≤ 1000 := fun c k t h b hb => by
    have := (Z b hb).2 _ (mem_of_lookup h)
    have : k ≤ 118 + st.sv.length := this
    omega
  refine ⟨fun c k t h => ?_, ht⟩
  obtain ⟨h1, h2, h3, _⟩ := I.svd c k t h
  cases e : S.rule.tail with
  | fin =>
    unfold hasB at h2
    rw [e] at h2
    have := of_decide_eq_true h2
    have : S.rule.n ≤ 20 := ok.rule.len
    omega
  | tim b =>
    have := ht c k t h b e
    omega
  | rep c0 =>
    have g := (Y c0 e).2 _ (mem_of_lookup h)
    have g : t ≤ 2 ^ 98 + (st.sv.length : Int) * 2 ^ 50 := g
    have := off_ge ok.rule k
    have := (ok.b c).1
    omega
end RS
end

section
set_option Elab.async false
set_option linter.all false
set_option maxRecDepth 100000
set_option maxHeartbeats 4000000
namespace RW
open PySem L2 Evl
variable {P : Program} {w : World} {K : PySem.W.Frag} {mg : Str → Option Value} {base : Heap}
section
variable {σ : L2.St} {H H' : Hp} {D : L2.Ends} {tz : TS} {ta td tv : TE} {o : HO} {p : Addr}
theorem hide_next (e : Ex H H') : Ex (hide H p) (hide (upd H' p o) p) := fun b u h => by
  by_cases z : b = p
  · rw [z, hide_no] at h
    cases h
  · have h1 : H b = some u := hide_ex _ _ h
    exact hide_at (by rw [upd_ne z]; exact e _ _ h1) z
theorem q_fldP {Pr : Addr → Hp → Prop} {a C dx : Addr} {fs : List (Str × V)} {f : Str} (hv : ∀ Q : VK, (∀ r H2, Ex H H2 → Pr r H2 → Q (.ref r) H2) → tv σ H Q) (ha : Ev ta σ H (.ref a)) (ho : H a = some (.ins C dx fs)) (c : Cls K C) (n : NoAttr K C f) (hl : fs.length < 1000)
    (k : ∀ r H1 H2, Ex H H1 → Pr r H1 → Ex H1 H2 → tz D σ (upd H2 a (.ins C dx (putF f (.ref r) fs)))) : tSeq (sFld K ta tv f) tz D σ H :=
  hv _ fun r H1 e1 h1 => ha H1 e1 _ fun H2 e2 => ⟨a, C, dx, fs, rfl, e2 _ _ (e1 _ _ ho), c, n, hl, k r H1 H2 e1 h1 e2⟩
theorem en_dnew : EvN tDNewK σ H (.dK []) := fun H1 _ Q q => fun a ha => q a _ ha (Ex.new ha) upd_same
/-- d != {} -/
theorem ev_neE {ks : List (Key × V)} (h : EvH td σ H (.dK ks)) : Ev (tOp rNeE td tDNewK) σ H (.bl (!ks.isEmpty)) := fun H1 e Q q =>
  h H1 e _ fun a H2 e2 h2 => en_dnew H2 (Ex.refl H2) _ fun b H3 _ e3 h3 => ⟨a, b, ks, rfl, rfl, e3 _ _ h2, h3, q H3 (e2.trans e3)⟩
end
def RunAt (K : PySem.W.Frag) (H : Hp) (p : Addr) (S : RS.Scn) (st : RS.Stt) : Prop := ∃ c : RC, H p = some (.ins (He.ga K "Run") c.dx (flU c st.fr)) ∧ SceneAt K H c.sc S ∧ RuleAt K H c.r S.rule ∧ H c.b = some (.lst (S.starts.map V.int)) ∧ ∃ ks, H c.sv = some (.dK ks) ∧ SvAt H ks st.sv
theorem RunAt.mono {H H' : Hp} {p : Addr} {S : RS.Scn} {st : RS.Stt} (e : Ex H H') (h : RunAt K H p S st) : RunAt K H' p S st := by
  obtain ⟨c, h1, h2, h3, h4, ks, h5, h6⟩ := h
  exact ⟨c, e _ _ h1, h2.mono e, h3.mono e, e _ _ h4, ks, e _ _ h5, h6.mono e⟩
theorem sc_U_init : FnScope ["self", "scene", "client", "start", "equal", "other", "its_start"] ["self", "scene"] (defScope s_U_init) := ⟨rfl, rfl, rfl, by decide +kernel, rfl, by decide +kernel, by decide +kernel⟩
def sp_U_init (K : PySem.W.Frag) : Sp := fun vs H Q _ => ∃ (p dx sc : Addr) (G : Hp) (S : RS.Scn), vs = [.ref p, .ref sc] ∧ H p = some (.ins (He.ga K "Run") dx []) ∧ G p = none ∧ Ex G H ∧ SceneAt K G sc S ∧ S.Ok ∧
  ∀ H' st, Ex G H' → RunAt K H' p S st → RS.Good S st.sv → RS.KB S st.sv → st.sv.length ≤ 10 → Q .non H'
theorem ok_U_init (W : Wd K mg) : FnOk P w K mg base CX0 7 (a_U_init K) (f_U_init K) ["self", "scene"] (sp_U_init K) := by
  refine (F_U_init W).ok sc_U_init (fun vs H Q E h => ?_) (fun cdv A outer s H vs Q E hr h => ?_)
  · obtain ⟨p, dx, sc, G, S, rfl, _⟩ := h
    rfl
  · obtain ⟨p, dx, sc, G, S, rfl, hp, np, eG, hS, ok, k⟩ := h
    have hu := units1 hr
    refine ⟨_, PSs.nox (pss_cons (ps_if (pt_not (pt_val (pe_callB call_isi (by rfl) (n_isinstance W) (by decide +kernel) (pa_cons (pv 1) (pa_cons (pe_glob (v := .ref (He.ga K "Scene")) (by rfl) (g_Scene W) rfl) pa_nil))))) (pss_one ps_never) pss_nil)
    (pss_cons (ps_fld (pv 0) (pv 1) rfl)
    (pss_cons (ps_fld (pv 0) (pe_meth0 (pv 1) (cl_Scene W) (m_S_rule W) (ok_S_rule W) (hr.mono (by decide)) (b_S_rule W) .nil pass0) rfl)
    (pss_cons (ps_fld (pv 0) (pe_meth0 (pv 1) (cl_Scene W) (m_S_starts W) (ok_S_starts W) (hr.mono (by decide)) (b_S_starts W) .nil pass0) rfl)
    (pss_cons (ps_fld (pv 0) (pe_meth0 (pv 1) (cl_Scene W) (m_S_moments W) (ok_S_moments W) (hr.mono (by decide)) (b_S_moments W) .nil pass0) rfl)
    (pss_cons (ps_fld (pv 0) pe_dnewK rfl)
    (pss_cons (ps_fld (pv 0) pe_dnewK rfl)
    (pss_cons (ps_fld (pv 0) pe_dnewK rfl)
    (pss_cons (ps_fld (pv 0) (pe_ix ix_list (pe_fld (pv 0) rfl) pe_int (fun _ _ => rfl)) rfl)
    (pss_cons (ps_for PassesOwn.never rfl (pi_enum (by rfl) (n_enumerate W) (pa_cons (pe_fld (pv 0) rfl) pa_nil)) (pg_tup rfl (pgs_cons (pg_name (i := 2) sc_U_init.nd rfl (Or.inl rfl)) (pgs_cons (pg_name (i := 3) sc_U_init.nd rfl (Or.inr rfl)) pgs_nil))) (pss_cons (ps_setLc (i := 4) (own := [("other", 5), ("its_start", 6)]) rfl sc_U_init.nd rfl rfl (sw_true rfl rfl rfl (by decide +kernel)) (pi_enum (by rfl) (n_enumerate W) (pa_cons (pe_fld (pv 0) rfl) pa_nil)) (blkOk_by (N := ["self", "scene", "client", "start", "equal", "other", "its_start"]) (sc := defScope s_U_init) (by decide +kernel)) (fun _ _ _ _ _ => (gtupK (K := K) (n := 2) rfl (pgs_cons (pg_name (i := 5) sc_U_init.nd rfl (Or.inl rfl)) (pgs_cons (pg_name (i := 6) sc_U_init.nd rfl (Or.inl rfl)) pgs_nil)))) (fun _ _ _ _ _ => (pts_one (pt_cmpR op_eq (pv 6) (pv 3) (nomark _)))) (fun _ _ _ _ _ => (pv 5)))
      (pss_one (ps_if (pt_cmpR op_gt (pe_callB call_len_seq (by rfl) (n_len W) (by decide +kernel) (pa_cons (pv 4) pa_nil)) pe_int (nomark _)) (pss_one (ps_dput hu (pe_fld (pv 0) rfl) (pv 2) (pe_tup (pa_cons (pv 3) (pa_cons (pv 4) pa_nil))) rfl)) (pss_one (ps_dput hu (pe_fld (pv 0) rfl) (pv 2) pe_int rfl))))))
    (pss_one (ps_while PassesOwn.never (pt_cmpR (op_neE hr.units0) (pe_fld (pv 0) rfl) pe_dnewK (nomark _)) (pss_one (ps_expr (pe_meth0 (pv 0) (cl_Run W) (m_U_advance W) (ok_U_advance W) (hr.mono (by decide)) (b_U_advance W) .nil pass0))))))))))))))), ?_⟩
    have tn := ok.ten
    have tn' : S.starts.length ≤ 10 := tn
    refine q_when (b := false) (et_not (a := true) (et_B (ev_cb (ea_cons (ev_var rfl) (ea_cons ev_c ea_nil)) (rc_isi (.own _) (fun H1 e1 => tyScene W ((hS.mono eG).mono e1)) (kit_same K _))))) (fun z => by cases z) fun _ H1 e1 => ?_
    -- its_scene
    refine q_fld (ev_var rfl) (ev_var rfl) (e1 _ _ hp) (cl_Run W) (na_its_scene W) (show (0 : Nat) < 1000 by decide) fun H2 e2 => ?_
    obtain ⟨A1, hA1⟩ : ∃ A1, A1 = upd H2 p (.ins (He.ga K "Run") dx (putF "its_scene" (.ref sc) [])) := ⟨_, rfl⟩
    rw [← hA1]
    have p1 : A1 p = some (.ins (He.ga K "Run") dx (putF "its_scene" (.ref sc) [])) := by rw [hA1]; exact upd_same
    have x1 : Ex G A1 := by rw [hA1]; exact ((eG.trans e1).trans e2).mut np
    clear hA1
    have hS1 := hS.mono x1
    obtain ⟨dxs, rs, ls, ts, ws, s1, _⟩ := id hS1
    -- pattern
    refine q_fldP (Pr := fun r H => RuleAt K H r S.rule) (fun Q q => ev_go (ev_var rfl) fun H3 e3 => ⟨sc, dxs, _, rfl, e3 _ _ s1, rfl, sc, S, rfl, hS1.mono e3, fun r H4 e4 h4 => q r H4 (e3.trans e4) h4⟩) (ev_var rfl) p1 (cl_Run W) (na_pattern W) (show (1 : Nat) < 1000 by decide) fun r H3 H4 e3 hR3 e4 => ?_
    obtain ⟨A2, hA2⟩ : ∃ A2, A2 = upd H4 p (.ins (He.ga K "Run") dx (putF "pattern" (.ref r) (putF "its_scene" (.ref sc) []))) := ⟨_, rfl⟩
    rw [← hA2]
    have p2 : A2 p = some (.ins (He.ga K "Run") dx (putF "pattern" (.ref r) (putF "its_scene" (.ref sc) []))) := by rw [hA2]; exact upd_same
    have x2 : Ex G A2 := by rw [hA2]; exact ((x1.trans e3).trans e4).mut np
    have hR2 : RuleAt K (hide A2 p) r S.rule := by
      refine RuleAt.but hR3 (e3 _ _ p1) ?_ fun b o hb hne => hide_at (by rw [hA2, upd_ne hne]; exact e4 _ _ hb) hne
      intro z
      obtain ⟨dr, l', t', s', r1, _⟩ := hR3
      rw [z, e3 _ _ p1] at r1
      have h := congrArg List.length (HO.ins.inj (Option.some.inj r1)).2.2
      exact absurd (show (1 : Nat) = 3 from h) (by decide)
    clear hA2
    have hS2 := hS.mono x2
    obtain ⟨dxs, rs, ls, ts, ws, s2, _⟩ := id hS2
    -- begins
    refine q_fldN (en_meth (ev_var rfl) s2 rfl ea_nil (starts_at hS2)) (ev_var rfl) p2 (cl_Run W) (na_begins W) (show (2 : Nat) < 1000 by decide) fun b H5 hb5 e5 h5 => ?_
    have bp : b ≠ p := by
      intro z
      rw [z, p2] at hb5
      cases hb5
    obtain ⟨A3, hA3⟩ : ∃ A3, A3 = upd H5 p (.ins (He.ga K "Run") dx (putF "begins" (.ref b) (putF "pattern" (.ref r) (putF "its_scene" (.ref sc) [])))) := ⟨_, rfl⟩
    rw [← hA3]
    have p3 : A3 p = some (.ins (He.ga K "Run") dx (putF "begins" (.ref b) (putF "pattern" (.ref r) (putF "its_scene" (.ref sc) [])))) := by rw [hA3]; exact upd_same
    have x3 : Ex G A3 := by rw [hA3]; exact (x2.trans e5).mut np
    have y3 : Ex (hide A2 p) (hide A3 p) := by rw [hA3]; exact hide_next e5
    have b3 : hide A3 p b = some (.lst (S.starts.map V.int)) := hide_at (by rw [hA3, upd_ne bp]; exact h5) bp
    clear hA3
    have hS3 := hS.mono x3
    obtain ⟨dxs, rs, ls, ts, ws, s3, _⟩ := id hS3
    -- changes
    refine q_fldP (Pr := fun a H => ∃ M : List Int, M.Perm (RS.rawM S) ∧ M.Pairwise (· ≤ ·) ∧ H a = some (.lst (M.map V.int))) (fun Q q => ev_go (ev_var rfl) fun H6 e6 => ⟨sc, dxs, _, rfl, e6 _ _ s3, rfl, moments_at (hS3.mono e6) ok (Ex.refl H6) (fun M a H7 g1 g2 g3 g4 g5 => q a H7 (e6.trans g4) ⟨M, g1, g2, g5⟩) E⟩) (ev_var rfl) p3 (cl_Run W) (na_changes W) (show (3 : Nat) < 1000 by decide) fun ch H6 H7 e6 hM e7 => ?_
    obtain ⟨M, m1, m2, m3⟩ := hM
    have cp : ch ≠ p := ne_of m3 (e6 _ _ p3) (by intro z; cases z)
    obtain ⟨A4, hA4⟩ : ∃ A4, A4 = upd H7 p (.ins (He.ga K "Run") dx (putF "changes" (.ref ch) (putF "begins" (.ref b) (putF "pattern" (.ref r) (putF "its_scene" (.ref sc) []))))) := ⟨_, rfl⟩
    rw [← hA4]
    have p4 : A4 p = some (.ins (He.ga K "Run") dx (putF "changes" (.ref ch) (putF "begins" (.ref b) (putF "pattern" (.ref r) (putF "its_scene" (.ref sc) []))))) := by rw [hA4]; exact upd_same
    have x4 : Ex G A4 := by rw [hA4]; exact ((x3.trans e6).trans e7).mut np
    have y4 : Ex (hide A3 p) (hide A4 p) := by rw [hA4]; exact hide_next (e6.trans e7)
    have c4 : hide A4 p ch = some (.lst (M.map V.int)) := hide_at (by rw [hA4, upd_ne cp]; exact e7 _ _ m3) cp
    clear hA4
    obtain ⟨G4, hG4⟩ : ∃ G4, G4 = hide A4 p := ⟨_, rfl⟩
    have mok := RS.mok_of m1 m2
    have hMl : M.length ≤ 40000 := by rw [m1.length_eq]; exact RS.raw_len ok
    -- the dicts
    have o4 : Ex G4 A4 := by rw [hG4]; exact hide_ex
    have n4 : G4 p = none := by rw [hG4]; exact hide_no
    refine q_fldN en_dnew (ev_var rfl) p4 (cl_Run W) (na_services W) (show (4 : Nat) < 1000 by decide) fun sv H8 hsv8 e8 h8 => ?_
    have svp : sv ≠ p := by intro z; rw [z, p4] at hsv8; cases hsv8
    have nsv : G4 sv = none := fresh_back o4 hsv8
    obtain ⟨A5, hA5⟩ : ∃ A5, A5 = upd H8 p (.ins (He.ga K "Run") dx (putF "services" (.ref sv) (putF "changes" (.ref ch) (putF "begins" (.ref b) (putF "pattern" (.ref r) (putF "its_scene" (.ref sc) [])))))) := ⟨_, rfl⟩
    rw [← hA5]
    have p5 : A5 p = some (.ins (He.ga K "Run") dx (putF "services" (.ref sv) (putF "changes" (.ref ch) (putF "begins" (.ref b) (putF "pattern" (.ref r) (putF "its_scene" (.ref sc) [])))))) := by rw [hA5]; exact upd_same
    have o5 : Ex G4 A5 := by rw [hA5]; exact (o4.trans e8).mut n4
    have v5 : A5 sv = some (.dK []) := by rw [hA5, upd_ne svp]; exact h8
    clear hA5
    refine q_fldN en_dnew (ev_var rfl) p5 (cl_Run W) (na_closed W) (show (5 : Nat) < 1000 by decide) fun cl H9 hcl9 e9 h9 => ?_
    have clp : cl ≠ p := by intro z; rw [z, p5] at hcl9; cases hcl9
    have clsv : sv ≠ cl := by intro z; rw [← z, v5] at hcl9; cases hcl9
    have ncl : G4 cl = none := fresh_back o5 hcl9
    obtain ⟨A6, hA6⟩ : ∃ A6, A6 = upd H9 p (.ins (He.ga K "Run") dx (putF "closed" (.ref cl) (putF "services" (.ref sv) (putF "changes" (.ref ch) (putF "begins" (.ref b) (putF "pattern" (.ref r) (putF "its_scene" (.ref sc) []))))))) := ⟨_, rfl⟩
    rw [← hA6]
    have p6 : A6 p = some (.ins (He.ga K "Run") dx (putF "closed" (.ref cl) (putF "services" (.ref sv) (putF "changes" (.ref ch) (putF "begins" (.ref b) (putF "pattern" (.ref r) (putF "its_scene" (.ref sc) []))))))) := by rw [hA6]; exact upd_same
    have o6 : Ex G4 A6 := by rw [hA6]; exact (o5.trans e9).mut n4
    have v6 : A6 sv = some (.dK []) := by rw [hA6, upd_ne svp]; exact e9 _ _ v5
    have l6 : A6 cl = some (.dK []) := by rw [hA6, upd_ne clp]; exact h9
    clear hA6
    refine q_fldN en_dnew (ev_var rfl) p6 (cl_Run W) (na_waiting W) (show (6 : Nat) < 1000 by decide) fun wt H10 hwt10 e10 h10 => ?_
    have wtp : wt ≠ p := by intro z; rw [z, p6] at hwt10; cases hwt10
    have wtsv : sv ≠ wt := by intro z; rw [← z, v6] at hwt10; cases hwt10
    have wtcl : cl ≠ wt := by intro z; rw [← z, l6] at hwt10; cases hwt10
    have nwt : G4 wt = none := fresh_back o6 hwt10
    obtain ⟨A7, hA7⟩ : ∃ A7, A7 = upd H10 p (.ins (He.ga K "Run") dx (putF "waiting" (.ref wt) (putF "closed" (.ref cl) (putF "services" (.ref sv) (putF "changes" (.ref ch) (putF "begins" (.ref b) (putF "pattern" (.ref r) (putF "its_scene" (.ref sc) [])))))))) := ⟨_, rfl⟩
    rw [← hA7]
    have p7 : A7 p = some (.ins (He.ga K "Run") dx (putF "waiting" (.ref wt) (putF "closed" (.ref cl) (putF "services" (.ref sv) (putF "changes" (.ref ch) (putF "begins" (.ref b) (putF "pattern" (.ref r) (putF "its_scene" (.ref sc) [])))))))) := by rw [hA7]; exact upd_same
    have o7 : Ex G4 A7 := by rw [hA7]; exact (o6.trans e10).mut n4
    have v7 : A7 sv = some (.dK []) := by rw [hA7, upd_ne svp]; exact e10 _ _ v6
    have l7 : A7 cl = some (.dK []) := by rw [hA7, upd_ne clp]; exact e10 _ _ l6
    have w7 : A7 wt = some (.dK []) := by rw [hA7, upd_ne wtp]; exact h10
    clear hA7
    have hm0 : atI (M.map V.int) 0 = some (.int (M.headD 0)) := by
      cases M with
      | nil =>
        have := RS.mem_raw_start mok (c := 0) ok.one
        cases this
      | cons a r =>
        show atI _ ((0 : Nat) : Int) = _
        exact atI_nat rfl
    obtain ⟨c, hc⟩ : ∃ c : RC, c = ⟨dx, sc, r, b, ch, sv, cl, wt⟩ := ⟨_, rfl⟩
    refine q_fld (ev_ixL (eh_of (ev_fld (ev_var rfl) p7 (cl_Run W) (na_changes W) rfl) (o7 _ _ (by rw [hG4]; exact c4))) ev_c hm0) (ev_var rfl) p7 (cl_Run W) (na_free_from W) (show (7 : Nat) < 1000 by decide) fun H11 e11 => ?_
    have F : RunFix K G4 p S M c := by
      rw [hc]
      exact ⟨ok, n4, nsv, ncl, nwt, clsv, wtsv, wtcl, hS.mono (by rw [hG4]; exact ex_hide x4 np), (hR2.mono y3).mono (by rw [hG4]; exact y4), by rw [hG4]; exact y4 _ _ b3, by rw [hG4]; exact c4, mok⟩
    obtain ⟨A8, hA8⟩ : ∃ A8, A8 = upd H11 p (.ins (He.ga K "Run") c.dx (flU c (M.headD 0))) := ⟨_, rfl⟩
    have hst : RunSt K A8 p c (RS.start S M 0) := by
      rw [hA8, hc]
      exact ⟨upd_same, by rw [upd_ne wtp]; exact e11 _ _ w7, ⟨[], by rw [upd_ne clp]; exact e11 _ _ l7, rfl⟩, ⟨[], by rw [upd_ne svp]; exact e11 _ _ v7, rfl, fun i q hq => by cases hq⟩⟩
    have o8 : Ex G4 A8 := by rw [hA8]; exact (o7.trans e11).mut n4
    have tA : ∀ {t : TS} {D : L2.Ends} {σ : L2.St}, t D σ A8 → t D σ (upd H11 p (.ins (He.ga K "Run") dx (flU c (M.headD 0)))) := fun h => by
      rw [hA8, hc] at h
      rw [hc]
      exact h
    rw [hc] at tA
    refine tA ?_
    have xG : Ex G G4 := by rw [hG4]; exact ex_hide x4 np
    clear hA8 tA
    refine ev_go (ev_fld (ev_var rfl) hst.ob (cl_Run W) (na_begins W) rfl) fun H12 e12 => ?_
    refine ⟨c.b, S.starts.map V.int, rfl, sq_of (e12 _ _ (o8 _ _ F.begins)), for_it (walk_enum (K := K) (a := c.b) (xs := S.starts.map V.int)) (fun i σ' H' => Ex G4 H' ∧ RunSt K H' p c (RS.start S M i) ∧ ∃ v2 v3 v4 v5 v6, σ' = [some (.ref p), some (.ref sc), v2, v3, v4, v5, v6]) ⟨o8.trans e12, hst.mono e12, _, _, _, _, _, rfl⟩ (fun i σ' H' _ q => sq_of (q.1 _ _ F.begins)) ?_ ?_⟩
    · rintro i x σ' H' H'' hi ⟨g1, h', v2, v3, v4, v5, v6, rfl⟩ ⟨T, y1, y2, rfl, hT, rfl, q1, q2⟩
      have q1 : V.int (i : Nat) = y1 := Option.some.inj q1
      subst q1
      rw [List.length_map] at hi
      have q2 : (S.starts.map V.int)[i]? = some y2 := q2
      rw [b_get hi] at q2
      have q2 := Option.some.inj q2
      subst q2
      have eT := Ex.new (o := .tup [V.int (i : Nat), V.int (S.b i)]) hT
      have g2 := g1.trans eT
      have h2 := h'.mono eT
      refine gTup2_of upd_same ?_
      refine q_asgN (en_lcE (K := K) S.starts V.int (fun q => decide (q.2 = S.b i)) (fun q => nV q.1) (eh_of (ev_fld (ev_var rfl) h2.ob (cl_Run W) (na_begins W) rfl) (g2 _ _ F.begins)) (by have : S.starts.length ≤ 10 := tn; omega) (fun _ _ => rfl)
        (fun j a H3 ha e3 => et_test (ev_op (ev_var rfl) (ev_var rfl) rv_eqI)) (fun j a H3 ha e3 _ => ev_var rfl)) fun eq H13 heq e13 h13 => ?_
      have h13 : H13 eq = some (.lst ((RS.eqs S (S.b i)).map nV)) := by
        rw [h13, RS.zip_eqs, List.filter_map, List.map_map]
        rfl
      have h3 := h2.mono e13
      have g3 := g2.trans e13
      refine s_if (b := RS.dup S i) (et_test (ev_is (ev_op (ev_lenL (eh_of (ev_var (i := 4) rfl) h13)) ev_c rv_I0) ?_)) (fun hb H14 e14 => ?_) fun hb H14 e14 => ?_
      · congr 1
        rw [List.length_map]
        unfold RS.dup
        exact decide_eq_decide.mpr ⟨fun h => by omega, fun h => by omega⟩
      · have h4 := h3.mono e14
        obtain ⟨ks, hk1, hk2⟩ := h4.cl
        have hni : i ∉ (RS.start S M i).cl := by
          show i ∉ (List.range i).filter (RS.dup S)
          rw [List.mem_filter, List.mem_range]
          omega
        refine s_dputN (o := .tup [.int (S.b i), .ref eq]) (ev_fld (ev_var rfl) h4.ob (cl_Run W) (na_closed W) rfl) hk1 (k := kI i) (ev_var rfl) (en_tup (ea_cons (ev_var rfl) (ea_cons (ev_var rfl) ea_nil)) (show (2 : Nat) ≤ 100000 by decide)) ?_ fun a H15 _ e15 _ => ?_
        · have hll := congrArg List.length hk2
          rw [List.length_map, List.length_map] at hll
          have := List.length_filter_le (RS.dup S) (List.range i)
          rw [List.length_range] at this
          have hcl : (RS.start S M i).cl.length = ((List.range i).filter (RS.dup S)).length := rfl
          omega
        · refine ⟨((g3.trans e14).trans e15).mut F.ncl, ?_, _, _, _, _, _, rfl⟩
          rw [RS.start_succ, if_pos hb]
          refine (h4.mono e15).put_cl F ?_
          rw [putK_new _ (valV_out hk2 hni), List.map_append, hk2, List.map_append]
          rfl
      · have h4 := h3.mono e14
        have hni : i ∉ (RS.start S M i).wt.map (·.1) := by
          intro z
          obtain ⟨q, hq, e⟩ := List.mem_map.mp z
          obtain ⟨j, hj, rfl⟩ := List.mem_map.mp hq
          have := List.mem_range.mp (List.mem_filter.mp hj).1
          have e : j = i := e
          omega
        refine s_dput (ev_fld (ev_var rfl) h4.ob (cl_Run W) (na_waiting W) rfl) h4.wt (k := kI i) (ev_var rfl) ev_c ?_ fun H15 e15 => ?_
        · rw [wtK_len]
          show (((List.range i).filter fun i => !RS.dup S i).map fun i => (i, 0)).length ≤ _
          rw [List.length_map]
          have := List.length_filter_le (fun i => !RS.dup S i) (List.range i)
          rw [List.length_range] at this
          omega
        · refine ⟨((g3.trans e14).trans e15).mut F.nwt, ?_, _, _, _, _, _, rfl⟩
          rw [RS.start_succ, if_neg (by rw [hb]; decide)]
          have e : putK (wtK (RS.start S M i).wt) (kI i) (.int 0) = wtK ((RS.start S M i).wt ++ [(i, 0)]) := by
            rw [putK_new _ (show valV (wtK (RS.start S M i).wt) (kI i) = none from int_val_none (fv := fun q : Nat × Nat => V.int (q.2 : Int)) hni)]
            unfold wtK
            rw [List.map_append]
            rfl
          rw [e]
          exact (h4.mono e15).put_wt F _
    · rintro σ' H' ⟨g1, h', v2, v3, v4, v5, v6, rfl⟩
      have h' : RunSt K H' p c (RS.start S M S.m) := by
        rw [List.length_map] at h'
        exact h'
      obtain ⟨m0, hm⟩ := RS.ends_any ok mok (RS.start_inv ok mok) RS.start_sz
      refine s_while (fun m σ2 H2 => ∃ st T, RS.Inv S st T ∧ RS.Sz S st ∧ RS.SzR S st ∧ RS.Ends S M m st ∧ Ex G4 H2 ∧ RunSt K H2 p c st ∧ σ2 = [some (.ref p), some (.ref sc), v2, v3, v4, v5, v6]) m0 ⟨_, _, RS.start_inv ok mok, RS.start_sz, RS.start_szr ok mok, hm, g1, h', rfl⟩ ?_
      rintro m σ2 H2 ⟨st, T, I, Z, Y, hE, g2, h2, rfl⟩
      refine ⟨_, et_test (ev_neE (eh_of (ev_fld (ev_var rfl) h2.ob (cl_Run W) (na_waiting W) rfl) h2.wt)), fun hb H3 e3 => ?_, fun hb H3 e3 => ?_⟩
      · have hne : st.wt ≠ [] := by
          intro z
          rw [z] at hb
          cases hb
        cases m with
        | zero => exact absurd hE hne
        | succ m =>
          obtain ⟨T', I', Z', _⟩ := RS.adv_ok ok mok I Z hne
          refine ⟨fun σ3 H4 => σ3 = [some (.ref p), some (.ref sc), v2, v3, v4, v5, v6] ∧ Ex G4 H4 ∧ RunSt K H4 p c (RS.adv S M st), fun σ3 H4 hN => ⟨m, by omega, _, T', I', Z', RS.adv_szr ok mok I hne Y, hE.2, hN.2.1, hN.2.2, hN.1⟩, ?_⟩
          refine s_methU (ev_var rfl) (e3 _ _ h2.ob) rfl ea_nil fun H4 e4 => ?_
          exact advance_at F ((g2.trans e3).trans e4) ((h2.mono e3).mono e4) I Z hne hMl (fun H5 g5 h5 => ⟨rfl, g5, h5⟩) E
      · have hz : st.wt = [] := by
          cases e : st.wt with
          | nil => rfl
          | cons a r =>
            rw [e] at hb
            cases hb
        have h3 := h2.mono e3
        have g3 := g2.trans e3
        obtain ⟨ks, hk1, hk2⟩ := h3.sv
        exact k _ st (xG.trans g3) ⟨c, h3.ob, F.scene.mono g3, F.rule.mono g3, g3 _ _ F.begins, ks, hk1, hk2⟩ (RS.good_of ok.rule I hz) (RS.kb_of ok I Z Y) (inv_sizes ok I Z).2.2.1
end RW
end

section
set_option Elab.async false
set_option linter.all false
set_option maxRecDepth 100000
set_option maxHeartbeats 4000000
namespace RW
open PySem L2 Evl
variable {P : Program} {w : World} {K : PySem.W.Frag} {mg : Str → Option Value} {base : Heap}
/-! ### lists of new objects -/
def ObjsAt (H : Hp) (ps : List Addr) (os : List HO) : Prop := ps.length = os.length ∧ ∀ (j : Nat) (p : Addr) (o : HO), ps[j]? = some p → os[j]? = some o → H p = some o
theorem ObjsAt.mono {H H' : Hp} {ps : List Addr} {os : List HO} (h : ObjsAt H ps os) (e : Ex H H') : ObjsAt H' ps os := ⟨h.1, fun j p o h1 h2 => e _ _ (h.2 j p o h1 h2)⟩
theorem ObjsAt.nil {H : Hp} : ObjsAt H [] [] := ⟨rfl, fun j p o h _ => by cases h⟩
theorem ObjsAt.snoc {H : Hp} {ps : List Addr} {os : List HO} {p : Addr} {o : HO} (h : ObjsAt H ps os) (hp : H p = some o) : ObjsAt H (ps ++ [p]) (os ++ [o]) := by
  obtain ⟨h1, h2⟩ := h
  refine ⟨by simp [h1], fun j a u ha hu => ?_⟩
  by_cases hj : j < ps.length
  · rw [List.getElem?_append_left hj] at ha
    rw [List.getElem?_append_left (by omega)] at hu
    exact h2 j a u ha hu
  · rw [List.getElem?_append_right (by omega)] at ha hu
    have hi := (List.getElem?_eq_some_iff.mp ha).1
    have : j - ps.length = 0 := by simp at hi; omega
    rw [this] at ha
    rw [show j - os.length = 0 by omega] at hu
    cases ha
    cases hu
    exact hp
theorem ObjsAt.get {H : Hp} {ps : List Addr} {os : List HO} (h : ObjsAt H ps os) {j : Nat} {o : HO} (ho : os[j]? = some o) : ∃ p, ps[j]? = some p ∧ H p = some o := by
  have hj := (List.getElem?_eq_some_iff.mp ho).1
  have e : ps[j]? = some (ps[j]'(by rw [h.1]; exact hj)) := List.getElem?_eq_getElem _
  exact ⟨_, e, h.2 j _ _ e ho⟩
/-- one object is changed, none of these -/
theorem ObjsAt.upd {H : Hp} {ps : List Addr} {os : List HO} {x : Addr} {u v : HO} (h : ObjsAt H ps os) (hx : H x = some u) (hu : ∀ o ∈ os, o ≠ u) : ObjsAt (upd H x v) ps os := ⟨h.1, fun j p o h1 h2 => by
  have g := h.2 j p o h1 h2
  rw [upd_ne (ne_of g hx (hu o (List.mem_of_getElem? h2)))]
  exact g⟩
def EvLO (te : TE) (σ : L2.St) (H : Hp) (os : List HO) : Prop := ∀ H1, Ex H H1 → ∀ Q : VK, (∀ p H2 ps, H1 p = none → Ex H1 H2 → H2 p = some (.lst (ps.map V.ref)) → ObjsAt H2 ps os → Q (.ref p) H2) → te σ H1 Q
section
variable {α : Type} {J : It} {G : Hp → Prop} {Y : Nat → Hp → V → Hp → Prop} {g : TG} {tt : TT} {te tk tv : TE} {vs : List Nat} {σ : L2.St} {H1 : Hp} {Dl : Addr} {Qd : Hp → Prop}
theorem lc_objs (as : List α) (w : Walk J as.length G Y) (val : α → HO) (hnl : ∀ a xs, val a ≠ .lst xs) (hD : H1 Dl = none) (hG : ∀ H, Ex H1 H → G H) (hn : as.length ≤ 50000)
    (step : ∀ i a x H H', as[i]? = some a → Ex H1 H → Y i H x H' → g x (wipe σ vs) H' fun σ2 H2 => wipe σ2 vs = wipe σ vs ∧ Ex H H2 ∧ EvT tt σ2 H2 true ∧ EvN te σ2 H2 (val a))
    (hg : ∀ x σ H Q Q', (∀ σ2 H2, Q σ2 H2 → Q' σ2 H2) → g x σ H Q → g x σ H Q')
    (hd : ∀ H ps, Ex H1 H → H Dl = some (.lst (ps.map V.ref)) → ObjsAt H ps (as.map val) → Qd H) :
    ∃ W : Nat → Nat → Hp → Prop, (∃ m, W 0 m (upd H1 Dl (.lst []))) ∧ ∀ i m H, W i m H →
      (J.stop i H ∧ Qd H) ∨ (J.go i H ∧ ∃ Nx : Hp → Prop, (∀ H', Nx H' → ∃ m', m' < m ∧ W (i + 1) m' H') ∧ ∀ x H', J.yld i H x H' → g x (wipe σ vs) H' fun σ2 H2 => wipe σ2 vs = wipe σ vs ∧ tt σ2 H2 fun b H3 =>
        if b = true then te σ2 H3 fun y H4 => ∃ acc, H4 Dl = some (.lst acc) ∧ acc.length < sizeLine ∧ Nx (upd H4 Dl (.lst (acc ++ [y]))) else Nx H3) := by
  refine lc_it w (fun i H => Ex H1 H ∧ ∃ ps, H Dl = some (.lst (ps.map V.ref)) ∧ ObjsAt H ps ((as.take i).map val)) ⟨Ex.new hD, [], upd_same, ObjsAt.nil⟩ (fun i H _ p => hG H p.1) (fun i x H H' hi p y => ?_) (fun H p => by
    obtain ⟨p1, ps, p2, p3⟩ := p
    rw [List.take_length] at p3
    exact hd H ps p1 p2 p3)
  obtain ⟨a, ha⟩ : ∃ a, as[i]? = some a := ⟨as[i], List.getElem?_eq_getElem hi⟩
  obtain ⟨p1, ps, p2, p3⟩ := p
  refine hg _ _ _ _ _ (fun σ2 H2 q => ?_) (step i a x H H' ha p1 y)
  obtain ⟨q1, q2, q3, q4⟩ := q
  refine ⟨q1, et_go q3 fun H3 e3 => iteT (q4 H3 e3 _ fun b H4 hb e4 h4 => ⟨ps.map V.ref, e4 _ _ (e3 _ _ (q2 _ _ p2)), ?_, ?_, ps ++ [b], ?_, ?_⟩)⟩
  · refine sz_lt (Nat.lt_of_le_of_lt ?_ (show 50000 < 100000 by decide))
    have := p3.1
    rw [List.length_map, List.length_take] at this
    rw [List.length_map]
    omega
  · exact (((p1.trans q2).trans e3).trans e4).mut hD
  · rw [upd_same, List.map_append]
    rfl
  · have h5 : ObjsAt H4 (ps ++ [b]) ((as.take (i + 1)).map val) := by
      rw [take_one ha, List.map_append]
      exact (p3.mono ((q2.trans e3).trans e4)).snoc h4
    refine h5.upd (e4 _ _ (e3 _ _ (q2 _ _ p2))) fun o ho => ?_
    obtain ⟨c, _, rfl⟩ := List.mem_map.mp ho
    exact hnl c _
/-- over range(n) -/
theorem eo_lcR {ta : TA} {j : Nat} {H : Hp} (n : Nat) (val : Nat → HO) (hnl : ∀ a xs, val a ≠ .lst xs) (h : EvA ta σ H [.int (n : Int)]) (hn : n ≤ 50000) (hw : ∀ x, wipe ((wipe σ vs).set j (some x)) vs = wipe σ vs)
    (ht : ∀ i H1, i < n → Ex H H1 → EvT tt ((wipe σ vs).set j (some (.int (i : Nat)))) H1 true) (he : ∀ i H1, i < n → Ex H H1 → EvN te ((wipe σ vs).set j (some (.int (i : Nat)))) H1 (val i)) :
    EvLO (tLc (iRng1 ta) (gName j) tt te vs) σ H ((List.range n).map val) := fun H0 e Q q => h H0 e _ fun H1 e1 => ⟨(n : Int), rfl, by omega, by omega, fun Dl hD =>
  lc_objs (J := Itr 0 ((n : Int)).toNat) (G := fun _ => True) (Y := YFn fun i => .int (0 + (i : Nat))) (List.range n) (by rw [List.length_range]; exact walk_range (lo := 0) (n := n)) val hnl hD (fun H a => True.intro) (by rw [List.length_range]; exact hn)
    (fun i a x H2 H3 ha ex y => by
      obtain ⟨e2, e3⟩ := y
      subst e2 e3
      have hi : i < n := by have := (List.getElem?_eq_some_iff.mp ha).1; rwa [List.length_range] at this
      rw [List.getElem?_range hi] at ha
      cases ha
      show gName j (.int (0 + (i : Int))) _ _ _
      rw [Int.zero_add]
      exact ⟨hw _, Ex.refl _, ht i _ hi ((e.trans e1).trans ex), he i _ hi ((e.trans e1).trans ex)⟩) gName_mono
    (fun H2 ps e2 h2 h3 => q Dl H2 ps (fresh_back e1 hD) (e1.trans e2) h2 h3)⟩
end
section
variable {K : PySem.W.Frag} {σ : L2.St} {H : Hp} {t : TT} {ta tb : TE} {o : HO}
theorem en_if {b : Bool} (h : EvT t σ H b) (h1 : b = true → EvN ta σ H o) (h2 : b = false → EvN tb σ H o) : EvN (tIf t ta tb) σ H o := fun H1 e Q q => h H1 e _ fun H2 e2 => by
  cases b with
  | true =>
    show ta σ H2 Q
    exact h1 rfl H2 (e.trans e2) Q fun p H3 hp e3 h3 => q p H3 (fresh_back e2 hp) (e2.trans e3) h3
  | false =>
    show tb σ H2 Q
    exact h2 rfl H2 (e.trans e2) Q fun p H3 hp e3 h3 => q p H3 (fresh_back e2 hp) (e2.trans e3) h3
end
/-! ### outcome, outcomes, order -/
theorem SvAt.get {H : Hp} : ∀ {sv : List (Nat × (Nat × Int))} {ks : List (Key × V)}, SvAt H ks sv → ∀ {c k : Nat} {t : Int}, sv.lookup c = some (k, t) → ∃ a, valV ks (kI c) = some (.ref a) ∧ H a = some (.tup [.int (k : Int), .int t])
  | [], ks, h, c, k, t, e => by cases e
  | (d, (k', t')) :: r, [], h, c, k, t, e => by cases h.1
  | (d, (k', t')) :: r, (kd, v) :: ks, h, c, k, t, e => by
    obtain ⟨a, g1, g2⟩ := h.2 0 _ rfl
    have g3 : (kd, v) = (kI d, V.ref a) := Option.some.inj g1
    cases g3
    have ht : SvAt H ks r := ⟨Nat.succ.inj h.1, fun i q hq => h.2 (i + 1) q hq⟩
    rw [List.lookup_cons] at e
    by_cases z : c = d
    · subst z
      simp at e
      obtain ⟨rfl, rfl⟩ := e
      exact ⟨a, valV_pos rfl, g2⟩
    · rw [beq_false_of_ne z] at e
      obtain ⟨b, h1, h2⟩ := ht.get e
      exact ⟨b, by rw [valV_neg fun y => z (kI_inj y).symm]; exact h1, h2⟩
def outT (S : RS.Scn) (sv : List (Nat × (Nat × Int))) (c : Nat) : List V := match sv.lookup c with
  | some x => [.str "served", .int (x.1 : Int), .int x.2]
  | none => match S.rule.tail with
    | .fin => [.str "ended"]
    | _ => [.str "never"]
theorem sc_U_outcome : FnScope ["self", "client", "attempt", "slot"] ["self", "client"] (defScope s_U_outcome) := ⟨rfl, rfl, rfl, by decide +kernel, rfl, by decide +kernel, by decide +kernel⟩
def sp_U_outcome (K : PySem.W.Frag) : Sp := fun vs H Q _ => ∃ (p : Addr) (i : Nat) (S : RS.Scn) (st : RS.Stt), vs = [.ref p, .int i] ∧ RunAt K H p S st ∧ i < S.m ∧ RetN (.tup (outT S st.sv i)) H Q
theorem ok_U_outcome (W : Wd K mg) : FnOk P w K mg base CX0 4 (a_U_outcome K) (f_U_outcome K) ["self", "client"] (sp_U_outcome K) := by
  refine (F_U_outcome W).ok sc_U_outcome (fun vs H Q E h => ?_) (fun cdv A outer s H vs Q E hr h => ?_)
  · obtain ⟨p, i, S, st, rfl, _⟩ := h
    rfl
  · obtain ⟨p, i, S, st, rfl, hU, hi, k⟩ := h
    have hu := units1 hr
    refine ⟨_, PSs.nox (pss_cons (ps_expr (pe_meth (pe_fld (pv 0) rfl) (cl_Scene W) (m_S_check_client W) (ok_S_check_client W) (hr.mono (by decide)) (b_S_check_client W) .nil pass0 (pa_cons (pv 1) pa_nil)))
    (pss_cons (ps_if (pt_cmp (pc_din hu (pv 1) (pe_fld (pv 0) rfl))) (pss_cons (ps_asg (pe_dget hu (pe_fld (pv 0) rfl) (pv 1) (fun _ _ => rfl)) (pg_tup rfl (pgs_cons (pg_name (i := 2) sc_U_outcome.nd rfl (Or.inl rfl)) (pgs_cons (pg_name (i := 3) sc_U_outcome.nd rfl (Or.inl rfl)) pgs_nil))))
      (pss_one (ps_ret (pe_tup (pa_cons pe_str (pa_cons (pv 2) (pa_cons (pv 3) pa_nil))))))) pss_nil)
    (pss_one (ps_ret (pe_ifExp (pt_cmpR op_isN (pe_meth0 (pe_fld (pv 0) rfl) (cl_Rule W) (m_R_attempts W) (ok_R_attempts W) (hr.mono (by decide)) (b_R_attempts W) .nil pass0) pe_non (nomark _)) (pe_tup (pa_cons pe_str pa_nil)) (pe_tup (pa_cons pe_str pa_nil))))))), ?_⟩
    obtain ⟨c, ob, hS, hR, hb, ks, hk, hsv⟩ := hU
    obtain ⟨dx, r, l, t, ws, s1, _⟩ := id hS
    refine q_drop (ev_meth (ev_fld (ev_var rfl) ob (cl_Run W) (na_its_scene W) rfl) s1 rfl (ea_cons (ev_var rfl) ea_nil) (check_client_at hS hi)) fun H1 e1 => ?_
    have ob1 := e1 _ _ ob
    have hk1 := e1 _ _ hk
    have hsv1 := hsv.mono e1
    have hR1 := hR.mono e1
    obtain ⟨dr, l', t', s', r1, _⟩ := id hR1
    cases hl : st.sv.lookup i with
    | some x =>
      obtain ⟨kk, tm⟩ := x
      obtain ⟨a, g1, g2⟩ := hsv1.get hl
      refine q_when (b := true) (et_B (ev_is (ev_din (eh_of (ev_fld (ev_var rfl) ob1 (cl_Run W) (na_services W) rfl) hk1) (k := kI i) (ev_var rfl)) (by rw [g1]; rfl))) (fun _ H2 e2 => ?_) fun z => by cases z
      refine q_asgT (eh_of (ev_dget (eh_of (ev_fld (ev_var rfl) (e2 _ _ ob1) (cl_Run W) (na_services W) rfl) (e2 _ _ hk1)) (k := kI i) (ev_var rfl) g1) (e2 _ _ g2)) rfl fun H3 e3 => ⟨_, _, rfl, _, _, rfl, rfl, ?_⟩
      refine s_retN (en_tup (ea_cons ev_c (ea_cons (ev_var rfl) (ea_cons (ev_var rfl) ea_nil))) (show (3 : Nat) ≤ 100000 by decide)) fun b H4 hb4 e4 h4 => k b H4 (fresh_back ((e1.trans e2).trans e3) hb4) (((e1.trans e2).trans e3).trans e4) ?_
      unfold outT
      rw [hl]
      exact h4
    | none =>
      have g1 := hsv1.out hl
      refine q_when (b := false) (et_B (ev_is (ev_din (eh_of (ev_fld (ev_var rfl) ob1 (cl_Run W) (na_services W) rfl) hk1) (k := kI i) (ev_var rfl)) (by rw [g1]; rfl))) (fun z => by cases z) fun _ H2 e2 => ?_
      refine s_retN (o := .tup (outT S st.sv i)) (en_if (b := decide (attV S.rule = .non)) (et_test (ev_op (ev_meth (ev_fld (ev_var rfl) (e2 _ _ ob1) (cl_Run W) (na_pattern W) rfl) (e2 _ _ r1) rfl ea_nil (attempts_at (hR1.mono e2))) ev_c rv_isN)) (fun hz => ?_) fun hz => ?_) fun b H4 hb4 e4 h4 => k b H4 (fresh_back (e1.trans e2) hb4) ((e1.trans e2).trans e4) h4
      · have e : outT S st.sv i = [.str "never"] := by
          unfold outT
          rw [hl]
          have hz := of_decide_eq_true hz
          unfold attV at hz
          cases e : S.rule.tail with
          | fin => rw [e] at hz; cases hz
          | tim b => rfl
          | rep b => rfl
        rw [e]
        exact en_tup (ea_cons ev_c ea_nil) (show (1 : Nat) ≤ 100000 by decide)
      · have e : outT S st.sv i = [.str "ended"] := by
          unfold outT
          rw [hl]
          have hz := of_decide_eq_false hz
          unfold attV at hz
          cases e : S.rule.tail with
          | fin => rfl
          | tim b => rw [e] at hz; exact absurd rfl hz
          | rep b => rw [e] at hz; exact absurd rfl hz
        rw [e]
        exact en_tup (ea_cons ev_c ea_nil) (show (1 : Nat) ≤ 100000 by decide)
theorem outcome_at {H : Hp} {p : Addr} {S : RS.Scn} {st : RS.Stt} {i : Nat} (h : RunAt K H p S st) (hi : i < S.m) : SpN (sp_U_outcome K) [.ref p, .int i] H (.tup (outT S st.sv i)) := fun H1 e Q q _ => ⟨p, i, S, st, rfl, h.mono e, hi, q⟩
theorem sc_U_outcomes : FnScope ["self", "client"] ["self"] (defScope s_U_outcomes) := ⟨rfl, rfl, rfl, by decide +kernel, rfl, by decide +kernel, by decide +kernel⟩
def sp_U_outcomes (K : PySem.W.Frag) : Sp := fun vs H Q _ => ∃ (p : Addr) (S : RS.Scn) (st : RS.Stt), vs = [.ref p] ∧ RunAt K H p S st ∧ S.m ≤ 10 ∧ ∀ a H2 ps, H a = none → Ex H H2 → H2 a = some (.lst (ps.map V.ref)) → ObjsAt H2 ps ((List.range S.m).map fun i => .tup (outT S st.sv i)) → Q (.ref a) H2
theorem ok_U_outcomes (W : Wd K mg) : FnOk P w K mg base CX0 5 (a_U_outcomes K) (f_U_outcomes K) ["self"] (sp_U_outcomes K) := by
  refine (F_U_outcomes W).ok sc_U_outcomes (fun vs H Q E h => ?_) (fun cdv A outer s H vs Q E hr h => ?_)
  · obtain ⟨p, S, st, rfl, _⟩ := h
    rfl
  · obtain ⟨p, S, st, rfl, hU, tn, k⟩ := h
    refine ⟨_, PSs.nox (pss_one (ps_ret (pe_lc (own := [("client", 1)]) rfl sc_U_outcomes.nd (pi_range1 (by rfl) (n_range W) (pa_cons (pe_callB call_len_seq (by rfl) (n_len W) (by decide +kernel) (pa_cons (pe_fld (pv 0) rfl) pa_nil)) pa_nil)) (blkOk_by (N := ["self", "client"]) (sc := defScope s_U_outcomes) (by decide +kernel)) (fun _ _ _ _ _ => (pg_name (i := 1) sc_U_outcomes.nd rfl (Or.inl rfl))) (fun _ _ _ _ _ => pts_nil) (fun _ _ _ _ _ => (pe_meth (pv 0) (cl_Run W) (m_U_outcome W) (ok_U_outcome W) (hr.mono (by decide)) (b_U_outcome W) .nil pass0 (pa_cons (pv 1) pa_nil)))))), ?_⟩
    obtain ⟨c, ob, hS, hR, hb, ks, hk, hsv⟩ := id hU
    have key := eo_lcR (tt := tYes) (te := tMeth (He.ga K "Run") "outcome" (sp_U_outcome K) [] E0 (tVar 0) (tCons (tVar 1) tNil)) (j := 1) (vs := [1]) (σ := L2.start ["self", "client"] [.ref p]) (H := H) (ta := tCons (tCB (fun xs H Q => ∃ p ys, xs = [.ref p] ∧ (SqL K H p ys ∨ SqT K H p ys) ∧ Q (.int ys.length) H) (tCons (tFld K (tVar 0) "begins") tNil)) tNil)
      S.m (fun i => .tup (outT S st.sv i)) (fun a xs z => by cases z) (ea_cons (ev_is (ev_lenL (eh_of (ev_fld (ev_var rfl) ob (cl_Run W) (na_begins W) rfl) hb)) (by rw [List.length_map])) ea_nil) (by omega) (fun _ => rfl) (fun i H1 _ _ H3 e3 Q q => q H3 (Ex.refl H3))
      (fun i H1 hi e1 => en_meth (ev_var rfl) (e1 _ _ ob) rfl (ea_cons (ev_var rfl) ea_nil) (outcome_at (hU.mono e1) hi))
    exact key H (Ex.refl H) _ fun a H2 ps ha e2 h2 h3 => k a H2 ps ha e2 h2 h3
end RW
end

section
set_option Elab.async false
set_option linter.all false
set_option maxRecDepth 100000
set_option maxHeartbeats 4000000
namespace RW
open PySem L2 Evl
variable {P : Program} {w : World} {K : PySem.W.Frag} {mg : Str → Option Value} {base : Heap}
section
variable {j1 j2 j3 : Nat}
theorem gTupN_mono : ∀ x σ H Q Q', (∀ σ2 H2, Q σ2 H2 → Q' σ2 H2) → gTup K 2 (gCons (gName j1) (gCons (gTup K 2 (gCons (gName j2) (gCons (gName j3) gNil))) gNil)) x σ H Q → gTup K 2 (gCons (gName j1) (gCons (gTup K 2 (gCons (gName j2) (gCons (gName j3) gNil))) gNil)) x σ H Q' := by
  rintro x σ H Q Q' h ⟨a, xs, e1, e2, e3, v, r, e4, v2, r2, e5, b, ys, f1, f2, f3, v3, r3, e6, v4, r4, e7, e8, e9, q⟩
  exact ⟨a, xs, e1, e2, e3, v, r, e4, v2, r2, e5, b, ys, f1, f2, f3, v3, r3, e6, v4, r4, e7, e8, e9, h _ _ q⟩
theorem gTupN_of {T t : Addr} {x y z : V} {σ : L2.St} {H : Hp} {Q : L2.St → Hp → Prop} (h : H T = some (.tup [x, .ref t])) (h2 : H t = some (.tup [y, z])) (q : Q (((σ.set j1 (some x)).set j2 (some y)).set j3 (some z)) H) : gTup K 2 (gCons (gName j1) (gCons (gTup K 2 (gCons (gName j2) (gCons (gName j3) gNil))) gNil)) (.ref T) σ H Q :=
  ⟨T, [x, .ref t], rfl, st_of h, rfl, x, [.ref t], rfl, .ref t, [], rfl, t, [y, z], rfl, st_of h2, rfl, y, [z], rfl, z, [], rfl, rfl, rfl, q⟩
end
section
variable {α : Type} {g : TG} {tt : TT} {te td : TE} {vs : List Nat} {σ : L2.St} {H : Hp} {d : Addr}
/-- new objects over d.items() -/
theorem eo_items {ks : List (Key × V)} (as : List α) (val : α → HO) (hnl : ∀ a xs, val a ≠ .lst xs) (hnd : ∀ a ks, val a ≠ .dK ks) (hnf : ∀ a od u, val a ≠ .frz od u) (hd : H d = some (.dK ks)) (hlen : ks.length = as.length) (hn : as.length ≤ 50000) (htd : Ev td σ (hide H d) (.ref d))
    (step : ∀ (i : Nat) (a : α) (kv : Key × V) T H2, as[i]? = some a → ks[i]? = some kv → Ex (hide H d) H2 → H2 T = some (.tup [kV kv.1, kv.2]) → g (.ref T) (wipe σ vs) H2 fun σ2 H3 => wipe σ2 vs = wipe σ vs ∧ Ex H2 H3 ∧ EvT tt σ2 H3 true ∧ EvN te σ2 H3 (val a))
    (hg : ∀ x σ H Q Q', (∀ σ2 H2, Q σ2 H2 → Q' σ2 H2) → g x σ H Q → g x σ H Q') : EvLO (tLockE (tLc (iItems td) g tt te vs)) σ H (as.map val) := by
  intro H0 e Q q
  refine ⟨d, .dK ks, e _ _ hd, True.intro, fun od => ?_⟩
  have ex : Ex (hide H d) (upd H0 d (.frz od (.dK ks))) := (hide_mono e).trans hide_lock
  refine htd _ ex _ fun H1 e1 => ⟨d, od, ks, rfl, e1 _ _ upd_same, fun Dl hD => ?_⟩
  refine lc_objs (J := Iti d od ks) (G := fun H => H d = some (.frz od (.dK ks))) (Y := YPair (fun i => ks[i]?.map fun kv => kV kv.1) (fun i => ks[i]?.map Prod.snd)) as (by rw [← hlen]; exact walk_items) _ hnl hD (fun H a => a _ _ (e1 _ _ upd_same)) hn
    (fun i a x H2 H3 ha ex2 y => ?_) hg (fun H2 ps e2 h2 h3 => ?_)
  · obtain ⟨T, x1, x2, e2, e3, e4, e5, e6⟩ := y
    subst e2 e4
    have hi : i < ks.length := by rw [hlen]; exact (List.getElem?_eq_some_iff.mp ha).1
    have hk : ks[i]? = some ks[i] := List.getElem?_eq_getElem hi
    simp only [hk] at e5 e6
    have ea : kV (ks[i]).1 = x1 := Option.some.inj e5
    have eb : (ks[i]).2 = x2 := Option.some.inj e6
    subst ea eb
    have eT := Ex.new (o := .tup [kV (ks[i]).1, (ks[i]).2]) e3
    refine hg _ _ _ _ _ (fun σ2 H4 q => ⟨q.1, eT.trans q.2.1, q.2.2⟩) (step i a _ T _ ha hk (((ex.trans e1).trans ex2).trans eT) upd_same)
  · obtain ⟨g1, g2, g3, g4⟩ := lock_back (e _ _ hd) e1 hD e2 h2
    have h5 : ObjsAt (upd H2 d (.dK ks)) ps (as.map val) := h3.upd g1 fun o ho => by
      obtain ⟨q, _, rfl⟩ := List.mem_map.mp ho
      exact hnf _ _ _
    exact ⟨g1, q Dl _ ps g2 g3 g4 h5⟩
end
def pairO (q : Int × Nat) : HO := .tup [.int q.1, nV q.2]
def pairOf (H : Hp) (t : Addr) : Int × Nat := match H t with
  | some (.tup [.int a, .int b]) => (a, b.toNat)
  | _ => (0, 0)
theorem pairOf_eq {H : Hp} {t : Addr} {q : Int × Nat} (h : H t = some (pairO q)) : pairOf H t = q := by
  unfold pairOf
  rw [h]
  show ((q.1, ((q.2 : Int)).toNat) : Int × Nat) = q
  rw [Int.toNat_natCast]
def kOf (H : Hp) : V → Int × Int
  | .ref t => ((pairOf H t).1, ((pairOf H t).2 : Int))
  | _ => (0, 0)
def addrOf : V → Addr
  | .ref t => t
  | _ => 0
theorem objs_map {H : Hp} {α : Type} {f : α → HO} {k : Addr → α} : ∀ {ps : List Addr} {l : List α}, (∀ t q, H t = some (f q) → k t = q) → ObjsAt H ps (l.map f) → ps.map k = l
  | [], [], _, _ => rfl
  | [], _ :: _, _, h => by cases h.1
  | _ :: _, [], _, h => by cases h.1
  | a :: r, q :: l, hk, h => by
    have h0 := h.2 0 a (f q) rfl rfl
    have ht : ObjsAt H r (l.map f) := ⟨Nat.succ.inj h.1, fun j p o h1 h2 => h.2 (j + 1) p o h1 h2⟩
    rw [List.map_cons, hk a q h0, objs_map hk ht]
theorem sc_U_order : FnScope ["self", "client", "attempt", "slot"] ["self"] (defScope s_U_order) := ⟨rfl, rfl, rfl, by decide +kernel, rfl, by decide +kernel, by decide +kernel⟩
def sp_U_order (K : PySem.W.Frag) : Sp := fun vs H Q _ => ∃ (p : Addr) (S : RS.Scn) (st : RS.Stt), vs = [.ref p] ∧ RunAt K H p S st ∧ st.sv.length ≤ 10 ∧ ∀ (L : List (Int × Nat)) a H2 ps, L.Perm (st.sv.map fun q => (q.2.2, q.1)) → H a = none → Ex H H2 → H2 a = some (.lst (ps.map V.ref)) → ObjsAt H2 ps (L.map pairO) → Q (.ref a) H2
theorem ok_U_order (W : Wd K mg) : FnOk P w K mg base CX0 1 (a_U_order K) (f_U_order K) ["self"] (sp_U_order K) := by
  refine (F_U_order W).ok sc_U_order (fun vs H Q E h => ?_) (fun cdv A outer s H vs Q E hr h => ?_)
  · obtain ⟨p, S, st, rfl, _⟩ := h
    rfl
  · obtain ⟨p, S, st, rfl, hU, hl, k⟩ := h
    refine ⟨_, PSs.nox (pss_one (ps_ret (pe_callB cr_sortedPO (by rfl) (n_sorted W) (by decide +kernel) (pa_cons (pe_lock (pe_lc (own := [("client", 1), ("attempt", 2), ("slot", 3)]) rfl sc_U_order.nd (pi_items (pe_fld (pv 0) rfl)) (blkOk_by (N := ["self", "client", "attempt", "slot"]) (sc := defScope s_U_order) (by decide +kernel)) (fun _ _ _ _ _ => (gtupK (K := K) (n := 2) rfl (pgs_cons (pg_name (i := 1) sc_U_order.nd rfl (Or.inl rfl)) (pgs_cons (gtupK (K := K) (n := 2) rfl (pgs_cons (pg_name (i := 2) sc_U_order.nd rfl (Or.inl rfl)) (pgs_cons (pg_name (i := 3) sc_U_order.nd rfl (Or.inl rfl)) pgs_nil))) pgs_nil)))) (fun _ _ _ _ _ => pts_nil) (fun _ _ _ _ _ => (pe_tup (pa_cons (pv 3) (pa_cons (pv 1) pa_nil)))))) pa_nil)))), ?_⟩
    obtain ⟨c, ob, hS, hR, hb, ks, hk, hsv⟩ := id hU
    have hpd : p ≠ c.sv := ne_of ob hk (by intro z; cases z)
    have obk := hide_at (d := c.sv) ob hpd
    have key : EvLO (tLockE (tLc (iItems (tFld K (tVar 0) "services")) (gTup K 2 (gCons (gName 1) (gCons (gTup K 2 (gCons (gName 2) (gCons (gName 3) gNil))) gNil))) tYes (tTup (tCons (tVar 3) (tCons (tVar 1) tNil))) [1, 2, 3])) (L2.start ["self", "client", "attempt", "slot"] [.ref p]) H ((st.sv.map fun q => (q.2.2, q.1)).map pairO) := by
      rw [List.map_map]
      refine eo_items st.sv _ (fun a xs z => by cases z) (fun a xs z => by cases z) (fun a od u z => by cases z) hk hsv.1 (by omega) (ev_fld (ev_var rfl) obk (cl_Run W) (na_services W) rfl) (fun i a kv T H2 ha hkv ex hT => ?_) gTupN_mono
      obtain ⟨t, g1, g2⟩ := hsv.2 i a ha
      rw [g1] at hkv
      have hkv := Option.some.inj hkv
      subst hkv
      have htd : t ≠ c.sv := ne_of g2 hk (by intro z; cases z)
      exact gTupN_of hT (ex _ _ (hide_at g2 htd)) ⟨rfl, Ex.refl _, fun H4 e4 Q q => q H4 (Ex.refl H4), en_tup (ea_cons (ev_var rfl) (ea_cons (ev_var rfl) ea_nil)) (show (2 : Nat) ≤ 100000 by decide)⟩
    refine key H (Ex.refl H) _ fun a H2 ps ha e2 h2 h3 => ⟨a, ps.map V.ref, kOf H2, rfl, sq_of h2, fun x hx => ?_, fun ys b hs hb hb2 => ?_⟩
    · obtain ⟨t, ht, rfl⟩ := List.mem_map.mp hx
      obtain ⟨j, hj, g⟩ := List.mem_iff_getElem.mp ht
      have hj2 : j < ((st.sv.map fun q => (q.2.2, q.1)).map pairO).length := by rw [← h3.1]; exact hj
      have g1 := h3.2 j t _ (by rw [List.getElem?_eq_getElem hj, g]) (List.getElem?_eq_getElem hj2)
      rw [List.getElem_map] at g1
      refine ⟨t, rfl, ?_⟩
      have g2 := pairOf_eq g1
      show H2 t = some (.tup [.int (pairOf H2 t).1, nV (pairOf H2 t).2])
      rw [g2]
      exact g1
    · have hys : (ys.map addrOf).map V.ref = ys := by
        rw [List.map_map]
        conv => rhs; rw [← List.map_id ys]
        refine List.map_congr_left fun x hx => ?_
        obtain ⟨t, _, rfl⟩ := List.mem_map.mp (hb.perm.mem_iff.mp hx)
        rfl
      have hps : (ys.map addrOf).Perm ps := by
        have := hb.perm.map addrOf
        rw [List.map_map] at this
        have e : ps.map (addrOf ∘ V.ref) = ps := List.map_id' _
        rw [e] at this
        exact this
      have hmap : ps.map (pairOf H2) = st.sv.map fun q => (q.2.2, q.1) := objs_map (fun t q h => pairOf_eq h) h3
      have hL : ((ys.map addrOf).map (pairOf H2)).Perm (st.sv.map fun q => (q.2.2, q.1)) := by
        rw [← hmap]
        exact hps.map _
      refine k _ b _ (ys.map addrOf) hL (fresh_back e2 hb2) (e2.trans (Ex.new hb2)) (by rw [hys]; exact upd_same) ?_
      refine ObjsAt.mono (H := H2) ⟨by simp only [List.length_map], fun j t o g1 g2 => ?_⟩ (Ex.new hb2)
      rw [List.getElem?_map, List.getElem?_map, g1] at g2
      have g2 : pairO (pairOf H2 t) = o := Option.some.inj g2
      subst g2
      have ht : t ∈ ps := hps.mem_iff.mp (List.mem_of_getElem? g1)
      obtain ⟨i, hi, g⟩ := List.mem_iff_getElem.mp ht
      have hi2 : i < ((st.sv.map fun q => (q.2.2, q.1)).map pairO).length := by rw [← h3.1]; exact hi
      have g4 := h3.2 i t _ (by rw [List.getElem?_eq_getElem hi, g]) (List.getElem?_eq_getElem hi2)
      rw [List.getElem_map] at g4
      rw [pairOf_eq g4]
      exact g4
end RW
end

section
set_option Elab.async false
set_option linter.all false
set_option maxRecDepth 100000
set_option maxHeartbeats 4000000
namespace RW
open PySem L2 Evl
variable {P : Program} {w : World} {K : PySem.W.Frag} {mg : Str → Option Value} {base : Heap}
section
variable {σ : L2.St} {H : Hp} {ta tb : TE}
theorem ev_int {i : Int} (h : Ev ta σ H (.int i)) : Ev (tCB (fun xs H Q => (∃ i, xs = [.int i] ∧ Q (.int i) H) ∨ ∃ k, xs = [.bl k] ∧ Q (.int (if k then 1 else 0)) H) (tCons ta tNil)) σ H (.int i) := ev_cb (ea_cons h ea_nil) rc_int
theorem ev_intB {k : Bool} (h : Ev ta σ H (.bl k)) : Ev (tCB (fun xs H Q => (∃ i, xs = [.int i] ∧ Q (.int i) H) ∨ ∃ k, xs = [.bl k] ∧ Q (.int (if k then 1 else 0)) H) (tCons ta tNil)) σ H (.int (if k then 1 else 0)) := ev_cb (ea_cons h ea_nil) rc_intB
end
theorem sc_law_mixed : FnScope ["_law_cell", "_law_k", "_law_number"] ["_law_cell", "_law_k"] (defScope s_law_mixed) := ⟨rfl, rfl, rfl, by decide +kernel, rfl, by decide +kernel, by decide +kernel⟩
def sp_law_mixed : Sp := fun vs H Q _ => ∃ (c k : Int), vs = [.int c, .int k] ∧ 0 ≤ k ∧ k ≤ 2 ^ 40 ∧ ∀ r H2, Ex H H2 → Q (.int r) H2
theorem ok_law_mixed (W : Wd K mg) : FnOk P w K mg base CX0 1 (a_law_mixed K) (f_law_mixed K) ["_law_cell", "_law_k"] sp_law_mixed := by
  refine (F_law_mixed W).ok sc_law_mixed (fun vs H Q E h => ?_) (fun cdv A outer s H vs Q E hr h => ?_)
  · obtain ⟨c, k, rfl, _⟩ := h
    rfl
  · obtain ⟨c, n, rfl, n0, n1, k⟩ := h
    refine ⟨_, PSs.nox (pss_cons (ps_set (i := 2) sc_law_mixed.nd rfl (Or.inl rfl) (pe_op op_mod (pe_callTy call_int1 (by rfl) (n_int W) (by decide +kernel) (pa_cons (pe_op op_pow (pe_op op_add (pe_op op_add (pe_op op_mod (pe_callTy call_int1 (by rfl) (n_int W) (by decide +kernel) (pa_cons (pv 0) pa_nil)) pe_int) (pe_op op_mul pe_int (pv 1))) pe_int) pe_int) pa_nil)) pe_int))
    (pss_cons (ps_set (i := 2) sc_law_mixed.nd rfl (Or.inl rfl) (pe_op op_mod (pe_callTy call_int1 (by rfl) (n_int W) (by decide +kernel) (pa_cons (pe_op op_add (pv 2) (pe_op op_mul (pe_op op_mod (pe_callTy call_int1 (by rfl) (n_int W) (by decide +kernel) (pa_cons (pe_op op_fdivW (pv 0) pe_int) pa_nil)) pe_int) (pe_op op_add (pv 1) pe_int))) pa_nil)) pe_int))
    (pss_cons (ps_set (i := 2) sc_law_mixed.nd rfl (Or.inl rfl) (pe_op op_mod (pe_callTy call_int1 (by rfl) (n_int W) (by decide +kernel) (pa_cons (pe_op op_mul (pv 2) (pe_op op_add (pe_op op_add (pe_op op_fdivW (pv 2) pe_int) pe_int) (pv 1))) pa_nil)) pe_int))
    (pss_one (ps_ret (pe_op op_mod (pe_callTy call_int1 (by rfl) (n_int W) (by decide +kernel) (pa_cons (pe_op op_mul (pv 2) (pe_op op_add (pe_op op_fdivW (pv 2) pe_int) pe_int)) pa_nil)) pe_int)))))), ?_⟩
    refine q_asg (ev_op (ev_int (ev_op (ev_op (ev_op (ev_op (ev_int (ev_var rfl)) ev_c (rv_mod (by decide))) (ev_op ev_c (ev_var rfl) (rv_mul (.inl (by decide)))) rv_I0) ev_c rv_I0) ev_c (rv_I (by show (0:Int) ≤ 3 ∧ (3:Int) ≤ 1000000 ∧ (c % 2147483629 + 30011 * n + 7).natAbs < 2 ^ 64; omega)))) ev_c (rv_mod (by decide))) fun H1 e1 => ?_
    generalize hx : ((c % 2147483629 + 30011 * n + 7) ^ Int.toNat 3) = y
    refine q_asg (ev_op (ev_int (ev_op (ev_var rfl) (ev_op (ev_op (ev_int (ev_op (ev_var rfl) ev_c (rv_div ⟨by decide, by decide +kernel⟩))) ev_c (rv_mod (by decide))) (ev_op (ev_var rfl) ev_c rv_I0) (rv_mul (.inl (by show -(2^64:Int) < c / 2147483629 % 65537 ∧ c / 2147483629 % 65537 < 2 ^ 64; omega)))) rv_I0)) ev_c (rv_mod (by decide))) fun H2 e2 => ?_
    generalize hx2 : (y % 2147483647 + c / 2147483629 % 65537 * (n + 5)) = y2
    refine q_asg (ev_op (ev_int (ev_op (ev_var rfl) (ev_op (ev_op (ev_op (ev_var rfl) ev_c (rv_div ⟨by decide, by decide +kernel⟩)) ev_c rv_I0) (ev_var rfl) rv_I0) (rv_mul (.inl (by show -(2^64:Int) < y2 % 2147483587 ∧ y2 % 2147483587 < 2 ^ 64; omega))))) ev_c (rv_mod (by decide))) fun H3 e3 => ?_
    generalize hx3 : (y2 % 2147483587 * (y2 % 2147483587 / 1009 + 69621 + n)) = y3
    exact s_ret (ev_op (ev_int (ev_op (ev_var rfl) (ev_op (ev_op (ev_var rfl) ev_c (rv_div ⟨by decide, by decide +kernel⟩)) ev_c rv_I0) (rv_mul (.inl (by show -(2^64:Int) < y3 % 2147483563 ∧ y3 % 2147483563 < 2 ^ 64; omega))))) ev_c (rv_mod (by decide))) fun H4 e4 => k _ H4 (((e1.trans e2).trans e3).trans e4)
section
variable {σ : L2.St} {H : Hp} {D : L2.Ends} {ta : TA} {tm : TE} {c j m : Int} {E : XK}
theorem s_retMixed (h : EvA ta σ H [.int c, .int j]) (hm : Ev tm σ H (.int m)) (m0 : 0 < m) (j0 : 0 ≤ j) (j1 : j ≤ 2 ^ 40) (k : ∀ r H2, 0 ≤ r → r < m → Ex H H2 → D.rt (.int r) H2) :
    tRet (tOp (rI (fun _ j => 0 < j) fun i j => .int (i % j)) (tCB (fun xs H Q => (∃ i, xs = [.int i] ∧ Q (.int i) H) ∨ ∃ k, xs = [.bl k] ∧ Q (.int (if k then 1 else 0)) H) (tCons (tCall sp_law_mixed [] E ta) tNil)) tm) D σ H :=
  h H (Ex.refl H) _ fun H1 e1 => ⟨c, j, rfl, j0, j1, fun r H2 e2 => .inl ⟨r, rfl, hm H2 (e1.trans e2) _ fun H3 e3 => ⟨r, m, rfl, rfl, m0, k _ H3 (Int.emod_nonneg _ (by omega)) (Int.emod_lt_of_pos _ m0) ((e1.trans e2).trans e3)⟩⟩⟩
end
def WellAt (H : Hp) (w : Addr) (n : Int) : Prop := ∃ a c k : Int, H w = some (.lst [.int a, .int c, .int k]) ∧ 0 ≤ a ∧ 0 ≤ k ∧ k ≤ n
theorem WellAt.mono {H H' : Hp} {w : Addr} {n n' : Int} (h : WellAt H w n) (e : Ex H H') (hn : n ≤ n') : WellAt H' w n' := by
  obtain ⟨a, c, k, h1, h2, h3, h4⟩ := h
  exact ⟨a, c, k, e _ _ h1, h2, h3, by omega⟩
theorem sc_law_well : FnScope ["_law_cell"] ["_law_cell"] (defScope s_law_well) := ⟨rfl, rfl, rfl, by decide +kernel, rfl, by decide +kernel, by decide +kernel⟩
def sp_law_well : Sp := fun vs H Q _ => ∃ (c : Int), vs = [.int c] ∧ ∀ p H2, H p = none → Ex H H2 → WellAt H2 p 0 → Q (.ref p) H2
theorem ok_law_well (W : Wd K mg) : FnOk P w K mg base CX0 1 (a_law_well K) (f_law_well K) ["_law_cell"] sp_law_well := by
  refine (F_law_well W).ok sc_law_well (fun vs H Q E h => ?_) (fun cdv A outer s H vs Q E hr h => ?_)
  · obtain ⟨c, rfl, _⟩ := h
    rfl
  · obtain ⟨c, rfl, k⟩ := h
    refine ⟨_, PSs.nox (pss_one (ps_ret (pe_lst (pa_cons (pe_op op_mul (pv 0) (pe_callTy call_int1 (by rfl) (n_int W) (by decide +kernel) (pa_cons (pe_cmpR op_ge (pv 0) (pe_op op_pow pe_int pe_int) (nomark _)) pa_nil))) (pa_cons (pv 0) (pa_cons pe_int pa_nil)))))), ?_⟩
    refine s_retN (en_lst (ea_cons (ev_op (ev_var rfl) (ev_intB (ev_op (ev_var rfl) (ev_op ev_c ev_c (rv_I (by show (0:Int) ≤ 18 ∧ (18:Int) ≤ 1000000 ∧ (10 : Int).natAbs < 2 ^ 64; decide))) rv_I0)) (rv_mul (.inr (by split <;> decide)))) (ea_cons (ev_var rfl) (ea_cons ev_c ea_nil))) (show (3 : Nat) ≤ 100000 by decide)) fun p H2 hp e2 h2 => k p H2 hp e2 ⟨_, _, _, h2, ?_, by decide, by decide⟩
    by_cases h : (10 : Int) ^ Int.toNat 18 ≤ c
    · rw [decide_eq_true h]
      have : (10 : Int) ^ Int.toNat 18 = 1000000000000000000 := by decide +kernel
      show 0 ≤ c * 1
      omega
    · rw [decide_eq_false h]
      show 0 ≤ c * 0
      omega
theorem sc_law_draw : FnScope ["_law_well_here", "_law_many", "_law_found"] ["_law_well_here", "_law_many"] (defScope s_law_draw) := ⟨rfl, rfl, rfl, by decide +kernel, rfl, by decide +kernel, by decide +kernel⟩
def sp_law_draw : Sp := fun vs H Q _ => ∃ (w : Addr) (m n : Int), vs = [.ref w, .int m] ∧ WellAt H w n ∧ n ≤ 100000 ∧ 0 < m ∧ m ≤ 2 ^ 200 ∧ ∀ r H2, 0 ≤ r → r < m → Ex (hide H w) H2 → WellAt H2 w (n + 1) → Q (.int r) H2
theorem ok_law_draw (W : Wd K mg) : FnOk P w K mg base CX0 2 (a_law_draw K) (f_law_draw K) ["_law_well_here", "_law_many"] sp_law_draw := by
  refine (F_law_draw W).ok sc_law_draw (fun vs H Q E h => ?_) (fun cdv A outer s H vs Q E hr h => ?_)
  · obtain ⟨c, m, n, rfl, _⟩ := h
    rfl
  · obtain ⟨w, m, n, rfl, ⟨a, c, j, hw, a0, j0, j1⟩, nn, m0, m1, k⟩ := h
    refine ⟨_, PSs.nox (pss_cons (ps_if (pt_cmpR op_gt (pe_ix ix_list (pv 0) pe_int (fun _ _ => rfl)) pe_int (nomark _)) (pss_cons (ps_set (i := 2) sc_law_draw.nd rfl (Or.inl rfl) (pe_op op_mod (pe_callTy call_int1 (by rfl) (n_int W) (by decide +kernel) (pa_cons (pe_ix ix_list (pv 0) pe_int (fun _ _ => rfl)) pa_nil)) (pv 1)))
      (pss_cons (ps_asg (pe_op op_fdivW (pe_ix ix_list (pv 0) pe_int (fun _ _ => rfl)) (pv 1)) (pg_sub (pv 0) pe_int set_list))
      (pss_one (ps_ret (pv 2))))) pss_nil)
    (pss_cons (ps_asg (pe_op op_add (pe_ix ix_list (pv 0) pe_int (fun _ _ => rfl)) pe_int) (pg_sub (pv 0) pe_int set_list))
    (pss_one (ps_ret (pe_op op_mod (pe_callTy call_int1 (by rfl) (n_int W) (by decide +kernel) (pa_cons (pe_call (ok_law_mixed W) (hr.mono (by decide)) (by rfl) (g_law_mixed W) (F_law_mixed W).kp (b_law_mixed W) .nil pass0 (pa_cons (pe_ix ix_list (pv 0) pe_int (fun _ _ => rfl)) (pa_cons (pe_ix ix_list (pv 0) pe_int (fun _ _ => rfl)) pa_nil))) pa_nil)) (pv 1)))))), ?_⟩
    have hdiv : CDivW a m := by
      refine ⟨m0, ?_⟩
      have h1 : m.natAbs < 2 ^ 201 := by omega
      have := Nat.log2_lt (n := m.natAbs) (k := 201) (by omega)
      omega
    refine q_when (b := decide (0 < a)) (et_test (ev_op (ev_ixL (eh_of (ev_var rfl) hw) ev_c rfl) ev_c rv_I0)) (fun hb H1 e1 => ?_) fun hb H1 e1 => ?_
    · have hw1 := e1 _ _ hw
      refine q_asg (ev_op (ev_int (ev_ixL (eh_of (ev_var rfl) hw1) ev_c rfl)) (ev_var rfl) (rv_mod m0)) fun H2 e2 => ?_
      have hw2 := e2 _ _ hw1
      refine q_setL (j := 0) hw2 (ev_op (ev_ixL (eh_of (ev_var rfl) hw2) ev_c rfl) (ev_var rfl) (rv_div hdiv)) (ev_var rfl) ev_c (show 0 < 3 by decide) fun H3 e3 => ?_
      refine s_ret (ev_var rfl) fun H4 e4 => k _ H4 (Int.emod_nonneg _ (by omega)) (Int.emod_lt_of_pos _ m0) ((hide_ex.trans (e1.trans (e2.trans e3))).mut hide_no |>.trans e4) ⟨a / m, c, j, e4 _ _ upd_same, Int.ediv_nonneg a0 (by omega), j0, by omega⟩
    · have hw1 := e1 _ _ hw
      refine q_setL (j := 2) hw1 (ev_op (ev_ixL (eh_of (ev_var rfl) hw1) ev_c rfl) ev_c rv_I0) (ev_var rfl) ev_c (show 2 < 3 by decide) fun H3 e3 => ?_
      have hw3 : upd H3 w (.lst [.int a, .int c, .int (j + 1)]) w = some (.lst [.int a, .int c, .int (j + 1)]) := upd_same
      have x3 : Ex (hide H w) (upd H3 w (.lst [.int a, .int c, .int (j + 1)])) := (hide_ex.trans (e1.trans e3)).mut hide_no
      refine s_retMixed (c := c) (j := j + 1) (ea_cons (ev_ixL (eh_of (ev_var rfl) hw3) ev_c rfl) (ea_cons (ev_ixL (eh_of (ev_var rfl) hw3) ev_c rfl) ea_nil)) (ev_var rfl) m0 (by omega) (by omega) fun r H5 r0 r1 e5 => k r H5 r0 r1 (x3.trans e5) ⟨a, c, j + 1, e5 _ _ hw3, a0, by omega, by omega⟩
/-! ### what draws from the well -/
/-- all but the well is kept, the well gives n' - n numbers -/
def EvW (te : TE) (σ : L2.St) (G : Hp) (w : Addr) (n n' : Int) (R : V → Hp → Prop) : Prop := ∀ H1, Ex G H1 → WellAt H1 w n → ∀ Q : VK, (∀ v H2, R v H2 → Ex (hide H1 w) H2 → WellAt H2 w n' → Q v H2) → te σ H1 Q
def IntIn (lo hi : Int) : V → Hp → Prop := fun v _ => ∃ r, v = .int r ∧ lo ≤ r ∧ r < hi
section
variable {σ : L2.St} {G H : Hp} {w : Addr} {n n' n2 : Int} {ta tb te : TE} {D : L2.Ends} {tz : TS} {R R' : V → Hp → Prop} {v : V}
theorem hide_tr {H1 H2 : Hp} (h1 : Ex (hide H w) H1) (h2 : Ex (hide H1 w) H2) : Ex (hide H w) H2 := (ex_hide h1 hide_no).trans h2
theorem ew_of (h : Ev te σ G v) : EvW te σ G w n n fun x _ => x = v := fun H1 e hw Q q => h H1 e Q fun H2 e2 => q v H2 rfl (hide_ex.trans e2) (hw.mono e2 (Int.le_refl _))
theorem EvW.imp (h : EvW te σ G w n n' R) (i : ∀ v H, R v H → R' v H) : EvW te σ G w n n' R' := fun H1 e hw Q q => h H1 e hw Q fun v H2 r => q v H2 (i _ _ r)
theorem EvW.up (h : EvW te σ G w n n' R) (i : n' ≤ n2) : EvW te σ G w n n2 R := fun H1 e hw Q q => h H1 e hw Q fun v H2 r e2 w2 => q v H2 r e2 (w2.mono (Ex.refl _) i)
theorem EvW.mono {G' : Hp} (h : EvW te σ G w n n' R) (i : Ex G G') : EvW te σ G' w n n' R := fun H1 e hw Q q => h H1 (i.trans e) hw Q q
theorem q_asgW {i : Nat} (h : EvW te σ (hide H w) w n n' R) (hw : WellAt H w n) (k : ∀ v H1, R v H1 → Ex (hide H w) H1 → WellAt H1 w n' → tz D (σ.set i (some v)) H1) : tSeq (tAsg te (gName i)) tz D σ H := h H hide_ex hw _ k
/-- i + (a draw) -/
theorem ew_add {i lo hi lo' hi' : Int} (ha : Ev ta σ G (.int i)) (hG : G w = none) (hb : EvW tb σ G w n n' (IntIn lo hi)) (h1 : lo' ≤ i + lo) (h2 : i + hi ≤ hi') : EvW (tOp (rI0 fun i j => .int (i + j)) ta tb) σ G w n n' (IntIn lo' hi') := fun H1 e hw Q q =>
  ha H1 e _ fun H2 e2 => hb H2 (e.trans e2) (hw.mono e2 (Int.le_refl _)) _ fun v H3 r e3 w3 => by
    obtain ⟨r, rfl, r1, r2⟩ := r
    exact ⟨i, r, rfl, rfl, q _ H3 ⟨i + r, rfl, by omega, by omega⟩ ((ex_hide (hide_ex.trans e2) hide_no).trans e3) w3⟩
end
section
variable {σ : L2.St} {H : Hp} {D : L2.Ends} {ta : TA} {tl : TE} {E : XK} {w l : Addr} {n : Int} {xs : List V}
theorem s_retOne (hl1 : Ev tl σ H (.ref l)) (ha : EvA ta σ H [.ref w, .int (xs.length : Int)]) (hw : WellAt H w n) (nn : n ≤ 100000) (hl : hide H w l = some (.lst xs)) (l1 : 1 ≤ xs.length) (l2 : xs.length ≤ 1000) (k : ∀ v H2, v ∈ xs → Ex (hide H w) H2 → WellAt H2 w (n + 1) → D.rt v H2) :
    tRet (tOp (rIxL K) tl (tCall sp_law_draw [] E ta)) D σ H :=
  hl1 H (Ex.refl H) _ fun H1 e1 => ha H1 e1 _ fun H2 e2 => by
    refine ⟨w, (xs.length : Int), n, rfl, hw.mono (e1.trans e2) (Int.le_refl _), nn, by omega, ?_, fun r H3 r0 r1 e3 w3 => ?_⟩
    · have : (1000 : Int) ≤ 2 ^ 200 := by decide
      omega
    · have x3 : Ex (hide H w) H3 := (ex_hide (hide_ex.trans (e1.trans e2)) hide_no).trans e3
      have hi : r.toNat < xs.length := by omega
      refine ⟨l, xs, r, xs[r.toNat], rfl, rfl, sq_of (x3 _ _ hl), ?_, k _ H3 (List.getElem_mem hi) x3 w3⟩
      have e : r = ((r.toNat : Nat) : Int) := by omega
      have ha : atI xs ((r.toNat : Nat) : Int) = some xs[r.toNat] := atI_nat (List.getElem?_eq_getElem hi)
      rw [← e] at ha
      exact ha
end
theorem sc_law_one : FnScope ["_law_well_here", "_law_some"] ["_law_well_here", "_law_some"] (defScope s_law_one) := ⟨rfl, rfl, rfl, by decide +kernel, rfl, by decide +kernel, by decide +kernel⟩
def sp_law_one (K : PySem.W.Frag) : Sp := fun vs H Q _ => ∃ (w l : Addr) (n : Int) (xs : List V), vs = [.ref w, .ref l] ∧ WellAt H w n ∧ n ≤ 100000 ∧ hide H w l = some (.lst xs) ∧ 1 ≤ xs.length ∧ xs.length ≤ 1000 ∧ ∀ v H2, v ∈ xs → Ex (hide H w) H2 → WellAt H2 w (n + 1) → Q v H2
theorem ok_law_one (W : Wd K mg) : FnOk P w K mg base CX0 3 (a_law_one K) (f_law_one K) ["_law_well_here", "_law_some"] (sp_law_one K) := by
  refine (F_law_one W).ok sc_law_one (fun vs H Q E h => ?_) (fun cdv A outer s H vs Q E hr h => ?_)
  · obtain ⟨c, m, n, xs, rfl, _⟩ := h
    rfl
  · obtain ⟨w, l, n, xs, rfl, hw, nn, hl, l1, l2, k⟩ := h
    refine ⟨_, PSs.nox (pss_one (ps_ret (pe_ix ix_list (pv 1) (pe_call (ok_law_draw W) (hr.mono (by decide)) (by rfl) (g_law_draw W) (F_law_draw W).kp (b_law_draw W) .nil pass0 (pa_cons (pv 0) (pa_cons (pe_callB call_len_seq (by rfl) (n_len W) (by decide +kernel) (pa_cons (pv 1) pa_nil)) pa_nil))) (fun _ _ => rfl)))), ?_⟩
    have hl0 := hide_ex _ _ hl
    exact s_retOne (ev_var rfl) (ea_cons (ev_var rfl) (ea_cons (ev_lenL (eh_of (ev_var rfl) hl0)) ea_nil)) hw nn hl l1 l2 k
section
variable {σ : L2.St} {G H : Hp} {w : Addr} {n n' : Int} {ta te tw : TE} {D : L2.Ends} {tz : TS} {R : V → Hp → Prop} {v : V} {tl : TA} {o : HO}
/-- a draw below a known number -/
theorem ew_draw {E : XK} {m : Int} (hw : Ev tw σ G (.ref w)) (hm : Ev ta σ G (.int m)) (h0 : 0 < m) (h1 : m ≤ 2 ^ 200) (hn : n ≤ 100000) : EvW (tCall sp_law_draw [] E (tCons tw (tCons ta tNil))) σ G w n (n + 1) (IntIn 0 m) := fun H1 e hwl Q q =>
  ea_go ((ea_cons hw (ea_cons hm ea_nil)).mono e) fun H2 e2 => ⟨w, m, n, rfl, hwl.mono e2 (Int.le_refl _), hn, h0, h1, fun r H3 r0 r1 e3 w3 => q _ H3 ⟨r, rfl, r0, r1⟩ ((ex_hide (hide_ex.trans e2) hide_no).trans e3) w3⟩
/-- one of some known values -/
theorem ew_one {E : XK} {xs : List V} (hG : G w = none) (hw : Ev tw σ G (.ref w)) (hl : EvN te σ G (.lst xs)) (h1 : 1 ≤ xs.length) (h2 : xs.length ≤ 1000) (hn : n ≤ 100000) : EvW (tCall (sp_law_one K) [] E (tCons tw (tCons te tNil))) σ G w n (n + 1) (fun v _ => v ∈ xs) := fun H1 e hwl Q q =>
  hw H1 e _ fun H2 e2 => hl H2 (e.trans e2) _ fun l H3 hl3 e3 h3 => by
    have hwl2 := hwl.mono e2 (Int.le_refl _)
    have hne : l ≠ w := by
      obtain ⟨a, c, k, g, _⟩ := hwl2
      intro z
      rw [z, g] at hl3
      cases hl3
    exact ⟨w, l, n, xs, rfl, hwl2.mono e3 (Int.le_refl _), hn, hide_at h3 hne, h1, h2, fun v H4 hv e4 w4 => q v H4 hv ((ex_hide (hide_ex.trans (e2.trans e3)) hide_no).trans e4) w4⟩
/-- a draw below one of some numbers -/
theorem ew_drawOne {E E' : XK} {ns : List Int} {B : Int} (hG : G w = none) (hw : ∀ G', Ev tw σ G' (.ref w)) (hl : EvN te σ G (.lst (ns.map V.int))) (h1 : 1 ≤ ns.length) (h2 : ns.length ≤ 1000) (hns : ∀ m ∈ ns, 0 < m ∧ m ≤ B) (hB : B ≤ 2 ^ 200) (hn : n + 1 ≤ 100000) :
    EvW (tCall sp_law_draw [] E' (tCons tw (tCons (tCall (sp_law_one K) [] E (tCons tw (tCons te tNil))) tNil))) σ G w n (n + 2) (IntIn 0 B) := fun H1 e hwl Q q =>
  hw G H1 e _ fun H2 e2 => ew_one (K := K) hG (hw G) hl (by rw [List.length_map]; exact h1) (by rw [List.length_map]; exact h2) (by omega) H2 (e.trans e2) (hwl.mono e2 (Int.le_refl _)) _ fun v H3 hv e3 w3 => by
    obtain ⟨m, hm, rfl⟩ := List.mem_map.mp hv
    obtain ⟨m0, m1⟩ := hns m hm
    exact ⟨w, m, n + 1, rfl, w3, hn, m0, by omega, fun r H4 r0 r1 e4 w4 => q _ H4 ⟨r, rfl, r0, by omega⟩ ((ex_hide ((ex_hide (hide_ex.trans e2) hide_no).trans e3) hide_no).trans e4) (w4.mono (Ex.refl _) (by omega))⟩
end
end RW
end

section
set_option Elab.async false
set_option linter.all false
set_option maxRecDepth 100000
set_option maxHeartbeats 4000000
namespace RW
open PySem L2 Evl
variable {P : Program} {w : World} {K : PySem.W.Frag} {mg : Str → Option Value} {base : Heap}
section
variable {σ : L2.St} {H : Hp} {D : L2.Ends} {te : TE} {ta : TA} {tz : TS} {i : Int} {v y : V}
theorem eo_part (h : Ev te σ H (.int i)) : EvO (tPart te) σ H (some i) := fun H1 e Q q => h H1 e _ fun H2 e2 => ⟨i, rfl, q H2 e2⟩
theorem q_par {a b : Nat} (h : EvA ta σ H [v, y]) (k : ∀ H1, Ex H H1 → tz D ((σ.set a (some v)).set b (some y)) H1) : tSeq (tPar a b ta) tz D σ H := h H (Ex.refl H) _ fun H1 e1 => ⟨v, y, rfl, k H1 e1⟩
end
theorem int_get {l : List Int} {i : Nat} {x : V} (h : (l.map V.int)[i]? = some x) : ∃ g, l[i]? = some g ∧ x = .int g := by
  rw [List.getElem?_map] at h
  cases e : l[i]? with
  | none => rw [e] at h; cases h
  | some g => rw [e] at h; exact ⟨g, rfl, (Option.some.inj h).symm⟩
theorem gap_get {R : RS.Rul} {i : Nat} {g : Int} (h : R.gaps[i]? = some g) : i < R.n ∧ RS.gapAt R i = g := by
  have hi := (List.getElem?_eq_some_iff.mp h).1
  refine ⟨hi, ?_⟩
  rw [RS.gapAt_lt hi, List.getD_eq_getElem?_getD, h]
  rfl
theorem cut_tail {R : RS.Rul} {c : Nat} (h : c ≤ R.n) : cutV (R.gaps.map V.int) (some ((R.n : Int) - (c : Int))) none = (R.gaps.drop (R.n - c)).map V.int := by
  have e : (R.n : Int) - (c : Int) = ((R.n - c : Nat) : Int) := by omega
  have hl : (R.gaps.map V.int).length = R.n := by rw [List.length_map]
  unfold cutV
  rw [e, HT.sIx_nat, HT.sIx_none, hl, List.map_drop, Nat.min_eq_left (by omega), List.take_of_length_le (by rw [List.length_drop, hl]; exact Nat.le_refl _)]
theorem sc_law_has : FnScope ["_law_steps", "_law_ending", "_law_distance", "_law_place", "_law_gap", "_law_last", "_law_rest", "_law_partial"] ["_law_steps", "_law_ending", "_law_distance"] (defScope s_law_has) := ⟨rfl, rfl, rfl, by decide +kernel, rfl, by decide +kernel, by decide +kernel⟩
def sp_law_has (K : PySem.W.Frag) : Sp := fun vs H Q _ => ∃ (l e : Addr) (d : Int) (R : RS.Rul), vs = [.ref l, .ref e, .int d] ∧ H l = some (.lst (R.gaps.map V.int)) ∧ H e = some (.tup (tailV R.tail)) ∧ R.Ok ∧ RetV (.bl (RS.atr R d).isSome) H Q
theorem ok_law_has (W : Wd K mg) : FnOk P w K mg base CX0 1 (a_law_has K) (f_law_has K) ["_law_steps", "_law_ending", "_law_distance"] (sp_law_has K) := by
  refine (F_law_has W).ok sc_law_has (fun vs H Q E h => ?_) (fun cdv A outer s H vs Q E hr h => ?_)
  · obtain ⟨l, e, d, R, rfl, _⟩ := h
    rfl
  · obtain ⟨l, e, d, R, rfl, hl, he, ok, k⟩ := h
    refine ⟨_, PSs.nox (pss_cons (ps_set (i := 3) sc_law_has.nd rfl (Or.inl rfl) pe_int)
    (pss_cons (ps_for PassesOwn.never rfl (pi_list (pv 0)) (pg_name (i := 4) sc_law_has.nd rfl (Or.inl rfl)) (pss_cons (ps_if (pt_cmpR op_eq (pv 3) (pv 2) (nomark _)) (pss_one (ps_ret pe_bl)) pss_nil)
      (pss_one (ps_set (i := 3) sc_law_has.nd rfl (Or.inl rfl) (pe_op op_add (pv 3) (pv 4))))))
    (pss_cons (ps_if (PW.pt (pw_or (pt_cmpR op_eq (pe_ix ix_tup (pv 1) pe_int (fun _ _ => rfl)) pe_str (nomark _)) (pw_or1 (pt_cmpR op_ge (pv 3) (pv 2) (nomark _))))) (pss_one (ps_ret (pe_cmpR op_eq (pv 3) (pv 2) (nomark _)))) pss_nil)
    (pss_cons (ps_if (pt_cmpR op_eq (pe_ix ix_tup (pv 1) pe_int (fun _ _ => rfl)) pe_str (nomark _)) (pss_cons (ps_set (i := 5) sc_law_has.nd rfl (Or.inl rfl) (pe_slice sl_list (pv 0) (po_some (pe_op op_sub (pe_callB call_len_seq (by rfl) (n_len W) (by decide +kernel) (pa_cons (pv 0) pa_nil)) (pe_ix ix_tup (pv 1) pe_int (fun _ _ => rfl)))) po_none))
      (pss_cons (ps_par (i := 6) (j := 7) rfl sc_law_has.nd rfl rfl (by decide) rfl rfl (pa_cons (pe_op op_mod (pe_callTy call_int1 (by rfl) (n_int W) (by decide +kernel) (pa_cons (pe_op op_sub (pv 2) (pv 3)) pa_nil)) (pe_callB (cr_sum rfl) (by rfl) (n_sum W) (by decide +kernel) (pa_cons (pv 5) pa_nil))) (pa_cons pe_int pa_nil)) (by rfl))
      (pss_cons (ps_for PassesOwn.never rfl (pi_list (pv 5)) (pg_name (i := 4) sc_law_has.nd rfl (Or.inl rfl)) (pss_cons (ps_if (pt_cmpR op_eq (pv 7) (pv 6) (nomark _)) (pss_one (ps_ret pe_bl)) pss_nil)
        (pss_one (ps_set (i := 7) sc_law_has.nd rfl (Or.inl rfl) (pe_op op_add (pv 7) (pv 4))))))
      (pss_one (ps_ret pe_bl))))) pss_nil)
    (pss_cons (ps_set (i := 4) sc_law_has.nd rfl (Or.inl rfl) (pe_ix ix_list (pv 0) (pe_un un_neg pe_int) (fun _ _ => rfl)))
    (pss_cons (ps_while PassesOwn.never (pt_cmpR op_lt (pv 3) (pv 2) (nomark _)) (pss_cons (ps_set (i := 4) sc_law_has.nd rfl (Or.inl rfl) (pe_op op_mul (pv 4) (pe_ix ix_tup (pv 1) pe_int (fun _ _ => rfl))))
      (pss_one (ps_set (i := 3) sc_law_has.nd rfl (Or.inl rfl) (pe_op op_add (pv 3) (pv 4))))))
    (pss_one (ps_ret (pe_cmpR op_eq (pv 3) (pv 2) (nomark _)))))))))), ?_⟩
    have hbn : ∀ {i : Nat}, i ≤ R.n → RS.hasB R i = true := fun {i} hi => by
      unfold RS.hasB
      split
      · exact decide_eq_true hi
      · rfl
    refine q_asg ev_c fun H1 e1 => ?_
    refine q_forLn (a := l) (xs := R.gaps.map V.int) (ev_var rfl) (sq_of (e1 _ _ hl))
      (fun i σ' H' => Ex H H' ∧ (∃ v4, σ' = [some (.ref l), some (.ref e), some (.int d), some (.int (RS.off R i)), v4, none, none, none]) ∧ ∀ j, j < i → RS.off R j ≠ d)
      (fun H2 e2 => ⟨e1.trans e2, ⟨none, rfl⟩, fun j hj => by omega⟩) (fun i σ' H' _ hP => sq_of (hP.1 _ _ hl)) (fun i x σ' H' hx hP => ?_) (fun σ' H' hP => ?_)
    · obtain ⟨g1, ⟨v4, rfl⟩, hno⟩ := hP
      obtain ⟨g, hg, rfl⟩ := int_get hx
      obtain ⟨hi, hgap⟩ := gap_get hg
      refine q_when (b := decide (RS.off R i = d)) (et_test (ev_op (ev_var rfl) (ev_var rfl) rv_eqI)) (fun hb H2 e2 => ?_) fun hb H2 e2 => ?_
      · have := RS.has_hit ok (hbn (Nat.le_of_lt hi)) (of_decide_eq_true hb)
        rw [this] at k
        exact s_ret ev_c fun H3 e3 => k H3 ((g1.trans e2).trans e3)
      · refine s_asg (ev_op (ev_var rfl) (ev_var rfl) rv_I0) fun H3 e3 => ⟨(g1.trans e2).trans e3, ⟨_, by rw [RS.off_succ, hgap]; rfl⟩, fun j hj => ?_⟩
        by_cases z : j = i
        · rw [z]
          exact of_decide_eq_false hb
        · exact hno j (by omega)
    · obtain ⟨g1, ⟨v4, rfl⟩, hno⟩ := hP
      rw [List.length_map] at hno ⊢
      have he1 := g1 _ _ he
      have hl1 := g1 _ _ hl
      -- the answer where the listed attempts decide it
      have fin : ∀ {H2 : Hp} {D : L2.Ends}, Ex H' H2 → D.rt = Q → (d ≤ RS.off R R.n ∨ ∀ k, RS.hasB R k = true → k ≤ R.n) → tRet (tOp rEq (tVar 3) (tVar 2)) D [some (.ref l), some (.ref e), some (.int d), some (.int (RS.off R R.n)), v4, none, none, none] H2 := fun {H2 D} e2 hD hh => by
        rw [RS.has_stop ok hno hh (hbn (Nat.le_refl _))] at k
        refine s_ret (ev_op (ev_var rfl) (ev_var rfl) rv_eqI) fun H3 e3 => ?_
        rw [hD]
        exact k H3 ((g1.trans e2).trans e3)
      cases ht : R.tail with
      | fin =>
        rw [ht] at he1
        refine q_when (b := true) (et_is (et_or (a := true) (b := false) (et_test (ev_is (ev_op (ev_ixT (eh_of (ev_var rfl) he1) ev_c rfl) ev_c rv_eqS) (by decide +kernel))) (fun z => by cases z)) rfl) (fun _ H2 e2 => fin e2 rfl (.inr fun k hk => ?_)) (fun z => by cases z)
        unfold RS.hasB at hk
        rw [ht] at hk
        exact of_decide_eq_true hk
      | rep c =>
        rw [ht] at he1
        obtain ⟨c1, c2⟩ := ok.rep c ht
        refine q_when (b := decide (d ≤ RS.off R R.n)) (et_is (et_or (a := false) (et_test (ev_is (ev_op (ev_ixT (eh_of (ev_var rfl) he1) ev_c rfl) ev_c rv_eqS) (by decide +kernel))) (fun _ => et_test (ev_op (ev_var rfl) (ev_var rfl) rv_I0))) rfl) (fun hb H2 e2 => fin e2 rfl (.inl (of_decide_eq_true hb))) fun hb H2 e2 => ?_
        have hd : RS.off R R.n < d := by have := of_decide_eq_false hb; omega
        have pp := RS.per_pos ok ht
        refine q_when (b := true) (et_test (ev_is (ev_op (ev_ixT (eh_of (ev_var rfl) (e2 _ _ he1)) ev_c rfl) ev_c rv_eqS) (by decide +kernel))) (fun _ H3 e3 => ?_) fun z => by cases z
        have e23 := e2.trans e3
        refine q_asgN (en_sl (K := K) (lo := some ((R.n : Int) - (c : Int))) (hi := none) (eh_of (ev_var rfl) (e23 _ _ hl1)) (eo_part (ev_op (ev_is (ev_lenL (eh_of (ev_var rfl) (e23 _ _ hl1))) (by rw [List.length_map])) (ev_ixT (eh_of (ev_var rfl) (e23 _ _ he1)) ev_c rfl) rv_I0)) (fun H1 e Q q => q H1 (Ex.refl H1))) fun la H4 hla e4 h4 => ?_
        have hcut : cutV (R.gaps.map V.int) (some ((R.n : Int) - (c : Int))) none = (R.gaps.drop (R.n - c)).map V.int := by
          exact cut_tail c2
        rw [hcut] at h4
        have hsum : (R.gaps.drop (R.n - c)).sum = RS.per R c := RS.drop_sum c (R.n - c) (by omega)
        refine q_par (ea_cons (ev_op (ev_int (ev_op (ev_var rfl) (ev_var rfl) rv_I0)) (ev_is (ev_sum (K := K) (eh_of (ev_var rfl) h4)) (by rw [hsum])) (rv_mod (by omega))) (ea_cons ev_c ea_nil)) fun H5 e5 => ?_
        have h5 := e5 _ _ h4
        have x5 := ((g1.trans e23).trans e4).trans e5
        refine q_forLn (a := la) (xs := (R.gaps.drop (R.n - c)).map V.int) (ev_var rfl) (sq_of h5)
          (fun i σ' H' => Ex H H' ∧ H' la = some (.lst ((R.gaps.drop (R.n - c)).map V.int)) ∧ (∃ v4, σ' = [some (.ref l), some (.ref e), some (.int d), some (.int (RS.off R R.n)), v4, some (.ref la), some (.int ((d - RS.off R R.n) % RS.per R c)), some (.int (RS.off R (R.n - c + i) - RS.off R (R.n - c)))]) ∧ ∀ j, j < i → RS.off R (R.n - c + j) - RS.off R (R.n - c) ≠ (d - RS.off R R.n) % RS.per R c)
          (fun H6 e6 => ⟨x5.trans e6, e6 _ _ h5, ⟨v4, by rw [Nat.add_zero, Int.sub_self]; rfl⟩, fun j hj => by omega⟩) (fun i σ' H' _ hP => sq_of hP.2.1) (fun i x σ' H' hx hP => ?_) (fun σ' H' hP => ?_)
        · obtain ⟨g1, g2, ⟨v4, rfl⟩, hno2⟩ := hP
          obtain ⟨g, hg, rfl⟩ := int_get hx
          have hi : i < c := by
            have := (List.getElem?_eq_some_iff.mp hg).1
            rw [List.length_drop] at this
            have e : R.gaps.length = R.n := rfl
            omega
          rw [RS.drop_get (by omega)] at hg
          have hgap := Option.some.inj hg
          refine q_when (b := decide (RS.off R (R.n - c + i) - RS.off R (R.n - c) = (d - RS.off R R.n) % RS.per R c)) (et_test (ev_op (ev_var rfl) (ev_var rfl) rv_eqI)) (fun hb H6 e6 => ?_) fun hb H6 e6 => ?_
          · have := (RS.has_rep ok ht hd).mpr ⟨i, hi, of_decide_eq_true hb⟩
            rw [this] at k
            exact s_ret ev_c fun H7 e7 => k H7 ((g1.trans e6).trans e7)
          · refine s_asg (ev_op (ev_var rfl) (ev_var rfl) rv_I0) fun H7 e7 => ⟨(g1.trans e6).trans e7, e7 _ _ (e6 _ _ g2), ⟨some (.int g), ?_⟩, fun j hj => ?_⟩
            · show _ = _
              rw [show R.n - c + (i + 1) = (R.n - c + i) + 1 by omega, RS.off_succ, hgap, show RS.off R (R.n - c + i) + g - RS.off R (R.n - c) = RS.off R (R.n - c + i) - RS.off R (R.n - c) + g by omega]
              rfl
            · by_cases z : j = i
              · rw [z]
                exact of_decide_eq_false hb
              · exact hno2 j (by omega)
        · obtain ⟨g1, g2, ⟨v4, rfl⟩, hno2⟩ := hP
          have hl2 : ((R.gaps.drop (R.n - c)).map V.int).length = c := by
            rw [List.length_map, List.length_drop]
            have e : R.gaps.length = R.n := rfl
            omega
          rw [hl2] at hno2
          have : (RS.atr R d).isSome = false := by
            cases z : (RS.atr R d).isSome with
            | false => rfl
            | true =>
              obtain ⟨j, hj, h⟩ := (RS.has_rep ok ht hd).mp z
              exact absurd h (hno2 j hj)
          rw [this] at k
          exact s_ret ev_c fun H7 e7 => k H7 (g1.trans e7)
      | tim b =>
        rw [ht] at he1
        obtain ⟨b1, b2, b3⟩ := ok.tim b ht
        refine q_when (b := decide (d ≤ RS.off R R.n)) (et_is (et_or (a := false) (et_test (ev_is (ev_op (ev_ixT (eh_of (ev_var rfl) he1) ev_c rfl) ev_c rv_eqS) (by decide +kernel))) (fun _ => et_test (ev_op (ev_var rfl) (ev_var rfl) rv_I0))) rfl) (fun hb H2 e2 => fin e2 rfl (.inl (of_decide_eq_true hb))) fun hb H2 e2 => ?_
        have hd : RS.off R R.n < d := by have := of_decide_eq_false hb; omega
        refine q_when (b := false) (et_test (ev_is (ev_op (ev_ixT (eh_of (ev_var rfl) (e2 _ _ he1)) ev_c rfl) ev_c rv_eqS) (by decide +kernel))) (fun z => by cases z) fun _ H3 e3 => ?_
        have e23 := e2.trans e3
        refine q_asg (ev_ixL (eh_of (ev_var rfl) (e23 _ _ hl1)) (ev_un ev_c ru_neg) (last_at b3)) fun H4 e4 => ?_
        have x4 := (g1.trans e23).trans e4
        have hb' : ∀ i, RS.hasB R i = true := fun i => by unfold RS.hasB; rw [ht]
        refine q_while (fun m σ' H' => ∃ j, m = (d - RS.off R (R.n + j)).toNat ∧ Ex H H' ∧ σ' = [some (.ref l), some (.ref e), some (.int d), some (.int (RS.off R (R.n + j))), some (.int (R.gaps.getD (R.n - 1) 1 * b ^ j)), none, none, none] ∧ ∀ i, i < R.n + j → RS.off R i ≠ d) (d - RS.off R R.n).toNat ⟨0, rfl, x4, ?_, hno⟩ ?_
        · rw [Int.pow_zero, Int.mul_one]
          rfl
        · rintro m σ' H5 ⟨j, rfl, g5, rfl, hno5⟩
          refine ⟨decide (RS.off R (R.n + j) < d), et_test (ev_op (ev_var rfl) (ev_var rfl) rv_I0), fun hb H6 e6 => ?_, fun hb H6 e6 => ?_⟩
          · have hb := of_decide_eq_true hb
            refine ⟨fun σ2 H2 => Ex H H2 ∧ σ2 = [some (.ref l), some (.ref e), some (.int d), some (.int (RS.off R (R.n + (j + 1)))), some (.int (R.gaps.getD (R.n - 1) 1 * b ^ (j + 1))), none, none, none], fun σ2 H2 hN => ⟨_, ?_, j + 1, rfl, hN.1, hN.2, fun i hi => ?_⟩, ?_⟩
            · have := RS.off_lt ok (show R.n + j < R.n + (j + 1) by omega)
              omega
            · by_cases z : i = R.n + j
              · rw [z]
                omega
              · exact hno5 i (by omega)
            · refine q_asg (ev_op (ev_var rfl) (ev_ixT (eh_of (ev_var rfl) (e6 _ _ (g5 _ _ (by rw [ht] at he; exact he)))) ev_c rfl) (rv_mul (.inr (by omega)))) fun H7 e7 => ?_
              refine s_asg (ev_op (ev_var rfl) (ev_var rfl) rv_I0) fun H8 e8 => ⟨((g5.trans e6).trans e7).trans e8, ?_⟩
              have hg : RS.gapAt R (R.n + j) = R.gaps.getD (R.n - 1) 1 * b ^ j * b := by
                unfold RS.gapAt
                rw [if_neg (by omega), ht]
                show R.gaps.getD (R.n - 1) 1 * b ^ (R.n + j + 1 - R.n) = _
                rw [show R.n + j + 1 - R.n = j + 1 by omega, Int.pow_succ, Int.mul_assoc]
              rw [← Nat.add_assoc, RS.off_succ, hg, Int.pow_succ, ← Int.mul_assoc]
              rfl
          · have hb := of_decide_eq_false hb
            rw [RS.has_stop ok hno5 (.inl (by omega)) (hb' _)] at k
            exact s_ret (ev_op (ev_var rfl) (ev_var rfl) rv_eqI) fun H7 e7 => k H7 ((g5.trans e6).trans e7)
theorem law_has_at {H : Hp} {l e : Addr} {d : Int} {R : RS.Rul} (hl : H l = some (.lst (R.gaps.map V.int))) (he : H e = some (.tup (tailV R.tail))) (ok : R.Ok) : SpV (sp_law_has K) [.ref l, .ref e, .int d] H (.bl (RS.atr R d).isSome) := fun H1 x Q q _ => ⟨l, e, d, R, rfl, x _ _ hl, x _ _ he, ok, q⟩
end RW
end

section
set_option Elab.async false
set_option linter.all false
set_option maxRecDepth 100000
set_option maxHeartbeats 4000000
namespace RW
open PySem L2 Evl
variable {P : Program} {w : World} {K : PySem.W.Frag} {mg : Str → Option Value} {base : Heap}
def EvP (te : TE) (σ : L2.St) (H : Hp) (Pr : Addr → Hp → Prop) : Prop := ∀ H1, Ex H H1 → ∀ Q : VK, (∀ r H2, Ex H1 H2 → Pr r H2 → Q (.ref r) H2) → te σ H1 Q
section
variable {σ : L2.St} {H H3 H' : Hp} {D : L2.Ends} {tg te tr tb tw tl : TE} {E : XK} {x dx : Addr} {o : HO}
theorem make_old {C : Addr} (hx : H3 x = none) (hdx : H3 dx = none) {b : Addr} {u : HO} (h : H3 b = some u) : upd (upd H3 dx (.own x)) x (.ins C dx []) b = some u := by
  rw [upd_ne (ne_of_none h hx), upd_ne (ne_of_none h hdx)]
  exact h
theorem ep_rule {e : Addr} {R : RS.Rul} (hg : EvN tg σ H (.lst (R.gaps.map V.int))) (he : Ev te σ H (.ref e)) (hoe : H e = some (.tup (tailV R.tail))) (ok : R.Ok) :
    EvP (tMake (He.ga K "Rule") (sp_R_init K) [] E (tCons tg (tCons te tNil))) σ H (fun r H2 => RuleAt K H2 r R) := fun H1 e1 Q q =>
  hg H1 e1 _ fun g H2 _ e2 h2 => he H2 (e1.trans e2) _ fun H3 e3 => fun x dx hx hdx hne =>
    ⟨x, dx, g, e, R, rfl, upd_same, make_old hx hdx (e3 _ _ h2), make_old hx hdx (((e1.trans e2).trans e3) _ _ hoe), ok, fun H' hR old => ⟨rfl, q x H' (fun b u hb => by
      have h3 := (e2.trans e3) _ _ hb
      exact old b u (make_old hx hdx h3) (ne_of_none h3 hx)) hR⟩⟩
theorem s_retScene {ws : List Addr} {S : RS.Scn} (hr : EvP tr σ H (fun r H2 => RuleAt K H2 r S.rule)) (hb : EvN tb σ H (.lst (S.starts.map V.int))) (hw : EvN tw σ H (.lst (ws.map V.ref))) (hwn : WinsAt H ws S.outs) (hl : Ev tl σ H (.int S.len)) (ok : S.Ok)
    (k : ∀ p H2, Ex H H2 → SceneAt K H2 p S → D.rt (.ref p) H2) : tRet (tMakeK (He.ga K "Scene") 2 2 (sp_S_init K) (fun vs zs => vs ++ zs) E (tCons tr (tCons tb tNil)) (tCons tw (tCons tl tNil))) D σ H :=
  hr H (Ex.refl H) _ fun r H1 e1 hR => hb H1 e1 _ fun b H2 _ e2 h2 => hw H2 (e1.trans e2) _ fun t H3 _ e3 h3 => hl H3 ((e1.trans e2).trans e3) _ fun H4 e4 => ⟨rfl, rfl, fun x dx hx hdx hne => by
    have e14 := ((e1.trans e2).trans e3).trans e4
    have hR4 := hR.mono ((e2.trans e3).trans e4)
    have old4 : Ex H4 (upd (upd H4 dx (.own x)) x (.ins (He.ga K "Scene") dx [])) := fun b u hb => make_old hx hdx hb
    have rx : r ≠ x := by
      obtain ⟨_, _, _, _, r1, _⟩ := hR4
      exact ne_of_none r1 hx
    exact ⟨x, dx, r, b, t, ws, S, rfl, upd_same, hR4.mono old4, rx, old4 _ _ (e4 _ _ (e3 _ _ h2)), old4 _ _ (e4 _ _ h3), (hwn.mono e14).mono old4, ok, fun H' hS old => ⟨rfl, k x H' (fun b u hb => by
      have h4 := e14 _ _ hb
      exact old b u (old4 _ _ h4) (ne_of_none h4 hx)) hS⟩⟩⟩
end
def PartsAt (H : Hp) (p : Addr) (S : RS.Scn) : Prop := ∃ l e b wd ws, H p = some (.tup [.ref l, .ref e, .ref b, .ref wd, .int S.len]) ∧ H l = some (.lst (S.rule.gaps.map V.int)) ∧ H e = some (.tup (tailV S.rule.tail)) ∧ H b = some (.lst (S.starts.map V.int)) ∧ H wd = some (.lst (ws.map V.ref)) ∧ WinsAt H ws S.outs
theorem PartsAt.mono {H H' : Hp} {p : Addr} {S : RS.Scn} (e : Ex H H') (h : PartsAt H p S) : PartsAt H' p S := by
  obtain ⟨l, t, b, wd, ws, h1, h2, h3, h4, h5, h6⟩ := h
  exact ⟨l, t, b, wd, ws, e _ _ h1, e _ _ h2, e _ _ h3, e _ _ h4, e _ _ h5, h6.mono e⟩
theorem q_parts {te : TE} {σ : L2.St} {H : Hp} {D : L2.Ends} {tz : TS} {i1 i2 i3 i4 i5 : Nat} {v1 v2 v3 v4 v5 : V} (h : EvH te σ H (.tup [v1, v2, v3, v4, v5]))
    (k : ∀ H1, Ex H H1 → tz D (((((σ.set i1 (some v1)).set i2 (some v2)).set i3 (some v3)).set i4 (some v4)).set i5 (some v5)) H1) :
    tSeq (tAsg te (gTup K 5 (gCons (gName i1) (gCons (gName i2) (gCons (gName i3) (gCons (gName i4) (gCons (gName i5) gNil))))))) tz D σ H :=
  q_asgT h rfl fun H1 e1 => ⟨_, _, rfl, _, _, rfl, _, _, rfl, _, _, rfl, _, _, rfl, rfl, k H1 e1⟩
theorem sc_law_made : FnScope ["_law_parts", "_law_steps", "_law_ending", "_law_begins", "_law_windows", "_law_long"] ["_law_parts"] (defScope s_law_made) := ⟨rfl, rfl, rfl, by decide +kernel, rfl, by decide +kernel, by decide +kernel⟩
def sp_law_made (K : PySem.W.Frag) : Sp := fun vs H Q _ => ∃ (p : Addr) (S : RS.Scn), vs = [.ref p] ∧ PartsAt H p S ∧ S.Ok ∧ ∀ a H2, Ex H H2 → SceneAt K H2 a S → Q (.ref a) H2
theorem ok_law_made (W : Wd K mg) : FnOk P w K mg base CX0 6 (a_law_made K) (f_law_made K) ["_law_parts"] (sp_law_made K) := by
  refine (F_law_made W).ok sc_law_made (fun vs H Q E h => ?_) (fun cdv A outer s H vs Q E hr h => ?_)
  · obtain ⟨p, S, rfl, _⟩ := h
    rfl
  · obtain ⟨p, S, rfl, ⟨l, e, b, wd, ws, h1, h2, h3, h4, h5, h6⟩, ok, k⟩ := h
    refine ⟨_, PSs.nox (pss_cons (ps_asg (pv 0) (pg_tup rfl (pgs_cons (pg_name (i := 1) sc_law_made.nd rfl (Or.inl rfl)) (pgs_cons (pg_name (i := 2) sc_law_made.nd rfl (Or.inl rfl)) (pgs_cons (pg_name (i := 3) sc_law_made.nd rfl (Or.inl rfl)) (pgs_cons (pg_name (i := 4) sc_law_made.nd rfl (Or.inl rfl)) (pgs_cons (pg_name (i := 5) sc_law_made.nd rfl (Or.inl rfl)) pgs_nil)))))))
    (pss_one (ps_ret (pe_makeK (n := 2) (ks := ["outages", "length"]) (mk_Scene W) (ok_S_init W) (hr.mono (by decide)) (by rfl) (g_Scene W) (kb_S_init W).choose_spec pass0 (pa_cons (pe_make (mk_Rule W) (ok_R_init W) (hr.mono (by decide)) (by rfl) (g_Rule W) (b_R_init W) .nil pass0 (pa_cons (pe_callTy call_list_of (by rfl) (n_list W) (by decide +kernel) (pa_cons (pv 1) pa_nil)) (pa_cons (pv 2) pa_nil))) (pa_cons (pe_callTy call_list_of (by rfl) (n_list W) (by decide +kernel) (pa_cons (pv 3) pa_nil)) pa_nil)) (pk_cons (pe_callTy call_list_of (by rfl) (n_list W) (by decide +kernel) (pa_cons (pv 4) pa_nil)) (pk_cons (pv 5) pk_nil)))))), ?_⟩
    refine q_parts (eh_of (ev_var rfl) h1) fun H1 e1 => ?_
    exact s_retScene (ws := ws) (ep_rule (en_list (eh_of (ev_var rfl) (e1 _ _ h2))) (ev_var rfl) (e1 _ _ h3) ok.rule) (en_list (eh_of (ev_var rfl) (e1 _ _ h4))) (en_list (eh_of (ev_var rfl) (e1 _ _ h5))) (h6.mono e1) (ev_var rfl) ok fun a H2 e2 hS => k a H2 (e1.trans e2) hS
end RW
end

section
set_option Elab.async false
set_option linter.all false
set_option maxRecDepth 100000
set_option maxHeartbeats 4000000
namespace RW
open PySem L2 Evl
/-! ### == of lists of ints -/
theorem lay_ints : ∀ l : List Int, PyData.canLayAll0 (l.map PyData.int) = true
  | [] => rfl
  | a :: r => by
    rw [List.map_cons]
    unfold PyData.canLayAll0
    rw [lay_ints r]
    rfl
theorem depth_ints : ∀ l : List Int, PyData.depthAll (l.map PyData.int) = 0
  | [] => rfl
  | a :: r => by
    rw [List.map_cons]
    unfold PyData.depthAll
    rw [depth_ints r]
    rfl
theorem shaped_ints (l : List Int) : SeqAt.shaped (.list (l.map PyData.int)) = true := by
  unfold SeqAt.shaped
  have h1 : PyData.canLay0 (.list (l.map PyData.int)) = true := by
    unfold PyData.canLay0
    exact lay_ints l
  have h2 : PyData.depth (.list (l.map PyData.int)) = 1 := by
    unfold PyData.depth
    rw [depth_ints]
  rw [h1, h2]
  rfl
theorem eqv_all : ∀ a b : List Int, PyData.eqvAll (a.map PyData.int) (b.map PyData.int) = decide (a = b)
  | [], [] => by simp [PyData.eqvAll]
  | [], y :: t => by simp [PyData.eqvAll]
  | x :: r, [] => by simp [PyData.eqvAll]
  | x :: r, y :: t => by
    rw [List.map_cons, List.map_cons]
    unfold PyData.eqvAll
    rw [eqv_all r t]
    unfold PyData.eqv
    by_cases h : x = y
    · by_cases g : r = t
      · simp [h, g]
      · simp [h, g]
    · simp [h]
theorem eqv_ints (a b : List Int) : PyData.eqv (.list (a.map PyData.int)) (.list (b.map PyData.int)) = decide (a = b) := by
  unfold PyData.eqv
  exact eqv_all a b
section
variable {K : PySem.W.Frag} {σ : L2.St} {H : Hp} {ta tb : TE}
theorem dpa_ints : ∀ l : List Int, DpAll K H (l.map V.int) (l.map PyData.int)
  | [] => .nil
  | a :: r => .cons (.int a) (dpa_ints r)
theorem ev_neInts {a b : List Int} (ha : EvH ta σ H (.lst (a.map V.int))) (hb : EvH tb σ H (.lst (b.map V.int))) : Ev (tOp (rNeD K) ta tb) σ H (.bl (!decide (a = b))) := fun H1 e Q q =>
  ha H1 e _ fun p H2 e2 h2 => hb H2 (e.trans e2) _ fun u H3 e3 h3 => ⟨_, _, .lst (sq_of (e3 _ _ h2)) (dpa_ints a), .lst (sq_of h3) (dpa_ints b), shaped_ints a, shaped_ints b, by rw [eqv_ints]; exact q H3 (e2.trans e3)⟩
end
/-! ### what draws from the well, further -/
section
variable {K : PySem.W.Frag} {σ : L2.St} {G H : Hp} {w : Addr} {n n' n1 : Int} {ta te tb : TE} {D : L2.Ends} {tz tu : TS} {R : V → Hp → Prop} {j : Nat} {vs : List Nat}
theorem WellAt.upd {l : Addr} {o : HO} (h : WellAt H w n) (hne : w ≠ l) : WellAt (upd H l o) w n := by
  obtain ⟨a, c, k, h1, h2⟩ := h
  exact ⟨a, c, k, by rw [upd_ne hne]; exact h1, h2⟩
theorem WellAt.some (h : WellAt H w n) : ∃ o, H w = some o := let ⟨_, _, _, h1, _⟩ := h; ⟨_, h1⟩
theorem WellAt.ne {l : Addr} (h : WellAt H w n) (hl : H l = none) : l ≠ w := by
  obtain ⟨o, ho⟩ := h.some
  intro z
  rw [z, ho] at hl
  cases hl
/-- a known list of numbers -/
def IsInts (w : Addr) (lo hi N : Int) : V → Hp → Prop := fun v H => ∃ (p : Addr) (ns : List Int), v = .ref p ∧ p ≠ w ∧ H p = some (.lst (ns.map V.int)) ∧ (ns.length : Int) < N ∧ ∀ x ∈ ns, lo ≤ x ∧ x < hi
/-- [a draw for k in range(a draw)] -/
theorem ew_lcR {lo hi N c : Int} (hG : G w = none) (hb : EvW tb σ G w n n1 (IntIn 0 N)) (hN : N ≤ 1000) (hc : ∀ r : Nat, (r : Int) < N → n1 + (r : Int) * c ≤ n') (hw : ∀ x, wipe ((wipe σ vs).set j (some x)) vs = wipe σ vs)
    (he : ∀ (i : Nat) (m : Int) G', Ex G G' → G' w = none → m ≤ n' → EvW te ((wipe σ vs).set j (some (.int (i : Int)))) G' w m (m + c) (IntIn lo hi)) (hc0 : 0 ≤ c) :
    EvW (tLc (iRng1 (tCons tb tNil)) (gName j) tYes te vs) σ G w n n' (IsInts w lo hi N) := fun H0 e hwl Q q =>
  hb H0 e hwl _ fun v H1 r e1 w1 => by
    obtain ⟨r, rfl, r0, r1⟩ := r
    refine ⟨r, rfl, by omega, by omega, fun Dl hD => ?_⟩
    have hDw := w1.ne hD
    have eG1 : Ex G (hide H1 w) := ex_hide ((ex_hide e hG).trans e1) hG
    refine lc_it (walk_range (lo := 0) (n := r.toNat)) (fun i H => Ex (hide H1 w) H ∧ WellAt H w (n1 + (i : Int) * c) ∧ ∃ ns : List Int, H Dl = some (.lst (ns.map V.int)) ∧ ns.length = i ∧ ∀ x ∈ ns, lo ≤ x ∧ x < hi)
      ⟨hide_ex.trans (Ex.new hD), (w1.mono (Ex.new hD) (by simp)), [], upd_same, rfl, fun x hx => by cases hx⟩ (fun _ _ _ _ => True.intro) (fun i x H H' hi p y => ?_) (fun H p => ?_)
    · obtain ⟨p1, p2, ns, p3, p4, p5⟩ := p
      obtain ⟨rfl, rfl⟩ := y
      show gName j (.int (0 + (i : Int))) _ _ _
      rw [Int.zero_add]
      refine ⟨hw _, ?_⟩
      refine he i _ (hide H1 w) eG1 hide_no ?_ H' p1 p2 _ fun v H4 r4 e4 w4 => ?_
      · have := hc (i + 1) (by omega)
        rw [show ((i + 1 : Nat) : Int) = (i : Int) + 1 by omega, Int.add_mul] at this
        omega
      · obtain ⟨x, rfl, x0, x1⟩ := r4
        have hD4 : H4 Dl = some (.lst (ns.map V.int)) := e4 _ _ (hide_at p3 hDw)
        refine ⟨_, hD4, sz_lt (by rw [List.length_map]; omega), ?_, ?_, ns ++ [x], ?_, ?_, ?_⟩
        · exact (hide_tr (w := w) p1 e4).mut (by unfold hide; rw [if_neg hDw]; exact hD)
        · refine WellAt.upd ?_ (Ne.symm hDw)
          refine w4.mono (Ex.refl _) ?_
          rw [show ((i + 1 : Nat) : Int) = (i : Int) + 1 by omega, Int.add_mul]
          omega
        · rw [upd_same, List.map_append]
          rfl
        · simp [p4]
        · intro z hz
          rcases List.mem_append.mp hz with h | h
          · exact p5 z h
          · rw [List.mem_singleton.mp h]
            exact ⟨x0, x1⟩
    · obtain ⟨p1, p2, ns, p3, p4, p5⟩ := p
      refine q (.ref Dl) H ⟨Dl, ns, rfl, hDw, p3, by omega, p5⟩ (hide_tr e1 p1) (p2.mono (Ex.refl _) ?_)
      have := hc r.toNat (by omega)
      exact this
/-- for k in range(a draw) -/
theorem q_forRW {lo N : Int} (hb : EvW tb σ (hide H w) w n n1 (IntIn lo N)) (hw : WellAt H w n) (hlo : 0 ≤ lo) (hN : N ≤ 1000) (Pv : Int → Nat → L2.St → Hp → Prop) (h0 : ∀ r H1, lo ≤ r → r < N → Ex (hide H w) H1 → WellAt H1 w n1 → Pv r 0 σ H1)
    (hs : ∀ r (i : Nat) σ' H', r < N → (i : Int) < r → Pv r i σ' H' → tu { D with nx := Pv r (i + 1), ct := Pv r (i + 1), bk := tz D } (σ'.set j (some (.int (i : Int)))) H') (hd : ∀ r σ' H', lo ≤ r → r < N → Pv r r.toNat σ' H' → tz D σ' H') :
    tSeq (tFor (iRng1 (tCons tb tNil)) (gName j) tu) tz D σ H :=
  hb H hide_ex hw _ fun v H1 r e1 w1 => by
    obtain ⟨r, rfl, r0, r1⟩ := r
    refine ⟨r, rfl, by omega, by omega, for_it (D := { D with nx := tz D }) (walk_range (lo := 0) (n := r.toNat)) (Pv r) (h0 r H1 r0 r1 e1 w1) (fun _ _ _ _ _ => True.intro) (fun i x σ' H' H'' hi p y => ?_) (fun σ' H' p => hd r σ' H' r0 r1 p)⟩
    obtain ⟨rfl, rfl⟩ := y
    show tu _ (σ'.set j (some (.int (0 + (i : Int))))) H''
    rw [Int.zero_add]
    exact hs r i σ' H'' r1 (by omega) p
/-- l.append(..) -/
theorem q_appW {l : Addr} {xs : List V} (hl : hide H w l = some (.lst xs)) (hw : WellAt H w n) (ha : Ev ta σ H (.ref l)) (h : EvW te σ (hide H w) w n n' R) (hz : xs.length < 100000) (k : ∀ v H1, R v H1 → Ex (hide H w) H1 → WellAt H1 w n' → tz D σ (upd H1 l (.lst (xs ++ [v])))) :
    tSeq (tDrop (tBM K "list" rAppend ta (tCons te tNil))) tz D σ H := ha H (Ex.refl H) _ fun H1 e1 =>
  ⟨Or.inl ⟨rfl, xs, sq_of (e1 l _ (hide_ex _ _ hl))⟩, h H1 (hide_ex.trans e1) (hw.mono e1 (Int.le_refl _)) _ fun v H2 r e2 w2 => by
    have e12 : Ex (hide H w) H2 := (ex_hide (hide_ex.trans e1) hide_no).trans e2
    exact ⟨l, xs, v, rfl, rfl, e12 _ _ hl, sz_lt hz, k v H2 r e12 w2⟩⟩
theorem s_appW {l : Addr} {xs : List V} (hl : hide H w l = some (.lst xs)) (hw : WellAt H w n) (ha : Ev ta σ H (.ref l)) (h : EvW te σ (hide H w) w n n' R) (hz : xs.length < 100000) (k : ∀ v H1, R v H1 → Ex (hide H w) H1 → WellAt H1 w n' → D.nx σ (upd H1 l (.lst (xs ++ [v])))) :
    tDrop (tBM K "list" rAppend ta (tCons te tNil)) D σ H := ha H (Ex.refl H) _ fun H1 e1 =>
  ⟨Or.inl ⟨rfl, xs, sq_of (e1 l _ (hide_ex _ _ hl))⟩, h H1 (hide_ex.trans e1) (hw.mono e1 (Int.le_refl _)) _ fun v H2 r e2 w2 => by
    have e12 : Ex (hide H w) H2 := (ex_hide (hide_ex.trans e1) hide_no).trans e2
    exact ⟨l, xs, v, rfl, rfl, e12 _ _ hl, sz_lt hz, k v H2 r e12 w2⟩⟩
/-- (a, a draw) -/
theorem ew_pair {a lo hi : Int} (hG : G w = none) (ha : Ev ta σ G (.int a)) (hb : EvW tb σ G w n n' (IntIn lo hi)) : EvW (tTup (tCons ta (tCons tb tNil))) σ G w n n' (fun v H => ∃ t r, v = .ref t ∧ t ≠ w ∧ H t = some (.tup [.int a, .int r]) ∧ lo ≤ r ∧ r < hi) := fun H1 e hwl Q q =>
  ha H1 e _ fun H2 e2 => hb H2 (e.trans e2) (hwl.mono e2 (Int.le_refl _)) _ fun v H3 r e3 w3 => by
    obtain ⟨r, rfl, r0, r1⟩ := r
    refine ⟨sz_of (show (2 : Nat) ≤ 100000 by decide), fun t ht => ?_⟩
    exact q _ _ ⟨t, r, rfl, w3.ne ht, upd_same, r0, r1⟩ (((ex_hide (hide_ex.trans e2) hide_no).trans e3).trans (Ex.new ht)) (w3.upd (Ne.symm (w3.ne ht)))
/-- one of a known list's values -/
theorem ew_oneH {E : XK} {l : Addr} {xs : List V} (hw : Ev ta σ G (.ref w)) (hl : Ev te σ G (.ref l)) (hol : G l = some (.lst xs)) (hG : G w = none) (h1 : 1 ≤ xs.length) (h2 : xs.length ≤ 1000) (hn : n ≤ 100000) : EvW (tCall (sp_law_one K) [] E (tCons ta (tCons te tNil))) σ G w n (n + 1) (fun v _ => v ∈ xs) := fun H1 e hwl Q q =>
  hw H1 e _ fun H2 e2 => hl H2 (e.trans e2) _ fun H3 e3 => by
    have hne : l ≠ w := by
      intro z
      rw [z, hG] at hol
      cases hol
    have e13 := (e.trans e2).trans e3
    exact ⟨w, l, n, xs, rfl, hwl.mono (e2.trans e3) (Int.le_refl _), hn, hide_at (e13 _ _ hol) hne, h1, h2, fun v H4 hv e4 w4 => q v H4 hv ((ex_hide (hide_ex.trans (e2.trans e3)) hide_no).trans e4) w4⟩
end
end RW
end

section
set_option Elab.async false
set_option linter.all false
set_option maxRecDepth 100000
set_option maxHeartbeats 4000000
namespace RW
open PySem L2 Evl
variable {P : Program} {w0 : World} {K : PySem.W.Frag} {mg : Str → Option Value} {base : Heap}
def Tl (N : Nat) (t : RS.Tail) : Prop := (∀ b, t = .tim b → 2 ≤ b ∧ b < 32) ∧ ∀ c, t = .rep c → 1 ≤ c ∧ c ≤ N
theorem tl_fin {N : Nat} : Tl N .fin := ⟨fun b h => (by cases h), fun c h => (by cases h)⟩
theorem tl_tim {N : Nat} {b : Int} (h1 : 2 ≤ b) (h2 : b < 32) : Tl N (.tim b) := ⟨fun c h => (by cases h; exact ⟨h1, h2⟩), fun c h => (by cases h)⟩
theorem tl_rep {N c : Nat} (h1 : 1 ≤ c) (h2 : c ≤ N) : Tl N (.rep c) := ⟨fun b h => (by cases h), fun d h => (by cases h; exact ⟨h1, h2⟩)⟩
def IsTail (w : Addr) (N : Nat) (v : V) (H : Hp) : Prop := ∃ t tl, v = .ref t ∧ t ≠ w ∧ H t = some (.tup (tailV tl)) ∧ Tl N tl
section
variable {σ : L2.St} {G H : Hp} {w : Addr} {n n' n1 n2 : Int} {ta te tb t1 t2 : TE} {tt : TT} {D : L2.Ends} {tz tu : TS} {R : V → Hp → Prop} {j : Nat} {vs : List Nat} {b : Bool} {o : HO}
theorem IsTail.mono {H' : Hp} {N : Nat} {v : V} (h : IsTail w N v H) (e : Ex (hide H w) H') : IsTail w N v H' := by
  obtain ⟨t, tl, h1, h2, h3, h4⟩ := h
  exact ⟨t, tl, h1, h2, e _ _ (hide_at h3 h2), h4⟩
theorem ew_if (h : EvT tt σ G b) (hG : G w = none) (h1 : b = true → EvW ta σ G w n n' R) (h2 : b = false → EvW tb σ G w n n' R) : EvW (tIf tt ta tb) σ G w n n' R := fun H1 e hw Q q => h H1 e _ fun H2 e2 => by
  have hh : Ex (hide H1 w) (hide H2 w) := hide_mono e2
  cases b with
  | true =>
    show ta σ H2 Q
    exact h1 rfl H2 (e.trans e2) (hw.mono e2 (Int.le_refl _)) Q fun v H3 r e3 w3 => q v H3 r (hh.trans e3) w3
  | false =>
    show tb σ H2 Q
    exact h2 rfl H2 (e.trans e2) (hw.mono e2 (Int.le_refl _)) Q fun v H3 r e3 w3 => q v H3 r (hh.trans e3) w3
theorem ew_new (h : EvN te σ G o) : EvW te σ G w n n (fun v H => ∃ t, v = .ref t ∧ t ≠ w ∧ H t = some o) := fun H1 e hw Q q => h H1 e Q fun t H2 ht e2 h2 => q _ H2 ⟨t, rfl, hw.ne ht, h2⟩ (hide_ex.trans e2) (hw.mono e2 (Int.le_refl _))
theorem q_whenSetN {i : Nat} {v0 : V} (h : EvT tt σ H b) (h1 : b = true → EvN te σ H o) (h2 : σ.set i (some v0) = σ) (k : ∀ v H1, Ex H H1 → ((b = true ∧ ∃ a, v = .ref a ∧ H a = none ∧ H1 a = some o) ∨ (b = false ∧ v = v0)) → tz D (σ.set i (some v)) H1) : tSeq (tIfS tt (tAsg te (gName i)) tNext) tz D σ H :=
  q_when h (fun hb H1 e1 => s_asgN (D := { D with nx := tz D }) ((h1 hb).mono e1) fun a H2 ha e2 h2 => k (.ref a) H2 (e1.trans e2) (.inl ⟨hb, a, rfl, fresh_back e1 ha, h2⟩)) (fun hb H1 e1 => by
    have g := k v0 H1 e1 (.inr ⟨hb, rfl⟩)
    rw [h2] at g
    exact g)
/-- [("end",)] + [("times", ..), ("repeat", ..)] * 2 -/
theorem ew_some {N : Nat} (hG : G w = none) (h1 : EvW t1 σ G w n n1 (IntIn 2 32)) (h2 : EvW t2 σ G w n1 n2 (IntIn 1 ((N : Int) + 1))) :
    EvW (tOp rCat (tLst (tCons (tTup (tCons (tC (.str "end")) tNil)) tNil)) (tOp rRep (tLst (tCons (tTup (tCons (tC (.str "times")) (tCons t1 tNil))) (tCons (tTup (tCons (tC (.str "repeat")) (tCons t2 tNil))) tNil))) (tC (.int 2)))) σ G w n n2
      (fun v H => ∃ (l : Addr) (xs : List V), v = .ref l ∧ l ≠ w ∧ H l = some (.lst xs) ∧ xs.length = 5 ∧ ∀ x ∈ xs, IsTail w N x H) := fun H1 e hwl Q q => by
  refine ⟨sz_of (show (1 : Nat) ≤ 100000 by decide), fun t0 ht0 => ⟨sz_of (show (1 : Nat) ≤ 100000 by decide), fun l0 hl0 => ?_⟩⟩
  have a1 := Ex.new (o := .tup [.str "end"]) ht0
  have a2 := Ex.new (o := .lst [.ref t0]) hl0
  have wa := (hwl.mono a1 (Int.le_refl _)).mono a2 (Int.le_refl _)
  have f0 := a2 _ _ (upd_same (H := H1) (a := t0) (o := .tup [.str "end"]))
  have g0 := upd_same (H := upd H1 t0 (.tup [.str "end"])) (a := l0) (o := .lst [.ref t0])
  have n0 := hwl.ne ht0
  have m0 := (hwl.mono a1 (Int.le_refl _)).ne hl0
  have a12 := a1.trans a2
  generalize upd (upd H1 t0 (.tup [.str "end"])) l0 (.lst [.ref t0]) = A at *
  refine h1 A (e.trans a12) wa _ fun v1 H2 r1 e2 w2 => ⟨sz_of (show (2 : Nat) ≤ 100000 by decide), fun p1 hp1 => ?_⟩
  obtain ⟨r1, rfl, r10, r11⟩ := r1
  have a3 := Ex.new (o := .tup [.str "times", .int r1]) hp1
  have f1 := upd_same (H := H2) (a := p1) (o := .tup [.str "times", .int r1])
  have n1' := w2.ne hp1
  have w3 := w2.mono a3 (Int.le_refl _)
  have x3 : Ex (hide A w) (upd H2 p1 (.tup [.str "times", .int r1])) := e2.trans a3
  generalize upd H2 p1 (.tup [.str "times", .int r1]) = B at *
  refine h2 B ((ex_hide (e.trans a12) hG).trans x3) w3 _ fun v2 H3 r2 e3 w4 => ⟨sz_of (show (2 : Nat) ≤ 100000 by decide), fun p2 hp2 => ⟨sz_of (show (2 : Nat) ≤ 100000 by decide), fun l1 hl1 => ?_⟩⟩
  obtain ⟨r2, rfl, r20, r21⟩ := r2
  have a4 := Ex.new (o := .tup [.str "repeat", .int r2]) hp2
  have f2 := upd_same (H := H3) (a := p2) (o := .tup [.str "repeat", .int r2])
  have n2' := w4.ne hp2
  have a5 := Ex.new (o := .lst [.ref p1, .ref p2]) hl1
  have w5 := (w4.mono a4 (Int.le_refl _)).mono a5 (Int.le_refl _)
  have f2' := a5 _ _ f2
  have x5 : Ex (hide B w) (upd (upd H3 p2 (.tup [.str "repeat", .int r2])) l1 (.lst [.ref p1, .ref p2])) := e3.trans (a4.trans a5)
  refine ⟨l1, 2, [.ref p1, .ref p2], rfl, rfl, upd_same, by decide, by decide, sz_of (show (4 : Nat) ≤ 100000 by decide), fun l2 hl2 => ?_⟩
  generalize upd (upd H3 p2 (.tup [.str "repeat", .int r2])) l1 (.lst [.ref p1, .ref p2]) = C at *
  have a6 := Ex.new (o := .lst (List.replicate (Int.toNat 2) [.ref p1, .ref p2]).flatten) hl2
  have g2 := upd_same (H := C) (a := l2) (o := .lst (List.replicate (Int.toNat 2) [.ref p1, .ref p2]).flatten)
  have w6 := w5.mono a6 (Int.le_refl _)
  have x6 := x5.trans a6
  have f26 := a6 _ _ f2'
  generalize upd C l2 (.lst (List.replicate (Int.toNat 2) [.ref p1, .ref p2]).flatten) = E at *
  have xB : Ex (hide A w) E := hide_tr x3 x6
  refine ⟨l0, l2, [.ref t0], _, rfl, rfl, xB _ _ (hide_at g0 m0), g2, sz_of (show (5 : Nat) ≤ 100000 by decide), fun l3 hl3 => ?_⟩
  have a7 := Ex.new (o := .lst ([.ref t0] ++ (List.replicate (Int.toNat 2) [.ref p1, .ref p2]).flatten)) hl3
  have k0 : IsTail w N (.ref t0) (upd E l3 (.lst ([.ref t0] ++ (List.replicate (Int.toNat 2) [.ref p1, .ref p2]).flatten))) := ⟨t0, .fin, rfl, n0, a7 _ _ (xB _ _ (hide_at f0 n0)), tl_fin⟩
  have k1 : IsTail w N (.ref p1) (upd E l3 (.lst ([.ref t0] ++ (List.replicate (Int.toNat 2) [.ref p1, .ref p2]).flatten))) := ⟨p1, .tim r1, rfl, n1', a7 _ _ (x6 _ _ (hide_at f1 n1')), tl_tim r10 r11⟩
  have k2 : IsTail w N (.ref p2) (upd E l3 (.lst ([.ref t0] ++ (List.replicate (Int.toNat 2) [.ref p1, .ref p2]).flatten))) := by
    refine ⟨p2, .rep r2.toNat, rfl, n2', ?_, tl_rep (by omega) (by omega)⟩
    have : tailV (.rep r2.toNat) = [.str "repeat", .int r2] := by
      show [V.str "repeat", V.int ((r2.toNat : Nat) : Int)] = _
      rw [show ((r2.toNat : Nat) : Int) = r2 by omega]
    rw [this]
    exact a7 _ _ f26
  refine q _ _ ⟨l3, _, rfl, w6.ne hl3, upd_same, rfl, fun x hx => ?_⟩ ((hide_tr (hide_ex.trans a12) xB).trans a7) (w6.mono a7 (Int.le_refl _))
  have hx : x ∈ [V.ref t0, V.ref p1, V.ref p2, V.ref p1, V.ref p2] := hx
  simp only [List.mem_cons, List.not_mem_nil, or_false] at hx
  rcases hx with h | h | h | h | h <;> rw [h] <;> assumption
end
end RW
end

section
set_option Elab.async false
set_option linter.all false
set_option maxRecDepth 100000
set_option maxHeartbeats 4000000
namespace RW
open PySem L2 Evl
variable {P : Program} {w0 : World} {K : PySem.W.Frag} {mg : Str → Option Value} {base : Heap}
section
variable {σ : L2.St} {H : Hp}
theorem ev_ten {k : Int} {v : Int} (h : (10 : Int) ^ k.toNat = v) (h1 : 0 ≤ k ∧ k ≤ 1000) : Ev (tOp (rI CPow fun i j => .int (i ^ j.toNat)) (tC (.int 10)) (tC (.int k))) σ H (.int v) := by
  rw [← h]
  exact ev_op ev_c ev_c (rv_I ⟨h1.1, by omega, by decide⟩)
theorem ten12 : (10 : Int) ^ Int.toNat 12 = 1000000000000 := by decide +kernel
theorem ten13 : (10 : Int) ^ Int.toNat 13 = 10000000000000 := by decide +kernel
theorem ten27 : (10 : Int) ^ Int.toNat 27 = 1000000000000000000000000000 := by decide +kernel
theorem ten28 : (10 : Int) ^ Int.toNat 28 = 10000000000000000000000000000 := by decide +kernel
theorem ten29 : (10 : Int) ^ Int.toNat 29 = 100000000000000000000000000000 := by decide +kernel
end
section
variable {σ : L2.St} {H : Hp} {D : L2.Ends} {tz : TS} {te tl : TE} {w : Addr} {n n' : Int} {R : V → Hp → Prop}
/-- i, j = [], .. -/
theorem q_parN {i j : Nat} {v : V} (h : Ev te σ H v) (k : ∀ a H1, H a = none → Ex H H1 → H1 a = some (.lst []) → tz D ((σ.set i (some (.ref a))).set j (some v)) H1) : tSeq (tPar i j (tCons (tLst tNil) (tCons te tNil))) tz D σ H :=
  ⟨sz_of (Nat.zero_le _), fun a ha => h _ (Ex.new ha) _ fun H1 e1 => ⟨.ref a, v, rfl, k a H1 ha ((Ex.new ha).trans e1) (e1 _ _ upd_same)⟩⟩
theorem s_retParts {t1 t2 t3 t4 : TE} {a b c d : V} {lo hi : Int} (h1 : Ev t1 σ H a) (h2 : Ev t2 σ H b) (h3 : Ev t3 σ H c) (h4 : Ev t4 σ H d) (h5 : EvW te σ (hide H w) w n n' (IntIn lo hi)) (hw : WellAt H w n)
    (k : ∀ r p H2, lo ≤ r → r < hi → Ex (hide H w) H2 → WellAt H2 w n' → p ≠ w → H2 p = some (.tup [a, b, c, d, .int r]) → D.rt (.ref p) H2) : tRet (tTup (tCons t1 (tCons t2 (tCons t3 (tCons t4 (tCons te tNil)))))) D σ H :=
  h1 H (Ex.refl H) _ fun H1 e1 => h2 H1 e1 _ fun H2 e2 => h3 H2 (e1.trans e2) _ fun H3 e3 => h4 H3 ((e1.trans e2).trans e3) _ fun H4 e4 => by
    have e14 := ((e1.trans e2).trans e3).trans e4
    refine h5 H4 (hide_ex.trans e14) (hw.mono e14 (Int.le_refl _)) _ fun v H5 r e5 w5 => ?_
    obtain ⟨r, rfl, r0, r1⟩ := r
    refine ⟨sz_of (show (5 : Nat) ≤ 100000 by decide), fun p hp => ?_⟩
    exact k r p _ r0 r1 (((ex_hide (hide_ex.trans e14) hide_no).trans e5).trans (Ex.new hp)) (w5.mono (Ex.new hp) (Int.le_refl _)) (w5.ne hp) upd_same
end
def isRep : RS.Tail → Bool
  | .rep _ => true
  | _ => false
theorem WinsAt.snoc {H : Hp} {ws : List Addr} {os : List (Int × Int)} {a : Addr} {o : Int × Int} (h : WinsAt H ws os) (ha : H a = some (.tup (winV o))) : WinsAt H (ws ++ [a]) (os ++ [o]) := by
  obtain ⟨h1, h2⟩ := h
  refine ⟨by simp [h1], fun j b u hb hu => ?_⟩
  by_cases hj : j < ws.length
  · rw [List.getElem?_append_left hj] at hb
    rw [List.getElem?_append_left (by omega)] at hu
    exact h2 j b u hb hu
  · rw [List.getElem?_append_right (by omega)] at hb hu
    have hi := (List.getElem?_eq_some_iff.mp hb).1
    have : j - ws.length = 0 := by simp at hi; omega
    rw [this] at hb
    rw [show j - os.length = 0 by omega] at hu
    cases hb
    cases hu
    exact ha
theorem WinsAt.upd {H : Hp} {ws : List Addr} {os : List (Int × Int)} {l : Addr} {xs : List V} {o : HO} (h : WinsAt H ws os) (hl : H l = some (.lst xs)) : WinsAt (upd H l o) ws os := ⟨h.1, fun i a q h1 h2 => by
  have g := h.2 i a q h1 h2
  rw [upd_ne (ne_of g hl (by intro z; cases z))]
  exact g⟩
theorem WinsAt.hide {H : Hp} {ws : List Addr} {os : List (Int × Int)} {w : Addr} (h : WinsAt H ws os) (hw : ∀ a ∈ ws, a ≠ w) : WinsAt (hide H w) ws os := ⟨h.1, fun i a q h1 h2 => hide_at (h.2 i a q h1 h2) (hw a (List.mem_of_getElem? h1))⟩
theorem sc_law_wide : FnScope ["_law_well_here", "_law_great", "_law_steps", "_law_some", "_law_ending", "_law_base", "_law_begins", "_law_k", "_law_windows", "_law_low"] ["_law_well_here"] (defScope s_law_wide) := ⟨rfl, rfl, rfl, by decide +kernel, rfl, by decide +kernel, by decide +kernel⟩
def sp_law_wide (K : PySem.W.Frag) : Sp := fun vs H Q _ => ∃ (w : Addr) (n : Int), vs = [.ref w] ∧ WellAt H w n ∧ n ≤ 50000 ∧ ∀ p S H2, S.Ok → Ex (hide H w) H2 → WellAt H2 w (n + 100) → PartsAt (hide H2 w) p S → Q (.ref p) H2
theorem ok_law_wide (W : Wd K mg) : FnOk P w0 K mg base CX0 4 (a_law_wide K) (f_law_wide K) ["_law_well_here"] (sp_law_wide K) := by
  refine (F_law_wide W).ok sc_law_wide (fun vs H Q E h => ?_) (fun cdv A outer s H vs Q E hr h => ?_)
  · obtain ⟨w, n, rfl, _⟩ := h
    rfl
  · obtain ⟨w, n, rfl, hw, nn, k⟩ := h
    refine ⟨_, PSs.nox (pss_cons (ps_set (i := 1) sc_law_wide.nd rfl (Or.inr rfl) (pe_call (ok_law_one W) (hr.mono (by decide)) (by rfl) (g_law_one W) (F_law_one W).kp (b_law_one W) .nil pass0 (pa_cons (pv 0) (pa_cons (pe_lst (pa_cons pe_int (pa_cons (pe_op op_pow pe_int pe_int) pa_nil))) pa_nil))))
    (pss_cons (ps_setLc (i := 2) (own := [("_law_k", 7)]) rfl sc_law_wide.nd rfl rfl (sw_true rfl rfl rfl (by decide +kernel)) (pi_range1 (by rfl) (n_range W) (pa_cons (pe_call (ok_law_draw W) (hr.mono (by decide)) (by rfl) (g_law_draw W) (F_law_draw W).kp (b_law_draw W) .nil pass0 (pa_cons (pv 0) (pa_cons pe_int pa_nil))) pa_nil)) (blkOk_by (N := ["_law_well_here", "_law_great", "_law_steps", "_law_some", "_law_ending", "_law_base", "_law_begins", "_law_k", "_law_windows", "_law_low"]) (sc := defScope s_law_wide) (by decide +kernel)) (fun _ _ _ _ _ => (pg_name (i := 7) sc_law_wide.nd rfl (Or.inl rfl))) (fun _ _ _ _ _ => pts_nil) (fun _ _ _ _ _ => (pe_op op_add pe_int (pe_call (ok_law_draw W) (hr.mono (by decide)) (by rfl) (g_law_draw W) (F_law_draw W).kp (b_law_draw W) .nil pass0 (pa_cons (pv 0) (pa_cons (pe_call (ok_law_one W) (hr.mono (by decide)) (by rfl) (g_law_one W) (F_law_one W).kp (b_law_one W) .nil pass0 (pa_cons (pv 0) (pa_cons (pe_lst (pa_cons pe_int (pa_cons (pv 1) pa_nil))) pa_nil))) pa_nil))))))
    (pss_cons (ps_set (i := 3) sc_law_wide.nd rfl (Or.inl rfl) (pe_op op_cat (pe_lst (pa_cons (pe_tup (pa_cons pe_str pa_nil)) pa_nil)) (pe_op op_rep (pe_lst (pa_cons (pe_tup (pa_cons pe_str (pa_cons (pe_op op_add pe_int (pe_call (ok_law_draw W) (hr.mono (by decide)) (by rfl) (g_law_draw W) (F_law_draw W).kp (b_law_draw W) .nil pass0 (pa_cons (pv 0) (pa_cons pe_int pa_nil)))) pa_nil))) (pa_cons (pe_tup (pa_cons pe_str (pa_cons (pe_op op_add pe_int (pe_call (ok_law_draw W) (hr.mono (by decide)) (by rfl) (g_law_draw W) (F_law_draw W).kp (b_law_draw W) .nil pass0 (pa_cons (pv 0) (pa_cons (pe_op op_add (pe_callB call_len_seq (by rfl) (n_len W) (by decide +kernel) (pa_cons (pv 2) pa_nil)) pe_int) pa_nil)))) pa_nil))) pa_nil))) pe_int)))
    (pss_cons (ps_set (i := 4) sc_law_wide.nd rfl (Or.inl rfl) (pe_ifExp (pt_cmpR (op_neD hr.units) (pv 2) (pe_lst pa_nil) (nomark _)) (pe_call (ok_law_one W) (hr.mono (by decide)) (by rfl) (g_law_one W) (F_law_one W).kp (b_law_one W) .nil pass0 (pa_cons (pv 0) (pa_cons (pv 3) pa_nil))) (pe_tup (pa_cons pe_str pa_nil))))
    (pss_cons (ps_if (pt_cmpR op_eq (pe_ix ix_tup (pv 4) pe_int (fun _ _ => rfl)) pe_str (nomark _)) (pss_one (ps_set (i := 4) sc_law_wide.nd rfl (Or.inl rfl) (pe_tup (pa_cons pe_str (pa_cons (pe_callB (call_min2 rfl) (by rfl) (n_min W) (by decide +kernel) (pa_cons (pe_ix ix_tup (pv 4) pe_int (fun _ _ => rfl)) (pa_cons (pe_callB call_len_seq (by rfl) (n_len W) (by decide +kernel) (pa_cons (pv 2) pa_nil)) pa_nil))) pa_nil))))) pss_nil)
    (pss_cons (ps_set (i := 5) sc_law_wide.nd rfl (Or.inl rfl) (pe_call (ok_law_one W) (hr.mono (by decide)) (by rfl) (g_law_one W) (F_law_one W).kp (b_law_one W) .nil pass0 (pa_cons (pv 0) (pa_cons (pe_lst (pa_cons pe_int (pa_cons (pe_op op_pow pe_int pe_int) pa_nil))) pa_nil))))
    (pss_cons (ps_set (i := 6) sc_law_wide.nd rfl (Or.inl rfl) (pe_lst pa_nil))
    (pss_cons (ps_for PassesOwn.never rfl (pi_range1 (by rfl) (n_range W) (pa_cons (pe_op op_add pe_int (pe_call (ok_law_draw W) (hr.mono (by decide)) (by rfl) (g_law_draw W) (F_law_draw W).kp (b_law_draw W) .nil pass0 (pa_cons (pv 0) (pa_cons pe_int pa_nil)))) pa_nil)) (pg_name (i := 7) sc_law_wide.nd rfl (Or.inl rfl)) (pss_one (ps_expr (pe_bm PySem.F.plainAttrs_list PySem.F.slot_list_append PySem.F.type_list_append mt_append (pv 6) (pa_cons (pe_op op_add (pv 5) (pe_call (ok_law_draw W) (hr.mono (by decide)) (by rfl) (g_law_draw W) (F_law_draw W).kp (b_law_draw W) .nil pass0 (pa_cons (pv 0) (pa_cons (pe_call (ok_law_one W) (hr.mono (by decide)) (by rfl) (g_law_one W) (F_law_one W).kp (b_law_one W) .nil pass0 (pa_cons (pv 0) (pa_cons (pe_lst (pa_cons pe_int (pa_cons pe_int (pa_cons (pv 1) (pa_cons (pe_op op_pow pe_int pe_int) pa_nil))))) pa_nil))) pa_nil)))) pa_nil)))))
    (pss_cons (ps_par (i := 8) (j := 9) rfl sc_law_wide.nd rfl rfl (by decide) rfl rfl (pa_cons (pe_lst pa_nil) (pa_cons (pe_op op_sub (pv 5) pe_int) pa_nil)) (by rfl))
    (pss_cons (ps_for PassesOwn.never rfl (pi_range1 (by rfl) (n_range W) (pa_cons (pe_call (ok_law_draw W) (hr.mono (by decide)) (by rfl) (g_law_draw W) (F_law_draw W).kp (b_law_draw W) .nil pass0 (pa_cons (pv 0) (pa_cons pe_int pa_nil))) pa_nil)) (pg_name (i := 7) sc_law_wide.nd rfl (Or.inl rfl)) (pss_cons (ps_set (i := 9) sc_law_wide.nd rfl (Or.inl rfl) (pe_op op_add (pv 9) (pe_call (ok_law_draw W) (hr.mono (by decide)) (by rfl) (g_law_draw W) (F_law_draw W).kp (b_law_draw W) .nil pass0 (pa_cons (pv 0) (pa_cons (pe_call (ok_law_one W) (hr.mono (by decide)) (by rfl) (g_law_one W) (F_law_one W).kp (b_law_one W) .nil pass0 (pa_cons (pv 0) (pa_cons (pe_lst (pa_cons pe_int (pa_cons (pv 1) pa_nil))) pa_nil))) pa_nil)))))
      (pss_cons (ps_expr (pe_bm PySem.F.plainAttrs_list PySem.F.slot_list_append PySem.F.type_list_append mt_append (pv 8) (pa_cons (pe_tup (pa_cons (pv 9) (pa_cons (pe_op op_add (pe_op op_add (pv 9) pe_int) (pe_call (ok_law_draw W) (hr.mono (by decide)) (by rfl) (g_law_draw W) (F_law_draw W).kp (b_law_draw W) .nil pass0 (pa_cons (pv 0) (pa_cons (pe_call (ok_law_one W) (hr.mono (by decide)) (by rfl) (g_law_one W) (F_law_one W).kp (b_law_one W) .nil pass0 (pa_cons (pv 0) (pa_cons (pe_lst (pa_cons pe_int (pa_cons (pv 1) (pa_cons (pe_op op_pow pe_int pe_int) pa_nil)))) pa_nil))) pa_nil)))) pa_nil))) pa_nil)))
      (pss_one (ps_set (i := 9) sc_law_wide.nd rfl (Or.inl rfl) (pe_ix ix_tup (pe_ix ix_list (pv 8) (pe_un un_neg pe_int) (fun _ _ => rfl)) pe_int (fun _ _ => rfl)))))))
    (pss_one (ps_ret (pe_tup (pa_cons (pv 2) (pa_cons (pv 4) (pa_cons (pv 6) (pa_cons (pv 8) (pa_cons (pe_op op_add pe_int (pe_call (ok_law_draw W) (hr.mono (by decide)) (by rfl) (g_law_draw W) (F_law_draw W).kp (b_law_draw W) .nil pass0 (pa_cons (pv 0) (pa_cons (pe_call (ok_law_one W) (hr.mono (by decide)) (by rfl) (g_law_one W) (F_law_one W).kp (b_law_one W) .nil pass0 (pa_cons (pv 0) (pa_cons (pe_lst (pa_cons pe_int (pa_cons pe_int (pa_cons (pe_op op_pow pe_int pe_int) pa_nil)))) pa_nil))) pa_nil)))) pa_nil)))))))))))))))))), ?_⟩
    -- great
    refine q_asgW (n' := n + 1) (ew_one (K := K) hide_no (ev_var rfl) (en_lst (ea_cons ev_c (ea_cons (ev_ten ten12 (by decide)) ea_nil)) (show (2 : Nat) ≤ 100000 by decide)) (show (1 : Nat) ≤ 2 by decide) (show (2 : Nat) ≤ 1000 by decide) (by omega)) hw fun v H1 hv e1 w1 => ?_
    obtain ⟨g, rfl, g0, g1⟩ : ∃ g : Int, v = .int g ∧ 9 ≤ g ∧ g ≤ 1000000000000 := by
      simp only [List.mem_cons, List.not_mem_nil, or_false] at hv
      rcases hv with h | h
      · exact ⟨9, h, by decide, by decide⟩
      · exact ⟨_, h, by decide, by decide⟩
    -- steps
    refine q_asgW (n' := n + 42) (ew_lcR (lo := 1) (hi := 1000000000001) (N := 21) (c := 2) (n1 := n + 2) hide_no (EvW.up (ew_draw (ev_var rfl) ev_c (by decide) (by decide) (by omega)) (by omega)) (by decide) (fun r hr => by omega) (fun _ => rfl)
      (fun i m G' _ hG' hm => ew_add (lo := 0) (hi := 1000000000000) ev_c hG' (ew_drawOne (K := K) (ns := [5, g]) hG' (fun _ => ev_var rfl) (en_lst (ea_cons ev_c (ea_cons (ev_var rfl) ea_nil)) (show (2 : Nat) ≤ 100000 by decide)) (show (1 : Nat) ≤ 2 by decide) (show (2 : Nat) ≤ 1000 by decide) (by
        intro m hm
        simp only [List.mem_cons, List.not_mem_nil, or_false] at hm
        omega) (by decide) (by omega)) (by omega) (by omega)) (by decide)) w1 fun v H2 hv e2 w2 => ?_
    obtain ⟨ls, ns, rfl, lsw, hls, hnl, hns⟩ := hv
    have hls' := hide_at hls lsw
    have big : (100 : Int) ≤ 2 ^ 200 := by decide +kernel
    -- some
    refine q_asgW (n' := n + 44) (ew_some (N := ns.length + 1) (n1 := n + 43) hide_no
      (ew_add (lo := 0) (hi := 30) ev_c hide_no (EvW.up (ew_draw (ev_var rfl) ev_c (by decide) (by decide) (by omega)) (by omega)) (by omega) (by omega))
      (ew_add (lo := 0) (hi := (ns.length : Int) + 1) ev_c hide_no (EvW.up (ew_draw (ev_var rfl) (ev_op (ev_is (ev_lenL (K := K) (eh_of (ev_var rfl) hls')) (by rw [List.length_map])) ev_c rv_I0) (by omega) (Int.le_trans (show (ns.length : Int) + 1 ≤ 100 by omega) big) (by omega)) (by omega)) (by omega) (by omega))) w2 fun v H3 hv e3 w3 => ?_
    obtain ⟨lt, xs, rfl, ltw, hlt, hxl, hxs⟩ := hv
    have hls3 := hide_at (e3 _ _ hls') lsw
    have hlt3 := hide_at hlt ltw
    -- ending
    refine q_asgW (n' := n + 45) (R := fun v H => (ns ≠ [] ∧ v ∈ xs) ∨ (∃ t, v = .ref t ∧ t ≠ w ∧ H t = some (.tup [.str "end"]))) (ew_if (b := !decide (ns = [])) (et_test (ev_neInts (b := []) (eh_of (ev_var rfl) hls3) (EvN.h (en_lst ea_nil (Nat.zero_le _))))) hide_no
      (fun hb => EvW.imp (EvW.up (ew_oneH (K := K) (ev_var rfl) (ev_var rfl) hlt3 hide_no (by omega) (by omega) (by omega)) (by omega)) fun v H h => .inl ⟨by simpa using hb, h⟩)
      (fun hb => EvW.imp (EvW.up (ew_new (en_tup (ea_cons ev_c ea_nil) (show (1 : Nat) ≤ 100000 by decide))) (by omega)) fun v H h => .inr h)) w3 fun v H4 hv e4 w4 => ?_
    obtain ⟨te, tl, rfl, tew, hte, htl, hfin⟩ : ∃ te tl, v = .ref te ∧ te ≠ w ∧ H4 te = some (.tup (tailV tl)) ∧ Tl (ns.length + 1) tl ∧ (ns = [] → tl = .fin) := by
      rcases hv with ⟨h1, h2⟩ | ⟨t, h1, h2, h3⟩
      · obtain ⟨t, tl, g1, g2, g3, g4⟩ := (hxs v h2).mono e4
        exact ⟨t, tl, g1, g2, g3, g4, fun z => absurd z h1⟩
      · exact ⟨t, .fin, h1, h2, h3, tl_fin, fun _ => rfl⟩
    have hls4 := hide_at (e4 _ _ hls3) lsw
    -- the last tail
    obtain ⟨tl2, ht2a, ht2b, ht2c⟩ : ∃ tl2 : RS.Tail, Tl ns.length tl2 ∧ (ns = [] → tl2 = .fin) ∧ (∀ c, tl = .rep c → [V.str "repeat", V.int (if (ns.length : Int) < (c : Int) then (ns.length : Int) else (c : Int))] = tailV tl2) ∧ ((∀ c, tl ≠ .rep c) → tl2 = tl) := by
      cases tl with
      | fin => exact ⟨.fin, tl_fin, fun _ => rfl, (fun c h => (by cases h)), fun _ => rfl⟩
      | tim b => exact ⟨.tim b, tl_tim (htl.1 b rfl).1 (htl.1 b rfl).2, hfin, (fun c h => (by cases h)), fun _ => rfl⟩
      | rep c =>
        have h1 := htl.2 c rfl
        have hne : ns.length ≠ 0 := fun z => by have := hfin (List.length_eq_zero_iff.mp z); cases this
        refine ⟨.rep (min c ns.length), tl_rep (by omega) (by omega), fun z => absurd (by rw [z]; rfl) hne, fun c' h => ?_, fun h => absurd rfl (h c)⟩
        cases h
        show [V.str "repeat", V.int _] = [V.str "repeat", V.int _]
        congr 3
        split <;> omega
    have hb0 : ∀ {σ : L2.St} {H : Hp}, σ[4]? = some (some (.ref te)) → H te = some (.tup (tailV tl)) → EvT (tTest (tOp rEq (tOp (rIxT K) (tVar 4) (tC (.int 0))) (tC (.str "repeat")))) σ H (isRep tl) := fun hs hh => by
      cases tl with
      | fin => exact et_test (ev_is (ev_op (ev_ixT (eh_of (ev_var hs) hh) ev_c rfl) ev_c rv_eqS) (by decide +kernel))
      | tim b => exact et_test (ev_is (ev_op (ev_ixT (eh_of (ev_var hs) hh) ev_c rfl) ev_c rv_eqS) (by show _ = V.bl false; decide +kernel))
      | rep c => exact et_test (ev_is (ev_op (ev_ixT (eh_of (ev_var hs) hh) ev_c rfl) ev_c rv_eqS) (by show _ = V.bl true; decide +kernel))
    refine q_whenSetN (v0 := .ref te) (o := .tup (tailV tl2)) (hb0 rfl hte) (fun hb => ?_) rfl fun v H5 e5 hv => ?_
    · obtain ⟨c, rfl⟩ : ∃ c, tl = .rep c := by
        clear htl hfin hte ht2c hb0
        cases tl with
        | fin => cases hb
        | tim b => cases hb
        | rep c => exact ⟨c, rfl⟩
      rw [← ht2c.1 c rfl]
      exact en_tup (ea_cons ev_c (ea_cons (ev_cb (ea_cons (ev_ixT (eh_of (ev_var rfl) hte) ev_c rfl) (ea_cons (ev_is (ev_lenL (K := K) (eh_of (ev_var rfl) (hide_ex _ _ hls4))) (by rw [List.length_map])) ea_nil)) (fun H1 _ Q q => ⟨_, _, rfl, q H1 (Ex.refl H1)⟩)) ea_nil)) (show (2 : Nat) ≤ 100000 by decide)
    obtain ⟨te2, rfl, tew2, hte2⟩ : ∃ te2, v = .ref te2 ∧ te2 ≠ w ∧ H5 te2 = some (.tup (tailV tl2)) := by
      rcases hv with ⟨_, a, h1, h2, h3⟩ | ⟨hb, h1⟩
      · exact ⟨a, h1, w4.ne h2, h3⟩
      · refine ⟨te, h1, tew, ?_⟩
        rw [ht2c.2 fun c hc => by rw [hc] at hb; cases hb]
        exact e5 _ _ hte
    have w5 := w4.mono e5 (Int.le_refl _)
    have hls5 := hide_mono (d := w) e5 _ _ hls4
    have hte5 := hide_at hte2 tew2
    have x5 : Ex (hide H w) (hide H5 w) := (ex_hide (hide_tr (hide_tr (hide_tr e1 e2) e3) e4) hide_no).trans (hide_mono e5)
    -- base
    refine q_asgW (n' := n + 46) (EvW.up (ew_one (K := K) hide_no (ev_var rfl) (en_lst (ea_cons ev_c (ea_cons (ev_ten ten28 (by decide)) ea_nil)) (show (2 : Nat) ≤ 100000 by decide)) (show (1 : Nat) ≤ 2 by decide) (show (2 : Nat) ≤ 1000 by decide) (by omega)) (by omega)) w5 fun v H6 hv e6 w6 => ?_
    obtain ⟨bs0, rfl, bb0, bb1⟩ : ∃ b : Int, v = .int b ∧ 0 ≤ b ∧ b ≤ 10000000000000000000000000000 := by
      simp only [List.mem_cons, List.not_mem_nil, or_false] at hv
      rcases hv with h | h
      · exact ⟨0, h, by decide, by decide⟩
      · exact ⟨_, h, by decide, by decide⟩
    have hls6 := hide_at (e6 _ _ hls5) lsw
    have hte6 := hide_at (e6 _ _ hte5) tew2
    have x6 : Ex (hide H w) (hide H6 w) := x5.trans (ex_hide e6 hide_no)
    have big97 : (2 : Int) ^ 97 = 158456325028528675187087900672 := by decide +kernel
    have big200 : (1000000000000000000000000000000 : Int) ≤ 2 ^ 200 := by decide +kernel
    -- begins
    refine q_asgN (en_lst ea_nil (Nat.zero_le _)) fun lb H7 hlb e7 h7 => ?_
    have lbw := w6.ne hlb
    have nlb : hide H6 w lb = none := by unfold hide; rw [if_neg lbw]; exact hlb
    refine q_forRW (lo := 1) (N := 11) (n1 := n + 47) (ew_add (lo := 0) (hi := 10) ev_c hide_no (EvW.up (ew_draw (ev_var rfl) ev_c (by decide) (by decide) (by omega)) (by omega)) (by omega) (by omega)) (w6.mono e7 (Int.le_refl _)) (by decide) (by decide)
      (fun r i σ' H' => ∃ bs : List Int, bs.length = i ∧ (∀ x ∈ bs, 0 ≤ x ∧ x ≤ 2 ^ 97) ∧ WellAt H' w (n + 47 + 2 * (i : Int)) ∧ H' lb = some (.lst (bs.map V.int)) ∧ Ex (hide H6 w) H' ∧ ∃ v7, σ' = [some (.ref w), some (.int g), some (.ref ls), some (.ref lt), some (.ref te2), some (.int bs0), some (.ref lb), v7, none, none])
      (fun r H8 _ _ e8 w8 => ⟨[], rfl, (fun x hx => by cases hx), w8.mono (Ex.refl _) (by omega), e8 _ _ (hide_at h7 lbw), (hide_mono e7).trans e8, _, rfl⟩)
      (fun r i σ' H' hr1 hi hP => ?_) (fun r σ' H' r0 r1 hP => ?_)
    · obtain ⟨bs, b1, b2, b3, b4, b5, v7, rfl⟩ := hP
      refine s_appW (K := K) (R := IntIn 0 (2 ^ 97 + 1)) (n' := n + 47 + 2 * (i : Int) + 2) (hide_at b4 lbw) b3 (ev_var rfl) (ew_add (lo := 0) (hi := 100000000000000000000000000000) (ev_var rfl) hide_no (ew_drawOne (K := K) (ns := [6, 40, g, 100000000000000000000000000000]) hide_no (fun _ => ev_var rfl) (en_lst (ea_cons ev_c (ea_cons ev_c (ea_cons (ev_var rfl) (ea_cons (ev_ten ten29 (by decide)) ea_nil)))) (show (4 : Nat) ≤ 100000 by decide)) (show (1 : Nat) ≤ 4 by decide) (show (4 : Nat) ≤ 1000 by decide) (by
        intro m hm
        simp only [List.mem_cons, List.not_mem_nil, or_false] at hm
        omega) (by omega) (by omega)) (by omega) (by omega)) (by rw [List.length_map]; omega) fun v H8 hv e8 w8 => ?_
      obtain ⟨x, rfl, q0, q1⟩ := hv
      refine ⟨bs ++ [x], by simp [b1], fun y hy => ?_, (w8.mono (Ex.refl _) (by omega)).upd (Ne.symm lbw), ?_, (hide_tr b5 e8).mut nlb, _, rfl⟩
      · rcases List.mem_append.mp hy with h | h
        · exact b2 y h
        · rw [List.mem_singleton.mp h]
          omega
      · rw [upd_same, List.map_append]
        rfl
    · obtain ⟨bs, b1, b2, b3, b4, b5, v7, rfl⟩ := hP
      have bl1 : 1 ≤ bs.length := by omega
      have bl2 : bs.length ≤ 10 := by omega
      have b4' := hide_at b4 lbw
      have hls7 := hide_at (b5 _ _ hls6) lsw
      have hte7 := hide_at (b5 _ _ hte6) tew2
      have x7 : Ex (hide H w) (hide H' w) := x6.trans (ex_hide b5 hide_no)
      -- windows
      refine q_parN (ev_op (ev_var rfl) ev_c rv_I0) fun lw H9 hlw e9 h9 => ?_
      have w7 := b3.mono (Ex.refl _) (show n + 47 + 2 * ((r.toNat : Nat) : Int) ≤ n + 67 by omega)
      have lww := w7.ne hlw
      have nlw : hide H' w lw = none := by unfold hide; rw [if_neg lww]; exact hlw
      refine q_forRW (lo := 0) (N := 6) (n1 := n + 68) (EvW.up (ew_draw (ev_var rfl) ev_c (by decide) (by decide) (by omega)) (by omega)) (w7.mono e9 (Int.le_refl _)) (by decide) (by decide)
        (fun r i σ' H'' => ∃ (ws : List Addr) (os : List (Int × Int)) (low : Int), os.length = i ∧ WinsAt H'' ws os ∧ (∀ a ∈ ws, a ≠ w) ∧ (∀ o ∈ os, o.1 < o.2 ∧ o.2 ≤ low) ∧ os.Pairwise (fun a b => a.2 ≤ b.1) ∧ low ≤ bs0 + (i : Int) * 1000000000001000000000000000 ∧ WellAt H'' w (n + 68 + 4 * (i : Int)) ∧ H'' lw = some (.lst (ws.map V.ref)) ∧ Ex (hide H' w) H'' ∧
          ∃ v7, σ' = [some (.ref w), some (.int g), some (.ref ls), some (.ref lt), some (.ref te2), some (.int bs0), some (.ref lb), v7, some (.ref lw), some (.int low)])
        (fun r H8 _ _ e8 w8 => ⟨[], [], bs0 - 20, rfl, ⟨rfl, (fun i a o h _ => by cases h)⟩, (fun x hx => by cases hx), (fun x hx => by cases hx), List.Pairwise.nil, by omega, w8.mono (Ex.refl _) (by omega), e8 _ _ (hide_at h9 lww), (hide_mono e9).trans e8, _, rfl⟩)
        (fun r i σ' H'' hr1 hi hP => ?_) (fun r σ' H'' r0 r1 hP => ?_)
      · obtain ⟨ws, os, low, p1, p2, p3, p4, p5, p6, p7, p8, p9, v7, rfl⟩ := hP
        refine q_asgW (n' := n + 68 + 4 * (i : Int) + 2) (ew_add (lo := 0) (hi := 1000000000000) (lo' := low) (hi' := low + 1000000000000) (ev_var rfl) hide_no (ew_drawOne (K := K) (ns := [9, g]) hide_no (fun _ => ev_var rfl) (en_lst (ea_cons ev_c (ea_cons (ev_var rfl) ea_nil)) (show (2 : Nat) ≤ 100000 by decide)) (show (1 : Nat) ≤ 2 by decide) (show (2 : Nat) ≤ 1000 by decide) (by
          intro m hm
          simp only [List.mem_cons, List.not_mem_nil, or_false] at hm
          omega) (by omega) (by omega)) (by omega) (by omega)) p7 fun v H8 hv e8 w8 => ?_
        obtain ⟨low1, rfl, l0, l1⟩ := hv
        have p8' := hide_at (e8 _ _ (hide_at p8 lww)) lww
        have p2' : WinsAt (hide H8 w) ws os := ((p2.hide p3).mono e8).hide p3
        refine q_appW (K := K) (n' := n + 68 + 4 * (i : Int) + 4) p8' w8 (ev_var rfl) (ew_pair (lo := low1 + 1) (hi := low1 + 1 + 1000000000000000000000000000) hide_no (ev_var rfl) (EvW.up (ew_add (lo := 0) (hi := 1000000000000000000000000000) (ev_op (ev_var rfl) ev_c rv_I0) hide_no (ew_drawOne (K := K) (ns := [20, g, 1000000000000000000000000000]) hide_no (fun _ => ev_var rfl) (en_lst (ea_cons ev_c (ea_cons (ev_var rfl) (ea_cons (ev_ten ten27 (by decide)) ea_nil))) (show (3 : Nat) ≤ 100000 by decide)) (show (1 : Nat) ≤ 3 by decide) (show (3 : Nat) ≤ 1000 by decide) (by
          intro m hm
          simp only [List.mem_cons, List.not_mem_nil, or_false] at hm
          omega) (by omega) (by omega)) (by omega) (by omega)) (by omega))) (by rw [List.length_map, p2.1]; omega) fun v H10 hv e10 w10 => ?_
        obtain ⟨t, hh, rfl, tw, ht, q0, q1⟩ := hv
        have hlw10 : H10 lw = some (.lst (ws.map V.ref)) := e10 _ _ p8'
        have tlw : t ≠ lw := ne_of ht hlw10 (by intro z; cases z)
        have ht2 : upd H10 lw (.lst (ws.map V.ref ++ [.ref t])) t = some (.tup (winV (low1, hh))) := by rw [upd_ne tlw]; exact ht
        have hl2 : upd H10 lw (.lst (ws.map V.ref ++ [.ref t])) lw = some (.lst (ws.map V.ref ++ [.ref t])) := upd_same
        have p2'' : WinsAt (upd H10 lw (.lst (ws.map V.ref ++ [.ref t]))) ws os := (p2'.mono e10).upd hlw10
        refine s_asg (ev_ixT (eh_of (ev_ixL (eh_of (ev_var rfl) hl2) (ev_un ev_c ru_neg) (atI_last _ _)) ht2) ev_c rfl) fun H11 e11 => ?_
        refine ⟨ws ++ [t], os ++ [(low1, hh)], hh, by simp [p1], (p2''.snoc ht2).mono e11, fun a ha => ?_, fun o ho => ?_, ?_, ?_, ?_, ?_, ?_, _, rfl⟩
        · rcases List.mem_append.mp ha with h | h
          · exact p3 a h
          · rw [List.mem_singleton.mp h]
            exact tw
        · rcases List.mem_append.mp ho with h | h
          · have := p4 o h
            omega
          · rw [List.mem_singleton.mp h]
            show low1 < hh ∧ hh ≤ hh
            omega
        · refine List.pairwise_append.mpr ⟨p5, by simp, fun a ha b hb => ?_⟩
          rw [List.mem_singleton.mp hb]
          have := p4 a ha
          show a.2 ≤ low1
          omega
        · rw [show ((i + 1 : Nat) : Int) = (i : Int) + 1 by omega, Int.add_mul]
          omega
        · exact ((w10.upd (Ne.symm lww)).mono e11 (by omega))
        · rw [List.map_append]
          exact e11 _ _ hl2
        · exact ((hide_tr (hide_tr p9 e8) e10).mut nlw).trans e11
      · obtain ⟨ws, os, low, p1, p2, p3, p4, p5, p6, p7, p8, p9, v7, rfl⟩ := hP
        have w11 := p7.mono (Ex.refl _) (show n + 68 + 4 * ((r.toNat : Nat) : Int) ≤ n + 88 by omega)
        refine s_retParts (n' := n + 90) (lo := 1) (hi := 10000000000001) (ev_var rfl) (ev_var rfl) (ev_var rfl) (ev_var rfl) (EvW.up (ew_add (lo := 0) (hi := 10000000000000) ev_c hide_no (ew_drawOne (K := K) (ns := [1, 6, 10000000000000]) hide_no (fun _ => ev_var rfl) (en_lst (ea_cons ev_c (ea_cons ev_c (ea_cons (ev_ten ten13 (by decide)) ea_nil))) (show (3 : Nat) ≤ 100000 by decide)) (show (1 : Nat) ≤ 3 by decide) (show (3 : Nat) ≤ 1000 by decide) (by
          intro m hm
          simp only [List.mem_cons, List.not_mem_nil, or_false] at hm
          omega) (by omega) (by omega)) (by omega) (by omega)) (by omega)) w11 fun len p H12 l0 l1 e12 w12 pw hp => ?_
        have big44 : (2 : Int) ^ 44 = 17592186044416 := by decide +kernel
        have i5 : ((r.toNat : Nat) : Int) * 1000000000001000000000000000 ≤ 5 * 1000000000001000000000000000 := by omega
        refine k p ⟨⟨ns, tl2⟩, bs, os, len⟩ H12 ⟨⟨?_, fun x hx => ?_, fun b hb => ?_, fun c hc => ?_⟩, bl1, bl2, b2, fun o ho => ?_, ?_, p5, ?_⟩ ((x7.trans (ex_hide p9 hide_no)).trans e12) (w12.mono (Ex.refl _) (by omega)) ?_
        · show ns.length ≤ 20
          omega
        · have := hns x hx
          omega
        · have hb : tl2 = .tim b := hb
          have h1 := ht2a.1 b hb
          refine ⟨h1.1, by omega, ?_⟩
          show 1 ≤ ns.length
          cases z : ns with
          | nil =>
            rw [ht2b z] at hb
            cases hb
          | cons a r => simp
        · exact ht2a.2 c hc
        · have := p4 o ho
          omega
        · show os.length ≤ 5
          omega
        · show 1 ≤ len ∧ len ≤ 2 ^ 44
          omega
        · have z := ex_hide p9 (hide_no (H := H') (d := w))
          have y := ex_hide e12 (hide_no (H := H'') (d := w))
          exact ⟨ls, te2, lb, lw, ws, hide_at hp pw, y _ _ (z _ _ hls7), y _ _ (z _ _ hte7), y _ _ (z _ _ b4'), y _ _ (hide_at p8 lww), (p2.hide p3).mono y⟩
end RW
end

section
set_option Elab.async false
set_option linter.all false
set_option maxRecDepth 100000
set_option maxHeartbeats 4000000
namespace RS
/-! ### the law's word, computed -/
def outB (S : Scn) (s : Int) : Bool := S.outs.any fun o => decide (o.1 ≤ s) && decide (s < o.2)
def busyB (S : Scn) (svc : Nat → Option Int) (c : Nat) (s : Int) (d : Nat) : Bool := decide (d ≠ c) && match svc d with
  | some t => decide (t < s) && decide (s < t + S.len)
  | none => false
def meetB (S : Scn) (svc : Nat → Option Int) (c : Nat) (s : Int) (d : Nat) : Bool := decide (d ≠ c) && ((match svc d with
  | some t => decide (s ≤ t)
  | none => true) && (decide (S.b d ≤ s) && (atr S.rule (s - S.b d)).isSome))
def failsB (S : Scn) (svc : Nat → Option Int) (c : Nat) (s : Int) : Bool := outB S s || (List.range S.m).any fun d => busyB S svc c s d || meetB S svc c s d
theorem failsB_iff {S : Scn} (ok : S.Ok) {svc : Nat → Option Int} {c : Nat} {s : Int} : failsB S svc c s = true ↔ Fails S svc c s := by
  unfold failsB Fails outB
  rw [Bool.or_eq_true, List.any_eq_true, List.any_eq_true]
  constructor
  · rintro (⟨o, ho, h⟩ | ⟨d, hd, h⟩)
    · rw [Bool.and_eq_true, decide_eq_true_eq, decide_eq_true_eq] at h
      exact .inl ⟨o, ho, h.1, h.2⟩
    · have hd := List.mem_range.mp hd
      rw [Bool.or_eq_true] at h
      rcases h with h | h
      · unfold busyB at h
        rw [Bool.and_eq_true] at h
        obtain ⟨h1, h2⟩ := h
        have h1 := of_decide_eq_true h1
        cases e : svc d with
        | none => rw [e] at h2; cases h2
        | some t =>
          rw [e] at h2
          have h2 : (decide (t < s) && decide (s < t + S.len)) = true := h2
          rw [Bool.and_eq_true, decide_eq_true_eq, decide_eq_true_eq] at h2
          exact .inr (.inl ⟨d, hd, h1, t, e, h2.1, h2.2⟩)
      · unfold meetB at h
        rw [Bool.and_eq_true, Bool.and_eq_true, Bool.and_eq_true] at h
        obtain ⟨h1, h2, h3, h4⟩ := h
        refine .inr (.inr ⟨d, hd, of_decide_eq_true h1, fun t ht => ?_, ?_⟩)
        · rw [ht] at h2
          exact of_decide_eq_true h2
        · exact (At_iff ok).mp h4
  · rintro (⟨o, ho, h1, h2⟩ | ⟨d, hd, h1, t, e, h2, h3⟩ | ⟨d, hd, h1, h2, h3⟩)
    · refine .inl ⟨o, ho, ?_⟩
      rw [decide_eq_true h1, decide_eq_true h2]
      rfl
    · refine .inr ⟨d, List.mem_range.mpr hd, ?_⟩
      unfold busyB
      rw [e]
      show ((decide (d ≠ c) && (decide (t < s) && decide (s < t + S.len))) || _) = true
      rw [decide_eq_true h1, decide_eq_true h2, decide_eq_true h3]
      rfl
    · refine .inr ⟨d, List.mem_range.mpr hd, ?_⟩
      rw [Bool.or_eq_true]
      right
      unfold meetB
      have h4 : (atr S.rule (s - S.b d)).isSome = true := (At_iff ok).mpr h3
      have h5 : S.b d ≤ s := by
        obtain ⟨k, _, e⟩ := h3
        have := off_nonneg ok.rule k
        omega
      rw [decide_eq_true h1, h4, decide_eq_true h5]
      cases e : svc d with
      | none => rfl
      | some t =>
        show (true && (decide (s ≤ t) && (true && true))) = true
        rw [decide_eq_true (h2 t e)]
        rfl
end RS
namespace RW
open PySem L2 Evl
variable {P : Program} {w : World} {K : PySem.W.Frag} {mg : Str → Option Value} {base : Heap}
section
variable {α : Type} {tt : TT} {te tl : TE} {vs : List Nat} {σ : L2.St} {H : Hp} {j1 j2 : Nat}
/-- over a list of pairs -/
theorem en_lcT (as : List α) (f : α → Addr) (x y : α → V) (sel : α → Bool) (val : α → V) (h : EvH tl σ H (.lst (as.map fun a => V.ref (f a)))) (hn : as.length ≤ 50000) (hp : ∀ (i : Nat) (a : α), as[i]? = some a → ∀ H1, Ex H H1 → H1 (f a) = some (.tup [x a, y a])) (hw : ∀ x y, wipe (((wipe σ vs).set j1 (some x)).set j2 (some y)) vs = wipe σ vs)
    (ht : ∀ (i : Nat) (a : α) H1, as[i]? = some a → Ex H H1 → EvT tt (((wipe σ vs).set j1 (some (x a))).set j2 (some (y a))) H1 (sel a)) (he : ∀ (i : Nat) (a : α) H1, as[i]? = some a → Ex H H1 → sel a = true → Ev te (((wipe σ vs).set j1 (some (x a))).set j2 (some (y a))) H1 (val a)) :
    EvN (tLc (iList K tl) (gTup K 2 (gCons (gName j1) (gCons (gName j2) gNil))) tt te vs) σ H (.lst ((as.filter sel).map val)) := fun H0 e Q q => h H0 e _ fun p H1 e1 hp1 => ⟨p, rfl, ⟨_, sq_of hp1⟩, fun Dl hD =>
  lc_walk (J := Itl K p) (G := fun H => SqL K H p (as.map fun a => V.ref (f a))) (Y := YAt (as.map fun a => V.ref (f a))) as (by have w := walk_list (K := K) (a := p) (xs := as.map fun a => V.ref (f a)); rw [List.length_map] at w; exact w) sel val hD (fun H a => sq_of (a _ _ hp1)) hn
    (fun i a z H2 H3 ha ex y0 => by
      obtain ⟨e2, e3⟩ := y0
      subst e2
      rw [List.getElem?_map, ha] at e3
      have e4 : V.ref (f a) = z := Option.some.inj e3
      subst e4
      exact gTup2_of (hp i a ha _ ((e.trans e1).trans ex)) ⟨hw _ _, Ex.refl _, ht i a _ ha ((e.trans e1).trans ex), he i a _ ha ((e.trans e1).trans ex)⟩) gTup2_mono
    (fun H2 e2 h2 => q Dl H2 (fresh_back e1 hD) (e1.trans e2) h2)⟩
end
theorem ones_any {α : Type} (f : α → Bool) : ∀ l : List α, (!decide (((l.filter f).map fun _ => (1 : Int)) = [])) = l.any f
  | [] => rfl
  | a :: r => by
    rw [List.filter_cons, List.any_cons]
    cases h : f a with
    | true => simp
    | false => simp [← ones_any f r]
/-- the services, by client -/
def SvD (H : Hp) (sd : Addr) (svc : Nat → Option Int) : Prop := ∃ ds : List (Key × V), H sd = some (.dK ds) ∧ ∀ d : Nat, valV ds (kI d) = (svc d).map V.int
theorem SvD.mono {H H' : Hp} {sd : Addr} {svc : Nat → Option Int} (e : Ex H H') (h : SvD H sd svc) : SvD H' sd svc := by
  obtain ⟨ds, h1, h2⟩ := h
  exact ⟨ds, e _ _ h1, h2⟩
theorem sc_law_fails : FnScope ["_law_parts", "_law_services", "_law_client", "_law_slot", "_law_steps", "_law_ending", "_law_begins", "_law_windows", "_law_long", "_law_other", "_law_begin", "_law_served", "_law_first", "_law_after"] ["_law_parts", "_law_services", "_law_client", "_law_slot"] (defScope s_law_fails) := ⟨rfl, rfl, rfl, by decide +kernel, rfl, by decide +kernel, by decide +kernel⟩
def sp_law_fails (K : PySem.W.Frag) : Sp := fun vs H Q _ => ∃ (p sd : Addr) (c : Nat) (s : Int) (S : RS.Scn) (svc : Nat → Option Int), vs = [.ref p, .ref sd, .int c, .int s] ∧ PartsAt H p S ∧ SvD H sd svc ∧ S.Ok ∧ RetV (.bl (RS.failsB S svc c s)) H Q
theorem ok_law_fails (W : Wd K mg) : FnOk P w K mg base CX0 2 (a_law_fails K) (f_law_fails K) ["_law_parts", "_law_services", "_law_client", "_law_slot"] (sp_law_fails K) := by
  refine (F_law_fails W).ok sc_law_fails (fun vs H Q E h => ?_) (fun cdv A outer s H vs Q E hr h => ?_)
  · obtain ⟨p, sd, c, s, S, svc, rfl, _⟩ := h
    rfl
  · obtain ⟨p, sd, c, s, S, svc, rfl, ⟨l, e, b, wd, ws, h1, h2, h3, h4, h5, h6⟩, ⟨ds, hd1, hd2⟩, ok, k⟩ := h
    have hu := units1 hr
    refine ⟨_, PSs.nox (pss_cons (ps_asg (pv 0) (pg_tup rfl (pgs_cons (pg_name (i := 4) sc_law_fails.nd rfl (Or.inl rfl)) (pgs_cons (pg_name (i := 5) sc_law_fails.nd rfl (Or.inl rfl)) (pgs_cons (pg_name (i := 6) sc_law_fails.nd rfl (Or.inl rfl)) (pgs_cons (pg_name (i := 7) sc_law_fails.nd rfl (Or.inl rfl)) (pgs_cons (pg_name (i := 8) sc_law_fails.nd rfl (Or.inl rfl)) pgs_nil)))))))
    (pss_cons (ps_if (pt_cmpR (op_neD hr.units) (pe_lc (own := [("_law_first", 12), ("_law_after", 13)]) rfl sc_law_fails.nd (pi_list (pv 7)) (blkOk_by (N := ["_law_parts", "_law_services", "_law_client", "_law_slot", "_law_steps", "_law_ending", "_law_begins", "_law_windows", "_law_long", "_law_other", "_law_begin", "_law_served", "_law_first", "_law_after"]) (sc := defScope s_law_fails) (by decide +kernel)) (fun _ _ _ _ _ => (gtupK (K := K) (n := 2) rfl (pgs_cons (pg_name (i := 12) sc_law_fails.nd rfl (Or.inl rfl)) (pgs_cons (pg_name (i := 13) sc_law_fails.nd rfl (Or.inl rfl)) pgs_nil)))) (fun _ _ _ _ _ => (pts_one (pt_chain op_le op_lt (pv 12) (pv 3) (pv 13)))) (fun _ _ _ _ _ => pe_int)) (pe_lst pa_nil) (nomark _)) (pss_one (ps_ret pe_bl)) pss_nil)
    (pss_cons (ps_for PassesOwn.never rfl (pi_enum (by rfl) (n_enumerate W) (pa_cons (pv 6) pa_nil)) (pg_tup rfl (pgs_cons (pg_name (i := 9) sc_law_fails.nd rfl (Or.inl rfl)) (pgs_cons (pg_name (i := 10) sc_law_fails.nd rfl (Or.inl rfl)) pgs_nil))) (pss_cons (ps_set (i := 11) sc_law_fails.nd rfl (Or.inl rfl) (pe_dget1 hu (pv 1) (pv 9) ⟨rfl, rfl, rfl, rfl⟩))
      (pss_cons (ps_if (PW.pt (pw_and (pt_cmpR op_ne (pv 9) (pv 2) (nomark _)) (pw_and (pt_cmpR op_notN (pv 11) pe_non (nomark _)) (pw_and1 (pt_chain op_lt op_lt (pv 11) (pv 3) (pe_op op_add (pv 11) (pv 8))))))) (pss_one (ps_ret pe_bl)) pss_nil)
      (pss_one (ps_if (PW.pt (pw_and (pt_cmpR op_ne (pv 9) (pv 2) (nomark _)) (pw_and (PW.pt (pw_or (pt_cmpR op_isN (pv 11) pe_non (nomark _)) (pw_or1 (pt_cmpR op_ge (pv 11) (pv 3) (nomark _))))) (pw_and1 (pt_cmpR op_ge (pv 3) (pv 10) (nomark _)))))) (pss_one (ps_if (pt_val (pe_call (ok_law_has W) (hr.mono (by decide)) (by rfl) (g_law_has W) (F_law_has W).kp (b_law_has W) .nil pass0 (pa_cons (pv 4) (pa_cons (pv 5) (pa_cons (pe_op op_sub (pv 3) (pv 10)) pa_nil))))) (pss_one (ps_ret pe_bl)) pss_nil)) pss_nil)))))
    (pss_one (ps_ret pe_bl))))), ?_⟩
    have tn := ok.ten
    have ol := ok.ol
    refine q_parts (eh_of (ev_var rfl) h1) fun H1 e1 => ?_
    have hz : ws.map V.ref = (ws.zip S.outs).map fun q => V.ref q.1 := by
      have : ws = (ws.zip S.outs).map (·.1) := by rw [List.map_fst_zip (by have := h6.1; omega)]
      conv => lhs; rw [this]
      rw [List.map_map]
      rfl
    have h5' := h5
    rw [hz] at h5'
    have zl : (ws.zip S.outs).length ≤ 5 := by rw [List.length_zip]; omega
    have hi : ∀ (i : Nat) (a : Addr × (Int × Int)), (ws.zip S.outs)[i]? = some a → H a.1 = some (.tup [.int a.2.1, .int a.2.2]) := fun i a ha => by
      rw [List.getElem?_zip_eq_some] at ha
      exact h6.2 i _ _ ha.1 ha.2
    have hany : (!decide ((((ws.zip S.outs).filter fun q => decide (q.2.1 ≤ s) && decide (s < q.2.2)).map fun _ => (1 : Int)) = [])) = RS.outB S s := by
      rw [ones_any]
      unfold RS.outB
      have e2 : S.outs = (ws.zip S.outs).map (·.2) := by rw [List.map_snd_zip (by have := h6.1; omega)]
      conv => rhs; rw [e2]
      rw [List.any_map]
      rfl
    refine q_when (b := RS.outB S s) (et_test (ev_is (ev_neInts (a := ((ws.zip S.outs).filter fun q => decide (q.2.1 ≤ s) && decide (s < q.2.2)).map fun _ => (1 : Int)) (b := []) (EvN.h (by
      rw [List.map_map]
      exact en_lcT (K := K) (ws.zip S.outs) (fun q => q.1) (fun q => .int q.2.1) (fun q => .int q.2.2) (fun q => decide (q.2.1 ≤ s) && decide (s < q.2.2)) (fun _ => V.int 1) (eh_of (ev_var rfl) (e1 _ _ h5')) (by omega) (fun i a ha H2 e2 => e2 _ _ (e1 _ _ (hi i a ha))) (fun _ _ => rfl)
        (fun i a H2 ha e2 => et_test (ev_chain (ev_var rfl) (ev_var rfl) rv_I0 (fun _ => ev_var rfl) fun _ => rv_I0)) (fun i a H2 ha e2 _ => ev_c))) (EvN.h (en_lst ea_nil (Nat.zero_le _)))) (by rw [hany]))) (fun hb H2 e2 => ?_) fun hb H2 e2 => ?_
    · have : RS.failsB S svc c s = true := by unfold RS.failsB; rw [hb]; rfl
      rw [this] at k
      exact s_ret ev_c fun H3 e3 => k H3 ((e1.trans e2).trans e3)
    · have e12 := e1.trans e2
      refine ev_go (ev_var (i := 6) rfl) fun H3 e3 => ?_
      have e13 := e12.trans e3
      refine ⟨b, S.starts.map V.int, rfl, sq_of (e13 _ _ h4), for_it (walk_enum (K := K) (a := b) (xs := S.starts.map V.int)) (fun i σ' H' => Ex H H' ∧ (∃ v9 v10 v11, σ' = [some (.ref p), some (.ref sd), some (.int c), some (.int s), some (.ref l), some (.ref e), some (.ref b), some (.ref wd), some (.int S.len), v9, v10, v11, none, none]) ∧ ∀ d, d < i → (RS.busyB S svc c s d || RS.meetB S svc c s d) = false) ⟨e13, ⟨_, _, _, rfl⟩, fun d hd => by omega⟩ (fun i σ' H' _ q => sq_of (q.1 _ _ h4)) ?_ ?_⟩
      · rintro i x σ' H' H'' hi ⟨g1, ⟨v9, v10, v11, rfl⟩, hno⟩ ⟨T, y1, y2, rfl, hT, rfl, q1, q2⟩
        have q1 : V.int (i : Nat) = y1 := Option.some.inj q1
        subst q1
        rw [List.length_map] at hi
        have q2 : (S.starts.map V.int)[i]? = some y2 := q2
        rw [b_get hi] at q2
        have q2 := Option.some.inj q2
        subst q2
        have g2 := g1.trans (Ex.new (o := .tup [V.int (i : Nat), V.int (S.b i)]) hT)
        refine gTup2_of upd_same ?_
        generalize upd H' T (.tup [V.int (i : Nat), V.int (S.b i)]) = H4 at *
        -- done by one of the tests
        have fin : (RS.busyB S svc c s i || RS.meetB S svc c s i) = true → RS.failsB S svc c s = true := fun h => by
          unfold RS.failsB
          rw [Bool.or_eq_true, List.any_eq_true]
          exact .inr ⟨i, List.mem_range.mpr hi, h⟩
        have nx : (RS.busyB S svc c s i || RS.meetB S svc c s i) = false → ∀ d, d < i + 1 → (RS.busyB S svc c s d || RS.meetB S svc c s d) = false := fun h d hd => by
          by_cases z : d = i
          · rw [z]
            exact h
          · exact hno d (by omega)
        refine q_asg (ev_dget1 (eh_of (ev_var rfl) (g2 _ _ hd1)) (k := kI i) (ev_var rfl)) fun H5 e5 => ?_
        rw [hd2 i]
        have g5 := g2.trans e5
        have hne : Ev (tOp rNe (tVar 9) (tVar 2)) [some (.ref p), some (.ref sd), some (.int c), some (.int s), some (.ref l), some (.ref e), some (.ref b), some (.ref wd), some (.int S.len), some (.int (i : Nat)), some (.int (S.b i)), some (((svc i).map V.int).getD .non), none, none] H5 (.bl (decide (i ≠ c))) := ev_is (ev_op (ev_var rfl) (ev_var rfl) rv_neI) (by
          by_cases z : i = c
          · simp [z]
          · have : ¬ ((i : Int) = (c : Int)) := by omega
            simp [z, this])
        have has5 : ∀ {σ : L2.St} {H6 : Hp}, Ex H5 H6 → σ[4]? = some (some (.ref l)) → σ[5]? = some (some (.ref e)) → σ[3]? = some (some (.int s)) → σ[10]? = some (some (.int (S.b i))) → Ev (tCall (sp_law_has K) [] E0 (tCons (tVar 4) (tCons (tVar 5) (tCons (tOp (rI0 fun i j => .int (i - j)) (tVar 3) (tVar 10)) tNil)))) σ H6 (.bl (RS.atr S.rule (s - S.b i)).isSome) := fun e6 s4 s5 s3 s10 =>
          ev_call (ea_cons (ev_var s4) (ea_cons (ev_var s5) (ea_cons (ev_op (ev_var s3) (ev_var s10) rv_I0) ea_nil))) (law_has_at ((g5.trans e6) _ _ h2) ((g5.trans e6) _ _ h3) ok.rule)
        cases hsv : svc i with
        | none =>
          rw [hsv] at hne
          have hbz : RS.busyB S svc c s i = false := by
            unfold RS.busyB
            rw [hsv, Bool.and_false]
          have hmz : RS.meetB S svc c s i = (decide (i ≠ c) && (true && (decide (S.b i ≤ s) && (RS.atr S.rule (s - S.b i)).isSome))) := by
            unfold RS.meetB
            rw [hsv]
          refine q_when (b := decide (i ≠ c) && (false && false)) (et_and (et_test hne) fun _ => et_and (a := false) (et_test (ev_op (ev_var rfl) ev_c rv_notN)) fun z => by cases z) (fun hb1 H6 e6 => ?_) fun hb1 H6 e6 => ?_
          · simp at hb1
          · have g6 := g5.trans e6
            refine s_when (b := decide (i ≠ c) && (true && decide (S.b i ≤ s))) (et_and (et_test (hne.mono e6)) fun _ => et_and (et_is (et_or (a := true) (b := false) (et_test (ev_op (ev_var rfl) ev_c rv_isN)) (fun z => by cases z)) rfl) fun _ => et_test (ev_op (ev_var rfl) (ev_var rfl) rv_I0)) (fun hb2 H7 e7 => ?_) fun hb2 H7 e7 => ?_
            · refine s_when (b := (RS.atr S.rule (s - S.b i)).isSome) (et_B (has5 (e6.trans e7) rfl rfl rfl rfl)) (fun hb3 H8 e8 => ?_) fun hb3 H8 e8 => ?_
              · have := fin (by
                  rw [hbz, hmz, hb3]
                  simpa using hb2)
                rw [this] at k
                exact s_ret ev_c fun H9 e9 => k H9 (((g6.trans e7).trans e8).trans e9)
              · exact ⟨(g6.trans e7).trans e8, ⟨_, _, _, rfl⟩, nx (by
                  rw [hbz, hmz, hb3]
                  simp)⟩
            · refine ⟨g6.trans e7, ⟨_, _, _, rfl⟩, nx ?_⟩
              rw [hbz, hmz]
              cases h1 : decide (i ≠ c) with
              | false => rfl
              | true =>
                rw [h1] at hb2
                have hb2 : decide (S.b i ≤ s) = false := hb2
                rw [hb2]
                rfl
        | some t =>
          rw [hsv] at hne
          have hbz : RS.busyB S svc c s i = (decide (i ≠ c) && (true && (decide (t < s) && decide (s < t + S.len)))) := by
            unfold RS.busyB
            rw [hsv]
            rfl
          have hmz : RS.meetB S svc c s i = (decide (i ≠ c) && (decide (s ≤ t) && (decide (S.b i ≤ s) && (RS.atr S.rule (s - S.b i)).isSome))) := by
            unfold RS.meetB
            rw [hsv]
          refine q_when (b := decide (i ≠ c) && (true && (decide (t < s) && decide (s < t + S.len)))) (et_and (et_test hne) fun _ => et_and (a := true) (et_test (ev_op (ev_var rfl) ev_c rv_notN)) fun _ => et_test (ev_chain (ev_var rfl) (ev_var rfl) rv_I0 (fun _ => ev_op (ev_var rfl) (ev_var rfl) rv_I0) fun _ => rv_I0)) (fun hb1 H6 e6 => ?_) fun hb1 H6 e6 => ?_
          · have := fin (by rw [hbz, hb1]; rfl)
            rw [this] at k
            exact s_ret ev_c fun H9 e9 => k H9 ((g5.trans e6).trans e9)
          · have g6 := g5.trans e6
            refine s_when (b := decide (i ≠ c) && (decide (s ≤ t) && decide (S.b i ≤ s))) (et_and (et_test (hne.mono e6)) fun _ => et_and (et_is (et_or (a := false) (et_test (ev_op (ev_var rfl) ev_c rv_isN)) (fun _ => et_test (ev_op (ev_var rfl) (ev_var rfl) rv_I0))) rfl) fun _ => et_test (ev_op (ev_var rfl) (ev_var rfl) rv_I0)) (fun hb2 H7 e7 => ?_) fun hb2 H7 e7 => ?_
            · refine s_when (b := (RS.atr S.rule (s - S.b i)).isSome) (et_B (has5 (e6.trans e7) rfl rfl rfl rfl)) (fun hb3 H8 e8 => ?_) fun hb3 H8 e8 => ?_
              · have := fin (by
                  rw [hmz, hb3, Bool.and_true, hb2, Bool.or_true])
                rw [this] at k
                exact s_ret ev_c fun H9 e9 => k H9 (((g6.trans e7).trans e8).trans e9)
              · exact ⟨(g6.trans e7).trans e8, ⟨_, _, _, rfl⟩, nx (by
                  rw [hbz, hb1, hmz, hb3]
                  simp)⟩
            · refine ⟨g6.trans e7, ⟨_, _, _, rfl⟩, nx ?_⟩
              rw [hbz, hb1, hmz, Bool.false_or, ← Bool.and_assoc, ← Bool.and_assoc, Bool.and_assoc (decide (i ≠ c)), hb2, Bool.false_and]
      · rintro σ' H' ⟨g1, ⟨v9, v10, v11, rfl⟩, hno⟩
        rw [List.length_map] at hno
        have : RS.failsB S svc c s = false := by
          unfold RS.failsB
          rw [hb, Bool.false_or]
          exact List.any_eq_false.mpr fun d hd => by
            rw [hno d (List.mem_range.mp hd)]
            decide
        rw [this] at k
        exact s_ret (σ := ([] : L2.St)) (D := { nx := fun _ H' => Q .non H', rt := Q }) ev_c fun H7 e7 => k H7 (g1.trans e7)
theorem law_fails_at {H : Hp} {p sd : Addr} {c : Nat} {s : Int} {S : RS.Scn} {svc : Nat → Option Int} (hp : PartsAt H p S) (hd : SvD H sd svc) (ok : S.Ok) : SpV (sp_law_fails K) [.ref p, .ref sd, .int c, .int s] H (.bl (RS.failsB S svc c s)) := fun H1 e Q q _ => ⟨p, sd, c, s, S, svc, rfl, hp.mono e, hd.mono e, ok, q⟩
end RW
end

section
set_option Elab.async false
set_option linter.all false
set_option maxRecDepth 100000
set_option maxHeartbeats 4000000
namespace RW
open PySem L2 Evl
variable {P : Program} {w0 : World} {K : PySem.W.Frag} {mg : Str → Option Value} {base : Heap}
section
variable {σ : L2.St} {G H : Hp} {w : Addr} {n n' n1 : Int} {ta tb ti te tN tx : TE} {tt : TT} {D : L2.Ends} {tz tu tv : TS} {b : Bool}
/-- two ways that meet -/
theorem q_ifJ {J : L2.St → Hp → Prop} (h : EvT tt σ H b) (h1 : b = true → ∀ H1, Ex H H1 → ∀ D' : L2.Ends, D'.rt = D.rt → (∀ σ2 H2, J σ2 H2 → D'.nx σ2 H2) → tu D' σ H1) (h2 : b = false → ∀ H1, Ex H H1 → ∀ D' : L2.Ends, D'.rt = D.rt → (∀ σ2 H2, J σ2 H2 → D'.nx σ2 H2) → tv D' σ H1)
    (k : ∀ σ2 H2, J σ2 H2 → tz D σ2 H2) : tSeq (tIfS tt tu tv) tz D σ H := q_if h (fun hb H1 e1 => h1 hb H1 e1 _ rfl k) (fun hb H1 e1 => h2 hb H1 e1 _ rfl k)
/-- a one-word tuple against one of two -/
theorem ev_told {x a c : Str} {i : Nat} (ha : EvH ta σ H (.tup [.str x])) (hi : Ev ti σ H (.int (i : Int))) (hx : (i = 0 ∧ x = a) ∨ (i = 1 ∧ x = c)) (hs : SeqAt.shaped (.tuple [.str x]) = true) :
    Ev (tOp (rNeD K) ta (tOp (rIxL K) (tLst (tCons (tTup (tCons (tC (.str a)) tNil)) (tCons (tTup (tCons (tC (.str c)) tNil)) tNil))) ti)) σ H (.bl false) := fun H1 e Q q =>
  ha H1 e _ fun p H2 e2 h2 => by
    refine ⟨sz_of (show (1 : Nat) ≤ 100000 by decide), fun t0 ht0 => ⟨sz_of (show (1 : Nat) ≤ 100000 by decide), fun t1 ht1 => ⟨sz_of (show (2 : Nat) ≤ 100000 by decide), fun l hl => ?_⟩⟩⟩
    have a1 := Ex.new (o := .tup [.str a]) ht0
    have a2 := Ex.new (o := .tup [.str c]) ht1
    have a3 := Ex.new (o := .lst [.ref t0, .ref t1]) hl
    have f0 := a3 _ _ (a2 _ _ (upd_same (H := H2) (a := t0) (o := .tup [.str a])))
    have f1 := a3 _ _ (upd_same (H := upd H2 t0 (.tup [.str a])) (a := t1) (o := .tup [.str c]))
    have g0 := upd_same (H := upd (upd H2 t0 (.tup [.str a])) t1 (.tup [.str c])) (a := l) (o := .lst [.ref t0, .ref t1])
    have ex := (a1.trans a2).trans a3
    generalize upd (upd (upd H2 t0 (.tup [.str a])) t1 (.tup [.str c])) l (.lst [.ref t0, .ref t1]) = A at *
    refine hi A ((e.trans e2).trans ex) _ fun H3 e3 => ?_
    have hp3 := e3 _ _ (ex _ _ h2)
    have hv : PyData.eqv (.tuple [.str x]) (.tuple [.str x]) = true := by simp [PyData.eqv, PyData.eqvAll]
    have fin : ∀ t, atI [V.ref t0, V.ref t1] (i : Int) = some (.ref t) → H3 t = some (.tup [.str x]) → ∃ (p_1 : Addr) (xs : List V) (i_1 : Int) (v : V), V.ref l = .ref p_1 ∧ V.int (i : Int) = .int i_1 ∧ SqL K H3 p_1 xs ∧ atI xs i_1 = some v ∧ rNeD K (.ref p) v H3 Q := fun t h4 h5 =>
      ⟨l, _, i, .ref t, rfl, rfl, sq_of (e3 _ _ g0), h4, _, _, .tup (st_of hp3) (.cons (.str x) .nil), .tup (st_of h5) (.cons (.str x) .nil), hs, hs, by rw [hv]; exact q H3 ((e2.trans ex).trans e3)⟩
    rcases hx with ⟨rfl, rfl⟩ | ⟨rfl, rfl⟩
    · exact fin t0 (atI_nat rfl) (e3 _ _ f0)
    · exact fin t1 (atI_nat rfl) (e3 _ _ f1)
abbrev kS (x : Str) : Key := Sum.inr x
theorem count_get {N X : Int} (x : Str) {r : Int} (h : (x = "end" ∧ r = N) ∨ (x = "times" ∧ r = 60) ∨ (x = "repeat" ∧ r = X)) : valV (mergeK [] [(kS "end", V.int N), (kS "times", V.int 60), (kS "repeat", V.int X)]) (kS x) = some (.int r) := by
  have d1 : ¬ (kS "end" = kS "times") := by decide +kernel
  have d2 : ¬ (kS "end" = kS "repeat") := by decide +kernel
  have d3 : ¬ (kS "times" = kS "repeat") := by decide +kernel
  show valV (putK (putK (putK [] (kS "end") (V.int N)) (kS "times") (V.int 60)) (kS "repeat") (V.int X)) (kS x) = some (.int r)
  rw [valV_put, valV_put, valV_put]
  rcases h with ⟨rfl, rfl⟩ | ⟨rfl, rfl⟩ | ⟨rfl, rfl⟩
  · rw [if_neg d2, if_neg d1, if_pos rfl]
  · rw [if_neg d3, if_pos rfl]
  · rw [if_pos rfl]
/-- dict([("end", ..), ("times", 60), ("repeat", ..)])[..] -/
theorem ew_count {N lo hi : Int} {x : Str} (hG : G w = none) (hN : Ev tN σ G (.int N)) (hX : EvW tx σ G w n n' (IntIn lo hi)) (hx : ∀ G', Ex G G' → Ev te σ G' (.str x)) (hk : x = "end" ∨ x = "times" ∨ x = "repeat") :
    EvW (tDGet (tCB (fun xs H Q => ∃ (a : Addr) (ps : List Addr) (kvs : List (Key × V)), xs = [.ref a] ∧ SqL K H a (ps.map V.ref) ∧ Paired (fun p kv => SqT K H p [kV kv.1, kv.2]) ps kvs ∧ ∀ p, H p = none → Q (.ref p) (upd H p (.dK (mergeK [] kvs)))) (tCons (tLst (tCons (tTup (tCons (tC (.str "end")) (tCons tN tNil))) (tCons (tTup (tCons (tC (.str "times")) (tCons (tC (.int 60)) tNil))) (tCons (tTup (tCons (tC (.str "repeat")) (tCons tx tNil))) tNil)))) tNil)) te) σ G w n n'
      (fun v _ => ∃ r, v = .int r ∧ ((x = "end" ∧ r = N) ∨ (x = "times" ∧ r = 60) ∨ (x = "repeat" ∧ lo ≤ r ∧ r < hi))) := fun H1 e hwl Q q => by
  refine hN H1 e _ fun H2 e2 => ⟨sz_of (show (2 : Nat) ≤ 100000 by decide), fun t0 ht0 => ⟨sz_of (show (2 : Nat) ≤ 100000 by decide), fun t1 ht1 => ?_⟩⟩
  have w2 := hwl.mono e2 (Int.le_refl _)
  have a1 := Ex.new (o := .tup [.str "end", .int N]) ht0
  have n0 := w2.ne ht0
  have w3 := w2.mono a1 (Int.le_refl _)
  have a2 := Ex.new (o := .tup [.str "times", .int 60]) ht1
  have n1' := w3.ne ht1
  have w4 := w3.mono a2 (Int.le_refl _)
  have f0 := a2 _ _ (upd_same (H := H2) (a := t0) (o := .tup [.str "end", .int N]))
  have f1 := upd_same (H := upd H2 t0 (.tup [.str "end", .int N])) (a := t1) (o := .tup [.str "times", .int 60])
  have ex := a1.trans a2
  generalize upd (upd H2 t0 (.tup [.str "end", .int N])) t1 (.tup [.str "times", .int 60]) = A at *
  refine hX A ((e.trans e2).trans ex) w4 _ fun v H3 r e3 w5 => ?_
  obtain ⟨r, rfl, r0, r1⟩ := r
  refine ⟨sz_of (show (2 : Nat) ≤ 100000 by decide), fun t2 ht2 => ⟨sz_of (show (3 : Nat) ≤ 100000 by decide), fun l hl => ?_⟩⟩
  have a3 := Ex.new (o := .tup [.str "repeat", .int r]) ht2
  have f2 := upd_same (H := H3) (a := t2) (o := .tup [.str "repeat", .int r])
  have w6 := w5.mono a3 (Int.le_refl _)
  have a4 := Ex.new (o := .lst [.ref t0, .ref t1, .ref t2]) hl
  have g0 := upd_same (H := upd H3 t2 (.tup [.str "repeat", .int r])) (a := l) (o := .lst [.ref t0, .ref t1, .ref t2])
  have f2' := a4 _ _ f2
  have w7 := w6.mono a4 (Int.le_refl _)
  have x3 : Ex (hide A w) (upd (upd H3 t2 (.tup [.str "repeat", .int r])) l (.lst [.ref t0, .ref t1, .ref t2])) := (e3.trans a3).trans a4
  generalize upd (upd H3 t2 (.tup [.str "repeat", .int r])) l (.lst [.ref t0, .ref t1, .ref t2]) = B at *
  refine ⟨l, [t0, t1, t2], [(kS "end", V.int N), (kS "times", V.int 60), (kS "repeat", V.int r)], rfl, sq_of g0, .cons (st_of (x3 _ _ (hide_at f0 n0))) (.cons (st_of (x3 _ _ (hide_at f1 n1'))) (.cons (st_of f2') .nil)), fun p hp => ?_⟩
  have a5 := Ex.new (o := .dK (mergeK [] [(kS "end", V.int N), (kS "times", V.int 60), (kS "repeat", V.int r)])) hp
  have w8 := w7.mono a5 (Int.le_refl _)
  have gd := upd_same (H := B) (a := p) (o := .dK (mergeK [] [(kS "end", V.int N), (kS "times", V.int 60), (kS "repeat", V.int r)]))
  have x5 : Ex (hide H1 w) (upd B p (.dK (mergeK [] [(kS "end", V.int N), (kS "times", V.int 60), (kS "repeat", V.int r)]))) := (hide_tr (hide_ex.trans (e2.trans ex)) x3).trans a5
  refine hx _ ((ex_hide e hG).trans x5) _ (Ex.refl _) _ fun H6 e6 => ?_
  obtain ⟨rr, hr1, hr2⟩ : ∃ rr : Int, ((x = "end" ∧ rr = N) ∨ (x = "times" ∧ rr = 60) ∨ (x = "repeat" ∧ rr = r)) ∧ ((x = "end" ∧ rr = N) ∨ (x = "times" ∧ rr = 60) ∨ (x = "repeat" ∧ lo ≤ rr ∧ rr < hi)) := by
    rcases hk with h | h | h
    · exact ⟨N, .inl ⟨h, rfl⟩, .inl ⟨h, rfl⟩⟩
    · exact ⟨60, .inr (.inl ⟨h, rfl⟩), .inr (.inl ⟨h, rfl⟩)⟩
    · exact ⟨r, .inr (.inr ⟨h, rfl⟩), .inr (.inr ⟨h, r0, r1⟩)⟩
  exact ⟨p, .int rr, rfl, by rw [← count_get x hr1]; exact DGet.k (k := kS x) (e6 _ _ gd), q _ H6 ⟨rr, rfl, hr2⟩ (x5.trans e6) (w8.mono e6 (Int.le_refl _))⟩
/-- a known list and a list of draws -/
theorem ew_cat {xs : List Int} {lo hi N : Int} (hG : G w = none) (ha : EvN ta σ G (.lst (xs.map V.int))) (hb : EvW tb σ G w n n' (IsInts w lo hi N)) (hl : (xs.length : Int) + N ≤ 1000) : EvW (tOp rCat ta tb) σ G w n n' (fun v H => ∃ (p : Addr) (ns : List Int), v = .ref p ∧ p ≠ w ∧ H p = some (.lst (ns.map V.int)) ∧ ns.length ≤ 1000) := fun H1 e hwl Q q =>
  ha H1 e _ fun a H2 hna e2 h2 => hb H2 (e.trans e2) (hwl.mono e2 (Int.le_refl _)) _ fun v H3 r e3 w3 => by
    obtain ⟨p, ns, rfl, hp, h3, l3, _⟩ := r
    have aw := (hwl.mono (Ex.refl _) (Int.le_refl _)).ne hna
    refine ⟨a, p, _, _, rfl, rfl, e3 _ _ (hide_at h2 aw), h3, sz_of (by rw [List.length_map, List.length_map]; omega), fun t ht => ?_⟩
    rw [← List.map_append]
    exact q _ _ ⟨t, xs ++ ns, rfl, w3.ne ht, upd_same, by rw [List.length_append]; omega⟩ (((ex_hide (hide_ex.trans e2) hide_no).trans e3).trans (Ex.new ht)) (w3.mono (Ex.new ht) (Int.le_refl _))
end
end RW
end

section
set_option Elab.async false
set_option linter.all false
set_option maxRecDepth 100000
set_option maxHeartbeats 4000000
namespace RW
open PySem L2 Evl
variable {P : Program} {w0 : World} {K : PySem.W.Frag} {mg : Str → Option Value} {base : Heap}
/-- attempts below the count all fail, and can be told -/
structure CntOk (S : RS.Scn) (svc : Nat → Option Int) (c : Nat) (cnt : Int) : Prop where
  lo : 0 ≤ cnt
  hi : cnt ≤ 2 ^ 120
  has : ∀ j : Nat, (j : Int) < cnt → RS.hasB S.rule j = true
  tim : ∀ j : Nat, (j : Int) < cnt → ∀ b, S.rule.tail = .tim b → j ≤ 1000
  fail : ∀ j : Nat, (j : Int) < cnt → RS.Fails S svc c (S.b c + RS.off S.rule j)
def tailW : RS.Tail → Str
  | .fin => "end"
  | .tim _ => "times"
  | .rep _ => "repeat"
theorem tailV_get {t : RS.Tail} : atI (tailV t) 0 = some (.str (tailW t)) := by
  cases t <;> exact atI_nat (j := 0) rfl
theorem sc_law_client_right : FnScope ["_law_well_here", "_law_parts", "_law_services", "_law_client", "_law_told", "_law_made_here", "_law_steps", "_law_ending", "_law_begins", "_law_windows", "_law_long", "_law_count", "_law_some", "_law_attempt", "_law_slot", "_law_k", "_law_one_here"] ["_law_well_here", "_law_parts", "_law_services", "_law_client", "_law_told", "_law_made_here"] (defScope s_law_client_right) := ⟨rfl, rfl, rfl, by decide +kernel, rfl, by decide +kernel, by decide +kernel⟩
def sp_law_client_right (K : PySem.W.Frag) : Sp := fun vs H Q _ => ∃ (w p sd : Addr) (c : Nat) (td sc : Addr) (n : Int) (S : RS.Scn) (sv : List (Nat × (Nat × Int))), vs = [.ref w, .ref p, .ref sd, .int c, .ref td, .ref sc] ∧ WellAt H w n ∧ n ≤ 50000 ∧ PartsAt (hide H w) p S ∧ SvD (hide H w) sd (RS.svOf sv) ∧ hide H w td = some (.tup (outT S sv c)) ∧ SceneAt K (hide H w) sc S ∧ S.Ok ∧ RS.Good S sv ∧ RS.KB S sv ∧ c < S.m ∧
  ∀ H2, Ex (hide H w) H2 → WellAt H2 w (n + 10) → Q (.bl true) H2
theorem ok_law_client_right (W : Wd K mg) : FnOk P w0 K mg base CX0 5 (a_law_client_right K) (f_law_client_right K) ["_law_well_here", "_law_parts", "_law_services", "_law_client", "_law_told", "_law_made_here"] (sp_law_client_right K) := by
  refine (F_law_client_right W).ok sc_law_client_right (fun vs H Q E h => ?_) (fun cdv A outer s H vs Q E hr h => ?_)
  · obtain ⟨w, p, sd, c, td, sc, n, S, sv, rfl, _⟩ := h
    rfl
  · obtain ⟨w, p, sd, c, td, sc, n, S, sv, rfl, hw, nn, hp, hd, ht, hS, ok, good, kb, hc, k⟩ := h
    have hu := units1 hr
    refine ⟨_, PSs.nox (pss_cons (ps_asg (pv 1) (pg_tup rfl (pgs_cons (pg_name (i := 6) sc_law_client_right.nd rfl (Or.inl rfl)) (pgs_cons (pg_name (i := 7) sc_law_client_right.nd rfl (Or.inl rfl)) (pgs_cons (pg_name (i := 8) sc_law_client_right.nd rfl (Or.inl rfl)) (pgs_cons (pg_name (i := 9) sc_law_client_right.nd rfl (Or.inl rfl)) (pgs_cons (pg_name (i := 10) sc_law_client_right.nd rfl (Or.inl rfl)) pgs_nil)))))))
    (pss_cons (ps_if (pt_cmpR op_eq (pe_ix ix_tup (pv 4) pe_int (fun _ _ => rfl)) pe_str (nomark _)) (pss_cons (ps_if (PW.pt (pw_or (pt_cmpR op_ne (pe_meth (pv 5) (cl_Scene W) (m_S_slot_of W) (ok_S_slot_of W) (hr.mono (by decide)) (b_S_slot_of W) .nil pass0 (pa_cons (pv 3) (pa_cons (pe_ix ix_tup (pv 4) pe_int (fun _ _ => rfl)) pa_nil))) (pe_ix ix_tup (pv 4) pe_int (fun _ _ => rfl)) (nomark _)) (pw_or1 (pt_val (pe_call (ok_law_fails W) (hr.mono (by decide)) (by rfl) (g_law_fails W) (F_law_fails W).kp (b_law_fails W) .nil pass0 (pa_cons (pv 1) (pa_cons (pv 2) (pa_cons (pv 3) (pa_cons (pe_ix ix_tup (pv 4) pe_int (fun _ _ => rfl)) pa_nil))))))))) (pss_one (ps_ret pe_bl)) pss_nil)
      (pss_one (ps_set (i := 11) sc_law_client_right.nd rfl (Or.inr rfl) (pe_ix ix_tup (pv 4) pe_int (fun _ _ => rfl))))) (pss_cons (ps_if (pt_cmpR (op_neD hr.units) (pv 4) (pe_ix ix_list (pe_lst (pa_cons (pe_tup (pa_cons pe_str pa_nil)) (pa_cons (pe_tup (pa_cons pe_str pa_nil)) pa_nil))) (pe_callTy call_int1 (by rfl) (n_int W) (by decide +kernel) (pa_cons (pe_cmpR op_eq (pe_ix ix_tup (pv 7) pe_int (fun _ _ => rfl)) pe_str (nomark _)) pa_nil)) (fun _ _ => rfl)) (nomark _)) (pss_one (ps_ret pe_bl)) pss_nil)
      (pss_one (ps_set (i := 11) sc_law_client_right.nd rfl (Or.inr rfl) (pe_dget hu (pe_callTy (call_dictP rfl) (by rfl) (n_dict W) (by decide +kernel) (pa_cons (pe_lst (pa_cons (pe_tup (pa_cons pe_str (pa_cons (pe_op op_add (pe_callB call_len_seq (by rfl) (n_len W) (by decide +kernel) (pa_cons (pv 6) pa_nil)) pe_int) pa_nil))) (pa_cons (pe_tup (pa_cons pe_str (pa_cons pe_int pa_nil))) (pa_cons (pe_tup (pa_cons pe_str (pa_cons (pe_call (ok_law_one W) (hr.mono (by decide)) (by rfl) (g_law_one W) (F_law_one W).kp (b_law_one W) .nil pass0 (pa_cons (pv 0) (pa_cons (pe_lst (pa_cons pe_int (pa_cons (pe_op op_pow pe_int pe_int) pa_nil))) pa_nil))) pa_nil))) pa_nil)))) pa_nil)) (pe_ix ix_tup (pv 7) pe_int (fun _ _ => rfl)) (fun _ _ => rfl))))))
    (pss_cons (ps_set (i := 12) sc_law_client_right.nd rfl (Or.inl rfl) (pe_op op_cat (pe_lst (pa_cons pe_int (pa_cons (pe_op op_sub (pv 11) pe_int) (pa_cons (pe_op op_sub (pv 11) pe_int) (pa_cons (pe_op op_fdivW (pv 11) pe_int) pa_nil))))) (pe_lc (own := [("_law_k", 15)]) rfl sc_law_client_right.nd (pi_range1 (by rfl) (n_range W) (pa_cons pe_int pa_nil)) (blkOk_by (N := ["_law_well_here", "_law_parts", "_law_services", "_law_client", "_law_told", "_law_made_here", "_law_steps", "_law_ending", "_law_begins", "_law_windows", "_law_long", "_law_count", "_law_some", "_law_attempt", "_law_slot", "_law_k", "_law_one_here"]) (sc := defScope s_law_client_right) (by decide +kernel)) (fun _ _ _ _ _ => (pg_name (i := 15) sc_law_client_right.nd rfl (Or.inl rfl))) (fun _ _ _ _ _ => pts_nil) (fun _ _ _ _ _ => (pe_call (ok_law_draw W) (hr.mono (by decide)) (by rfl) (g_law_draw W) (F_law_draw W).kp (b_law_draw W) .nil pass0 (pa_cons (pv 0) (pa_cons (pe_op op_add (pv 11) pe_int) pa_nil)))))))
    (pss_cons (ps_for PassesOwn.never rfl (pi_list (pe_lc (own := [("_law_one_here", 16)]) rfl sc_law_client_right.nd (pi_list (pv 12)) (blkOk_by (N := ["_law_well_here", "_law_parts", "_law_services", "_law_client", "_law_told", "_law_made_here", "_law_steps", "_law_ending", "_law_begins", "_law_windows", "_law_long", "_law_count", "_law_some", "_law_attempt", "_law_slot", "_law_k", "_law_one_here"]) (sc := defScope s_law_client_right) (by decide +kernel)) (fun _ _ _ _ _ => (pg_name (i := 16) sc_law_client_right.nd rfl (Or.inl rfl))) (fun _ _ _ _ _ => (pts_one (pt_chain op_le op_lt pe_int (pv 16) (pv 11)))) (fun _ _ _ _ _ => (pv 16)))) (pg_name (i := 13) sc_law_client_right.nd rfl (Or.inl rfl)) (pss_cons (ps_set (i := 14) sc_law_client_right.nd rfl (Or.inl rfl) (pe_meth (pv 5) (cl_Scene W) (m_S_slot_of W) (ok_S_slot_of W) (hr.mono (by decide)) (b_S_slot_of W) .nil pass0 (pa_cons (pv 3) (pa_cons (pv 13) pa_nil))))
      (pss_one (ps_if (pt_not (pt_val (pe_call (ok_law_fails W) (hr.mono (by decide)) (by rfl) (g_law_fails W) (F_law_fails W).kp (b_law_fails W) .nil pass0 (pa_cons (pv 1) (pa_cons (pv 2) (pa_cons (pv 3) (pa_cons (pv 14) pa_nil))))))) (pss_one (ps_ret pe_bl)) pss_nil))))
    (pss_one (ps_ret pe_bl)))))), ?_⟩
    obtain ⟨l, e, b, wd, ws, p1, p2, p3, p4, p5, p6⟩ := id hp
    have hx := hide_ex (H := H) (d := w)
    have ol := ok.rule.len
    refine q_parts (eh_of (ev_var rfl) (hx _ _ p1)) fun H1 e1 => ?_
    have w1 := hw.mono e1 (Int.le_refl _)
    have h1 : Ex (hide H w) (hide H1 w) := hide_mono e1
    refine q_ifJ (J := fun σ2 H2 => ∃ cnt : Int, CntOk S (RS.svOf sv) c cnt ∧ Ex (hide H1 w) H2 ∧ WellAt H2 w (n + 1) ∧ σ2 = [some (.ref w), some (.ref p), some (.ref sd), some (.int c), some (.ref td), some (.ref sc), some (.ref l), some (.ref e), some (.ref b), some (.ref wd), some (.int S.len), some (.int cnt), none, none, none, none, none])
      (b := (sv.lookup c).isSome) ?_ (fun hb H2 e2 D' hrt hJ => ?_) (fun hb H2 e2 D' hrt hJ => ?_) (fun σ2 H2 hJ => ?_)
    · cases hl : sv.lookup c with
      | some x =>
        have ht1 : H1 td = some (.tup [.str "served", .int (x.1 : Int), .int x.2]) := by
          have := e1 _ _ (hx _ _ ht)
          unfold outT at this
          rw [hl] at this
          exact this
        exact et_test (ev_is (ev_op (ev_ixT (eh_of (ev_var rfl) ht1) ev_c rfl) ev_c rv_eqS) (by show _ = V.bl true; decide +kernel))
      | none =>
        have ht1 : H1 td = some (.tup (match S.rule.tail with | .fin => [.str "ended"] | _ => [.str "never"])) := by
          have := e1 _ _ (hx _ _ ht)
          unfold outT at this
          rw [hl] at this
          exact this
        cases hT : S.rule.tail with
        | fin =>
          rw [hT] at ht1
          exact et_test (ev_is (ev_op (ev_ixT (eh_of (ev_var rfl) ht1) ev_c rfl) ev_c rv_eqS) (by show _ = V.bl false; decide +kernel))
        | tim z =>
          rw [hT] at ht1
          exact et_test (ev_is (ev_op (ev_ixT (eh_of (ev_var rfl) ht1) ev_c rfl) ev_c rv_eqS) (by show _ = V.bl false; decide +kernel))
        | rep z =>
          rw [hT] at ht1
          exact et_test (ev_is (ev_op (ev_ixT (eh_of (ev_var rfl) ht1) ev_c rfl) ev_c rv_eqS) (by show _ = V.bl false; decide +kernel))
    · -- served
      obtain ⟨x, hl⟩ := Option.isSome_iff_exists.mp hb
      obtain ⟨kk, t⟩ := x
      have ht2 : H2 td = some (.tup [.str "served", .int (kk : Int), .int t]) := by
        have := e2 _ _ (e1 _ _ (hx _ _ ht))
        unfold outT at this
        rw [hl] at this
        exact this
      obtain ⟨g1, g2, g3, g4⟩ := good.svd c kk t hl
      have e02 := (hx.trans e1).trans e2
      have hS2 := hS.mono e02
      obtain ⟨dx, r', l', t', ws', s1, _⟩ := id hS2
      have hf : RS.failsB S (RS.svOf sv) c t = false := by
        cases z : RS.failsB S (RS.svOf sv) c t with
        | false => rfl
        | true => exact absurd ((RS.failsB_iff ok).mp z) g4
      refine q_when (b := false) (et_is (et_or (a := false) (b := false) (et_test (ev_is (ev_op (ev_meth (ev_var rfl) s1 rfl (ea_cons (ev_var rfl) (ea_cons (ev_ixT (eh_of (ev_var rfl) ht2) ev_c rfl) ea_nil)) (slot_of_at hS2 ok.rule hc g2 (kb.tim c kk t hl))) (ev_ixT (eh_of (ev_var rfl) ht2) ev_c rfl) rv_neI) (by rw [← g3]; simp))) fun _ => et_B (ev_is (ev_call (ea_cons (ev_var rfl) (ea_cons (ev_var rfl) (ea_cons (ev_var rfl) (ea_cons (ev_ixT (eh_of (ev_var rfl) ht2) ev_c rfl) ea_nil)))) (law_fails_at (hp.mono e02) (hd.mono e02) ok)) (by rw [hf]))) rfl) (fun z => by cases z) fun _ H3 e3 => ?_
      refine s_asg (ev_ixT (eh_of (ev_var rfl) (e3 _ _ ht2)) ev_c rfl) fun H4 e4 => hJ _ _ ⟨kk, ⟨by omega, ?_, fun j hj => RS.hasB_le (by omega) g2, fun j hj b' hb' => ?_, fun j hj => good.bef c kk t hl j (by omega)⟩, hide_ex.trans ((e2.trans e3).trans e4), (w1.mono ((e2.trans e3).trans e4) (by omega)), rfl⟩
      · have := kb.big c kk t hl
        have : (2 : Int) ^ 110 ≤ 2 ^ 120 := by decide +kernel
        omega
      · have := kb.tim c kk t hl b' hb'
        omega
    · -- not served
      have hl : sv.lookup c = none := by
        cases z : sv.lookup c with
        | none => rfl
        | some x => rw [z] at hb; cases hb
      have e02 := (hx.trans e1).trans e2
      have he2 := e02 _ _ p3
      have hun := good.un c hc hl
      have ht2 : H2 td = some (.tup (match S.rule.tail with | .fin => [.str "ended"] | _ => [.str "never"])) := by
        have := e02 _ _ ht
        unfold outT at this
        rw [hl] at this
        exact this
      have w2 := w1.mono e2 (Int.le_refl _)
      -- what is told
      have told : ∃ (x : Str) (i : Nat), H2 td = some (.tup [.str x]) ∧ ((i = 0 ∧ x = "never") ∨ (i = 1 ∧ x = "ended")) ∧ SeqAt.shaped (.tuple [.str x]) = true ∧ (if decide (tailW S.rule.tail = "end") = true then (1 : Int) else 0) = (i : Int) := by
        cases hT : S.rule.tail with
        | fin =>
          rw [hT] at ht2
          exact ⟨"ended", 1, ht2, .inr ⟨rfl, rfl⟩, by decide +kernel, by decide +kernel⟩
        | tim z =>
          rw [hT] at ht2
          exact ⟨"never", 0, ht2, .inl ⟨rfl, rfl⟩, by decide +kernel, by show (if decide (("times" : Str) = "end") = true then (1 : Int) else 0) = ((0 : Nat) : Int); decide +kernel⟩
        | rep z =>
          rw [hT] at ht2
          exact ⟨"never", 0, ht2, .inl ⟨rfl, rfl⟩, by decide +kernel, by show (if decide (("repeat" : Str) = "end") = true then (1 : Int) else 0) = ((0 : Nat) : Int); decide +kernel⟩
      obtain ⟨x, i, ht3, hxi, hsh, hival⟩ := told
      refine q_when (b := false) (et_test (ev_told (K := K) (eh_of (ev_var rfl) ht3) (ev_is (ev_intB (ev_op (ev_ixT (eh_of (ev_var rfl) he2) ev_c tailV_get) ev_c rv_eqS)) (by rw [hival])) hxi hsh)) (fun z => by cases z) fun _ H3 e3 => ?_
      have w3 := w2.mono e3 (Int.le_refl _)
      have e03 := e02.trans e3
      have x3 : Ex (hide H w) (hide H3 w) := ex_hide e03 hide_no
      refine (ew_count (K := K) (lo := 60) (hi := 1000000001) (n' := n + 1) (N := (S.rule.n : Int) + 1) (x := tailW S.rule.tail) hide_no (ev_op (ev_is (ev_lenL (K := K) (eh_of (ev_var rfl) (x3 _ _ p2))) (by rw [List.length_map])) ev_c rv_I0) (EvW.imp (ew_one (K := K) hide_no (ev_var rfl) (en_lst (ea_cons ev_c (ea_cons (ev_ten (v := 1000000000) (by decide +kernel) (by decide)) ea_nil)) (show (2 : Nat) ≤ 100000 by decide)) (show (1 : Nat) ≤ 2 by decide) (show (2 : Nat) ≤ 1000 by decide) (by omega)) fun v H h => ?_)
        (fun G' eG' => ev_ixT (eh_of (ev_var rfl) (eG' _ _ (x3 _ _ p3))) ev_c tailV_get) ?_) H3 hide_ex w3 _ fun v H4 r e4 w4 => hJ _ _ ?_
      · simp only [List.mem_cons, List.not_mem_nil, or_false] at h
        rcases h with h | h
        · exact ⟨60, h, by decide, by decide⟩
        · exact ⟨1000000000, h, by decide, by decide⟩
      · cases S.rule.tail with
        | fin => exact .inl rfl
        | tim z => exact .inr (.inl rfl)
        | rep z => exact .inr (.inr rfl)
      · obtain ⟨r, rfl, hr2⟩ := r
        have big : (1000000001 : Int) ≤ 2 ^ 120 := by decide +kernel
        have x4 : Ex (hide H1 w) H4 := hide_tr (hide_ex.trans (e2.trans e3)) e4
        have dE : ¬ (("times" : Str) = "end") := by decide +kernel
        have dF : ¬ (("repeat" : Str) = "end") := by decide +kernel
        have dG : ¬ (("repeat" : Str) = "times") := by decide +kernel
        have dH : ¬ (("end" : Str) = "times") := by decide +kernel
        have dI : ¬ (("end" : Str) = "repeat") := by decide +kernel
        have dJ : ¬ (("times" : Str) = "repeat") := by decide +kernel
        have hn20 : S.rule.n ≤ 20 := ol
        refine ⟨r, ?_, x4, w4, rfl⟩
        cases hT : S.rule.tail with
        | fin =>
          rw [hT] at hr2
          have hr3 : r = (S.rule.n : Int) + 1 := by
            rcases hr2 with h | h | h
            · exact h.2
            · exact absurd h.1 dH
            · exact absurd h.1 dI
          have hh : ∀ j : Nat, (j : Int) < r → RS.hasB S.rule j = true := fun j hj => by
            unfold RS.hasB
            rw [hT]
            exact decide_eq_true (by omega)
          exact ⟨by omega, by omega, hh, fun j hj b' hb' => (by rw [hT] at hb'; cases hb'), fun j hj => hun j (hh j hj)⟩
        | tim z =>
          rw [hT] at hr2
          have hr3 : r = 60 := by
            rcases hr2 with h | h | h
            · exact absurd h.1 dE
            · exact h.2
            · exact absurd h.1 dJ
          have hh : ∀ j : Nat, (j : Int) < r → RS.hasB S.rule j = true := fun j hj => by
            unfold RS.hasB
            rw [hT]
          exact ⟨by omega, by omega, hh, fun j hj b' hb' => by omega, fun j hj => hun j (hh j hj)⟩
        | rep z =>
          rw [hT] at hr2
          have hr3 : 60 ≤ r ∧ r < 1000000001 := by
            rcases hr2 with h | h | h
            · exact absurd h.1 dF
            · exact absurd h.1 dG
            · exact h.2
          have hh : ∀ j : Nat, (j : Int) < r → RS.hasB S.rule j = true := fun j hj => by
            unfold RS.hasB
            rw [hT]
          exact ⟨by omega, by omega, hh, fun j hj b' hb' => (by rw [hT] at hb'; cases hb'), fun j hj => hun j (hh j hj)⟩
    · -- the attempts
      obtain ⟨cnt, C, e2, w2, rfl⟩ := hJ
      have clo := C.lo
      have chi := C.hi
      have big : (2 : Int) ^ 120 + 1 ≤ 2 ^ 200 := by decide +kernel
      have x2 : Ex (hide H w) (hide H2 w) := h1.trans (ex_hide e2 hide_no)
      refine q_asgW (n' := n + 6) (ew_cat (xs := [0, cnt - 1, cnt - 2, cnt / 2]) (lo := 0) (hi := cnt + 1) (N := 5) hide_no (en_lst (ea_cons ev_c (ea_cons (ev_op (ev_var rfl) ev_c rv_I0) (ea_cons (ev_op (ev_var rfl) ev_c rv_I0) (ea_cons (ev_op (ev_var rfl) ev_c (rv_div ⟨by decide, by decide +kernel⟩)) ea_nil)))) (show (4 : Nat) ≤ 100000 by decide))
        (ew_lcR (lo := 0) (hi := cnt + 1) (N := 5) (c := 1) (n1 := n + 1) hide_no (EvW.imp (ew_of ev_c) fun v H h => ⟨4, h, by decide, by decide⟩) (by decide) (fun r hr => by omega) (fun _ => rfl) (fun i m G' _ _ hm => ew_draw (ev_var rfl) (ev_op (ev_var rfl) ev_c rv_I0) (by omega) (by omega) (by omega)) (by decide)) (show ((4 : Nat) : Int) + 5 ≤ 1000 by decide)) w2 fun v H3 hv e3 w3 => ?_
      obtain ⟨ls, ns, rfl, lsw, hls, hnl⟩ := hv
      have x3 : Ex (hide H w) (hide H3 w) := x2.trans (ex_hide e3 hide_no)
      have key := en_lcL (K := K) (tl := tVar 12) (tt := tTest (tChain (rI0 fun i j => .bl (decide (i ≤ j))) (rI0 fun i j => .bl (decide (i < j))) (tC (.int 0)) (tVar 16) (tVar 11))) (te := tVar 16) (j := 16) (vs := [16]) (σ := [some (.ref w), some (.ref p), some (.ref sd), some (.int c), some (.ref td), some (.ref sc), some (.ref l), some (.ref e), some (.ref b), some (.ref wd), some (.int S.len), some (.int cnt), some (.ref ls), none, none, none, none]) (H := H3) ns V.int (fun x => decide (0 ≤ x) && decide (x < cnt)) V.int (eh_of (ev_var rfl) hls) (by omega) (fun _ => rfl)
        (fun i a H4 ha e4 => et_test (ev_chain ev_c (ev_var rfl) rv_I0 (fun _ => ev_var rfl) fun _ => rv_I0)) (fun i a H4 ha e4 _ => ev_var rfl)
      refine q_forNL (g := gName 13) key (fun la i σ' H' => Ex H3 H' ∧ H' la = some (.lst ((ns.filter fun x => decide (0 ≤ x) && decide (x < cnt)).map V.int)) ∧ ∃ v13 v14, σ' = [some (.ref w), some (.ref p), some (.ref sd), some (.int c), some (.ref td), some (.ref sc), some (.ref l), some (.ref e), some (.ref b), some (.ref wd), some (.int S.len), some (.int cnt), some (.ref ls), v13, v14, none, none])
        (fun la H4 _ e4 h4 => ⟨e4, h4, _, _, rfl⟩) (fun la i σ' H' _ hP => sq_of hP.2.1) (fun la i x σ' H' hx2 hP => ?_) (fun la σ' H' hP => ?_)
      · obtain ⟨g1, g2, v13, v14, rfl⟩ := hP
        obtain ⟨a, ha, rfl⟩ := int_get hx2
        have hm := (List.mem_filter.mp (List.mem_of_getElem? ha)).2
        rw [Bool.and_eq_true, decide_eq_true_eq, decide_eq_true_eq] at hm
        obtain ⟨j, rfl⟩ : ∃ j : Nat, a = (j : Int) := ⟨a.toNat, by omega⟩
        have g3 := x3.trans (hide_ex.trans g1)
        have hS3 := hS.mono g3
        obtain ⟨dx, r', l', t', ws', s1, _⟩ := id hS3
        refine q_asg (ev_meth (ev_var rfl) s1 rfl (ea_cons (ev_var rfl) (ea_cons (ev_var rfl) ea_nil)) (slot_of_at hS3 ok.rule hc (C.has j hm.2) (C.tim j hm.2))) fun H4 e4 => ?_
        have g4 := g3.trans e4
        have hf : RS.failsB S (RS.svOf sv) c (S.b c + RS.off S.rule j) = true := (RS.failsB_iff ok).mpr (C.fail j hm.2)
        refine s_when (b := false) (et_is (et_not (et_B (ev_call (ea_cons (ev_var rfl) (ea_cons (ev_var rfl) (ea_cons (ev_var rfl) (ea_cons (ev_var rfl) ea_nil)))) (law_fails_at (hp.mono g4) (hd.mono g4) ok)))) (by rw [hf]; rfl)) (fun z => by cases z) fun _ H5 e5 => ⟨(g1.trans e4).trans e5, e5 _ _ (e4 _ _ g2), _, _, rfl⟩
      · obtain ⟨g1, g2, v13, v14, rfl⟩ := hP
        exact s_ret ev_c fun H5 e5 => k H5 ((x3.trans (hide_ex.trans g1)).trans e5) ((w3.mono g1 (Int.le_refl _)).mono e5 (by omega))
end RW
end

section
set_option Elab.async false
set_option linter.all false
set_option maxRecDepth 100000
set_option maxHeartbeats 4000000
namespace RW
open PySem L2 Evl
/-! ### lists in order -/
theorem sorted_eq : ∀ {a b : List Int}, a.Pairwise (· < ·) → b.Pairwise (· < ·) → (∀ x, x ∈ a ↔ x ∈ b) → a = b
  | [], [], _, _, _ => rfl
  | [], y :: t, _, _, h => absurd ((h y).mpr (List.mem_cons_self ..)) (by simp)
  | x :: r, [], _, _, h => absurd ((h x).mp (List.mem_cons_self ..)) (by simp)
  | x :: r, y :: t, ha, hb, h => by
    rw [List.pairwise_cons] at ha hb
    have e : x = y := by
      rcases List.mem_cons.mp ((h x).mp (List.mem_cons_self ..)) with e | e
      · exact e
      · rcases List.mem_cons.mp ((h y).mpr (List.mem_cons_self ..)) with g | g
        · exact g.symm
        · have h1 := hb.1 x e
          have h2 := ha.1 y g
          omega
    subst e
    rw [sorted_eq ha.2 hb.2 fun z => ⟨fun hz => ?_, fun hz => ?_⟩]
    · rcases List.mem_cons.mp ((h z).mp (List.mem_cons_of_mem _ hz)) with e | e
      · have := ha.1 z hz
        omega
      · exact e
    · rcases List.mem_cons.mp ((h z).mpr (List.mem_cons_of_mem _ hz)) with e | e
      · have := hb.1 z hz
        omega
      · exact e
theorem lt_of_sorted : ∀ {a : List Int}, a.Pairwise (· ≤ ·) → a.Nodup → a.Pairwise (· < ·)
  | [], _, _ => List.Pairwise.nil
  | x :: r, h, hn => by
    rw [List.pairwise_cons] at h
    rw [List.nodup_cons] at hn
    refine List.pairwise_cons.mpr ⟨fun y hy => ?_, lt_of_sorted h.2 hn.2⟩
    have h1 := h.1 y hy
    by_cases e : x = y
    · rw [e] at hn
      exact absurd hy hn.1
    · omega
theorem gaps_of : ∀ {ys : List Int} {len : Int}, ys.Pairwise (· < ·) → (∀ x ∈ ys, ∀ y ∈ ys, x < y → len ≤ y - x) → (ys.zip (ys.drop 1)).filter (fun q => decide (q.2 - q.1 < len)) = []
  | [], _, _, _ => rfl
  | [x], _, _, _ => rfl
  | x :: y :: t, len, h, hg => by
    have hh := h
    rw [List.pairwise_cons] at h
    have ih := gaps_of h.2 fun a ha b hb => hg a (List.mem_cons_of_mem _ ha) b (List.mem_cons_of_mem _ hb)
    show ((x, y) :: ((y :: t).zip t)).filter _ = []
    have e : (y :: t).drop 1 = t := rfl
    rw [e] at ih
    rw [List.filter_cons, if_neg, ih]
    have := hg x (List.mem_cons_self ..) y (List.mem_cons_of_mem _ (List.mem_cons_self ..)) (h.1 y (List.mem_cons_self ..))
    simp only [decide_eq_true_eq]
    omega
theorem merge_nd : ∀ {kvs acc : List (Key × V)}, ((acc ++ kvs).map (·.1)).Nodup → mergeK acc kvs = acc ++ kvs
  | [], acc, _ => by simp [mergeK]
  | (k, v) :: r, acc, h => by
    show mergeK (putK acc k v) r = _
    have hk : valV acc k = none := by
      unfold valV
      rw [List.find?_eq_none.mpr ?_]
      · rfl
      · intro q hq
        simp only [decide_eq_true_eq]
        intro z
        rw [List.map_append, List.map_cons] at h
        have h2 := (List.nodup_append.mp h).2.2 q.1 (List.mem_map.mpr ⟨q, hq, rfl⟩) k (List.mem_cons_self ..)
        exact h2 z
    rw [putK_new v hk, merge_nd, List.append_assoc]
    · rfl
    · rw [List.append_assoc]
      exact h
theorem zip_range {α : Type} (g : Nat → Bool) (ps : List α) : ((ps.zipIdx.map fun p => (p.2, p.1)).filter fun q => g q.1).map (fun q => nV q.1) = ((List.range ps.length).filter g).map nV := by
  have e : (ps.zipIdx.map fun p => (p.2, p.1)).map (·.1) = List.range ps.length := by
    rw [List.map_map]
    refine List.ext_getElem? fun i => ?_
    rw [List.getElem?_map, List.getElem?_zipIdx]
    by_cases h : i < ps.length
    · rw [List.getElem?_range h, List.getElem?_eq_getElem h]
      simp
    · rw [List.getElem?_eq_none (by omega), List.getElem?_eq_none (by rw [List.length_range]; omega)]
      rfl
  rw [← e]
  generalize (ps.zipIdx.map fun p => (p.2, p.1)) = M
  rw [List.filter_map, List.map_map]
  rfl
section
variable {K : PySem.W.Frag} {σ : L2.St} {H : Hp} {D : L2.Ends} {tz tr : TS} {ta td tb te tm tl : TE} {t : TA} {vs0 dvs : List V} {sp : Sp} {E : XK} {i : Nat} {vs : List Nat} {tt : TT} {j1 j2 : Nat}
theorem q_asgCall (ha : EvA t σ H vs0) (k : ∀ H1, Ex H H1 → sp (vs0 ++ dvs) H1 (fun v H2 => tz D (σ.set i (some v)) H2) E) : tSeq (tAsg (tCall sp dvs E t) (gName i)) tz D σ H := ha H (Ex.refl H) _ k
theorem q_asgMeth {a C dx : Addr} {fs : List (Str × V)} {m : Str} (h : Ev ta σ H (.ref a)) (ho : H a = some (.ins C dx fs)) (l : fs.lookup m = none) (ha : EvA t σ H vs0) (k : ∀ H1, Ex H H1 → sp (.ref a :: (vs0 ++ dvs)) H1 (fun v H2 => tz D (σ.set i (some v)) H2) E) : tSeq (tAsg (tMeth C m sp dvs E ta t) (gName i)) tz D σ H :=
  h H (Ex.refl H) _ fun H2 e2 => ⟨a, dx, fs, rfl, e2 _ _ ho, l, ha H2 e2 _ fun H3 e3 => k H3 (e2.trans e3)⟩
theorem q_asgMake {C : Addr} (ha : EvA t σ H vs0) (k : ∀ H1 x dx, Ex H H1 → H1 x = none → H1 dx = none → dx ≠ x → sp (.ref x :: (vs0 ++ dvs)) (upd (upd H1 dx (.own x)) x (.ins C dx [])) (fun v H2 => v = .non ∧ tz D (σ.set i (some (.ref x))) H2) E) : tSeq (tAsg (tMake C sp dvs E t) (gName i)) tz D σ H :=
  ha H (Ex.refl H) _ fun H1 e1 => fun x dx hx hdx hne => k H1 x dx e1 hx hdx hne
theorem q_lockCall {d : Addr} {u : HO} (hd : H d = some u) (hm : Mut (some u)) (ha : ∀ H1, EvA t σ H1 vs0) (k : ∀ od H1, Ex (upd H d (.frz od u)) H1 → sp (vs0 ++ dvs) H1 (fun v H2 => H2 d = some (.frz od u) ∧ tz D (σ.set i (some v)) (upd H2 d u)) E) : tSeq (tLock (tAsg (tCall sp dvs E t) (gName i))) tz D σ H :=
  ⟨d, u, hd, hm, fun od => ha _ _ (Ex.refl _) _ fun H1 e1 => k od H1 e1⟩
/-- if not f(..): return .. -/
theorem s_unless (ha : EvA t σ H vs0) (k : ∀ H1, Ex H H1 → ∀ Q' : VK, (∀ H2, D.nx σ H2 → Q' (.bl true) H2) → sp (vs0 ++ dvs) H1 Q' E) : tIfS (tNot (tB (tCall sp dvs E t))) tr tNext D σ H :=
  ha H (Ex.refl H) _ fun H1 e1 => k H1 e1 _ fun H2 h => ⟨true, rfl, h⟩
/-- sorted(d.values()) -/
theorem q_asgSortV {kvs : List (Key × V)} {ns : List Int} (h : EvH td σ H (.dK kvs)) (hv : valI kvs ns) (hl : ns.length < 64) (k : ∀ p H1 (ys : List Int), H p = none → Ex H H1 → H1 p = some (.lst (ys.map V.int)) → ys.Perm ns → ys.Pairwise (· ≤ ·) → tz D (σ.set i (some (.ref p))) H1) : tSeq (tAsg (tCB rSortedV (tCons (tVals td) tNil)) (gName i)) tz D σ H :=
  h H (Ex.refl H) _ fun d H1 e1 h1 => ⟨d, kvs, rfl, .inl h1, fun v hv2 => ⟨v, d, kvs, ns, rfl, upd_same, .inl (Ex.new hv2 _ _ h1), hv, hl, fun ys p hp hs hn => by
    have e2 := e1.trans ((Ex.new (o := viewO v d) hv2).trans (Ex.new (o := .lst (ys.map V.int)) hn))
    exact k p _ ys (fresh_back (e1.trans (Ex.new hv2)) hn) e2 upd_same hp hs⟩⟩
/-- sorted(d) -/
theorem eh_sortedDI {kvs : List (Key × V)} {ks : List Int} (h : EvH td σ H (.dK kvs)) (hk : kvs.map (·.1) = ks.map Sum.inl) (hl : ks.length < 64) (zs : List Int) (hz : ∀ ys : List Int, ys.Perm ks → ys.Pairwise (· ≤ ·) → ys = zs) :
    EvH (tCB (fun xs H Q => ∃ (a : Addr) (kvs : List (Key × V)) (ks : List Int), xs = [.ref a] ∧ Rd H a (.dK kvs) ∧ kvs.map (·.1) = ks.map Sum.inl ∧ ks.length < 64 ∧ ∀ (ys : List Int) (p : Addr), ys.Perm ks → ys.Pairwise (· ≤ ·) → H p = none → Q (.ref p) (upd H p (.lst (ys.map V.int)))) (tCons td tNil)) σ H (.lst (zs.map V.int)) := fun H1 e Q q =>
  h H1 e _ fun d H2 e2 h2 => ⟨d, kvs, ks, rfl, .inl h2, hk, hl, fun ys p hp hs hn => q p _ (e2.trans (Ex.new hn)) (by rw [upd_same, hz ys hp hs])⟩
/-- over zip -/
theorem en_lcZ {xs zs : List Int} {a : Addr} (sel : Int × Int → Bool) (val : Int × Int → V) (h1 : Ev ta σ H (.ref a)) (ho : H a = some (.lst (xs.map V.int))) (h2 : EvN tb σ H (.lst (zs.map V.int))) (hn : xs.length ≤ 50000) (hw : ∀ x y, wipe (((wipe σ vs).set j1 (some x)).set j2 (some y)) vs = wipe σ vs)
    (ht : ∀ (q : Int × Int) H1, Ex H H1 → EvT tt (((wipe σ vs).set j1 (some (.int q.1))).set j2 (some (.int q.2))) H1 (sel q)) (he : ∀ (q : Int × Int) H1, Ex H H1 → sel q = true → Ev te (((wipe σ vs).set j1 (some (.int q.1))).set j2 (some (.int q.2))) H1 (val q)) :
    EvN (tLc (iZip K (tCons ta (tCons tb tNil))) (gTup K 2 (gCons (gName j1) (gCons (gName j2) gNil))) tt te vs) σ H (.lst (((xs.zip zs).filter sel).map val)) := fun H0 e Q q =>
  h1 H0 e _ fun H1 e1 => h2 H1 (e.trans e1) _ fun b H2 hb e2 hbo => ⟨a, b, _, _, rfl, sq_of (e2 _ _ (e1 _ _ (e _ _ ho))), sq_of hbo, fun Dl hD => by
    have hao := e2 _ _ (e1 _ _ (e _ _ ho))
    have hl : (xs.zip zs).length = min (xs.map V.int).length (zs.map V.int).length := by rw [List.length_zip, List.length_map, List.length_map]
    refine lc_walk (J := Itz K a b) (G := fun H => SqL K H a (xs.map V.int) ∧ SqL K H b (zs.map V.int)) (Y := YPair (fun i => (xs.map V.int)[i]?) (fun i => (zs.map V.int)[i]?)) (xs.zip zs) (walk_zip hl) sel val hD (fun H ex => ⟨sq_of (ex _ _ hao), sq_of (ex _ _ hbo)⟩) (by rw [List.length_zip]; omega)
      (fun i q x H3 H4 ha ex y => ?_) gTup2_mono (fun H3 e3 h3 => q Dl H3 (fresh_back (e1.trans e2) hD) ((e1.trans e2).trans e3) h3)
    obtain ⟨T, x1, x2, e4, e5, e6, e7, e8⟩ := y
    subst e4 e6
    rw [List.getElem?_zip_eq_some] at ha
    have e7 : (xs.map V.int)[i]? = some x1 := e7
    have e8 : (zs.map V.int)[i]? = some x2 := e8
    rw [List.getElem?_map, ha.1] at e7
    rw [List.getElem?_map, ha.2] at e8
    have e7 := Option.some.inj e7
    have e8 := Option.some.inj e8
    subst e7 e8
    have g := (((e.trans e1).trans e2).trans ex).trans (Ex.new (o := .tup [.int q.1, .int q.2]) e5)
    exact gTup2_of upd_same ⟨hw _ _, Ex.new e5, ht q _ g, he q _ g⟩⟩
/-- new pairs over a list of pairs that a call hands back -/
theorem lc_pairs {Pr : List (Int × Nat) → Prop} {Q : VK} (hm : ∀ Q' : VK, (∀ (L : List (Int × Nat)) a H2 ps, Pr L → Ex H H2 → H2 a = some (.lst (ps.map V.ref)) → ObjsAt H2 ps (L.map pairO) → Q' (.ref a) H2) → tm σ H Q') (hL : ∀ L, Pr L → L.length ≤ 50000) (hw : ∀ x y, wipe (((wipe σ vs).set j1 (some x)).set j2 (some y)) vs = wipe σ vs)
    (he : ∀ (q : Int × Nat) H1, Ex H H1 → EvN te (((wipe σ vs).set j1 (some (.int q.1))).set j2 (some (nV q.2))) H1 (.tup [nV q.2, .int q.1]))
    (k : ∀ L b H3 qs, Pr L → Ex H H3 → H3 b = some (.lst (qs.map V.ref)) → ObjsAt H3 qs (L.map fun q => .tup [nV q.2, .int q.1]) → Q (.ref b) H3) : tLc (iList K tm) (gTup K 2 (gCons (gName j1) (gCons (gName j2) gNil))) tYes te vs σ H Q :=
  hm _ fun L a H2 ps hP e2 h2 hps => ⟨a, rfl, ⟨_, sq_of h2⟩, fun Dl hD => by
    have hl : ps.length = L.length := by rw [hps.1, List.length_map]
    refine lc_objs (J := Itl K a) (G := fun H => SqL K H a (ps.map V.ref)) (Y := YAt (ps.map V.ref)) L (by have w := walk_list (K := K) (a := a) (xs := ps.map V.ref); rw [List.length_map, hl] at w; exact w) (fun q => .tup [nV q.2, .int q.1]) (fun a xs z => by cases z) hD (fun H ex => sq_of (ex _ _ h2)) (hL L hP)
      (fun i q x H3 H4 ha ex y => ?_) gTup2_mono (fun H3 qs e3 h3 h4 => k L Dl H3 qs hP (e2.trans e3) h3 h4)
    obtain ⟨e4, e5⟩ := y
    subst e4
    obtain ⟨p, g1, g2⟩ := hps.get (j := i) (o := pairO q) (by rw [List.getElem?_map, ha]; rfl)
    rw [List.getElem?_map, g1] at e5
    have e5 : V.ref p = x := Option.some.inj e5
    subst e5
    exact gTup2_of (ex _ _ g2) ⟨hw _ _, Ex.refl _, fun H4 e4 Q q => q H4 (Ex.refl H4), he q _ (e2.trans ex)⟩⟩
end
section
variable {K : PySem.W.Frag} {H : Hp} {w : Addr} {od : Obj} {u : HO}
/-- what stands while w is locked is not w -/
theorem lock_hide {a : Addr} {o : HO} (hw : H w = some (.frz od u)) (ha : H a = some o) (ho : ∀ od u, o ≠ .frz od u) : hide H w a = some o := hide_at ha (ne_of ha hw (ho _ _))
theorem scene_hide {a : Addr} {S : RS.Scn} (h : SceneAt K H a S) (hw : H w = some (.frz od u)) : SceneAt K (hide H w) a S := by
  obtain ⟨dx, r, l, t, ws, h1, ⟨dr, l', e', s', r1, r2, r3, r4⟩, h3, h4, h5⟩ := h
  exact ⟨dx, r, l, t, ws, lock_hide hw h1 (by intro _ _ z; cases z), ⟨dr, l', e', s', lock_hide hw r1 (by intro _ _ z; cases z), lock_hide hw r2 (by intro _ _ z; cases z), lock_hide hw r3 (by intro _ _ z; cases z), lock_hide hw r4 (by intro _ _ z; cases z)⟩,
    lock_hide hw h3 (by intro _ _ z; cases z), lock_hide hw h4 (by intro _ _ z; cases z), ⟨h5.1, fun i a o g1 g2 => lock_hide hw (h5.2 i a o g1 g2) (by intro _ _ z; cases z)⟩⟩
end
end RW
end

section
set_option Elab.async false
set_option linter.all false
set_option maxRecDepth 100000
set_option maxHeartbeats 4000000
namespace RW
open PySem L2 Evl
variable {P : Program} {w0 : World} {K : PySem.W.Frag} {mg : Str → Option Value} {base : Heap}
theorem _root_.List.Nodup.map_of {α β : Type} {f : α → β} (hf : ∀ i j, f i = f j → i = j) : ∀ {l : List α}, l.Nodup → (l.map f).Nodup
  | [], _ => List.nodup_nil
  | a :: r, h => by
    rw [List.nodup_cons] at h
    rw [List.map_cons, List.nodup_cons]
    refine ⟨fun z => ?_, List.Nodup.map_of hf h.2⟩
    obtain ⟨b, hb, e⟩ := List.mem_map.mp z
    rw [hf b a e] at hb
    exact h.1 hb
/-- the dict of the services, from their list -/
theorem sv_dict {S : RS.Scn} {sv : List (Nat × (Nat × Int))} (good : RS.Good S sv) {L : List (Int × Nat)} (hL : L.Perm (sv.map fun q => (q.2.2, q.1))) :
    (L.map (·.2)).Nodup ∧ ∀ d : Nat, valV (L.map fun q => (kI q.2, V.int q.1)) (kI d) = (RS.svOf sv d).map V.int := by
  have h2 : (L.map (·.2)).Perm (sv.map (·.1)) := by
    have := hL.map (·.2)
    rw [List.map_map] at this
    exact this
  have hn : (L.map (·.2)).Nodup := h2.nodup_iff.mpr good.keys
  refine ⟨hn, fun d => ?_⟩
  cases e : sv.lookup d with
  | none =>
    have : d ∉ L.map (·.2) := fun z => by
      have := h2.mem_iff.mp z
      obtain ⟨q, hq, rfl⟩ := List.mem_map.mp this
      rw [List.lookup_eq_none_iff] at e
      have := e q hq
      simp at this
    rw [int_val_none this]
    unfold RS.svOf
    rw [e]
    rfl
  | some x =>
    obtain ⟨k, t⟩ := x
    have hm : (t, d) ∈ L := hL.mem_iff.mpr (List.mem_map.mpr ⟨(d, (k, t)), RS.mem_of_lookup e, rfl⟩)
    rw [RS.svOf_of e]
    have : ∀ {l : List (Int × Nat)}, (l.map (·.2)).Nodup → (t, d) ∈ l → valV (l.map fun q => (kI q.2, V.int q.1)) (kI d) = some (V.int t) := by
      intro l
      induction l with
      | nil => intro _ h; cases h
      | cons a r ih =>
        intro hn h
        rw [List.map_cons, List.nodup_cons] at hn
        rcases List.mem_cons.mp h with e | e
        · rw [← e]
          exact valV_pos rfl
        · have hne : ¬ kI a.2 = kI d := fun z => hn.1 (List.mem_map.mpr ⟨(t, d), e, (kI_inj z).symm⟩)
          rw [List.map_cons, valV_neg hne]
          exact ih hn.2 e
    exact this hn hm
theorem lookup_of {α : Type} : ∀ {l : List (Nat × α)}, (l.map (·.1)).Nodup → ∀ {q : Nat × α}, q ∈ l → l.lookup q.1 = some q.2
  | [], _, _, h => by cases h
  | (a, y) :: r, hn, q, h => by
    rw [List.map_cons, List.nodup_cons] at hn
    rcases List.mem_cons.mp h with e | e
    · subst e
      simp
    · have hne : q.1 ≠ a := fun z => hn.1 (List.mem_map.mpr ⟨q, e, z⟩)
      rw [List.lookup_cons, beq_false_of_ne hne]
      exact lookup_of hn.2 e
theorem sv_slots {S : RS.Scn} {sv : List (Nat × (Nat × Int))} (good : RS.Good S sv) {x y : Nat × (Nat × Int)} (hx : x ∈ sv) (hy : y ∈ sv) (h : x.2.2 ≤ y.2.2) (hne : x ≠ y) : x.2.2 + S.len ≤ y.2.2 := by
  have h1 := lookup_of good.keys hx
  have h2 := lookup_of good.keys hy
  exact good.apart (c := x.1) (d := y.1) (k := x.2.1) (j := y.2.1) h1 h2 (fun z => hne (RS.inj_fst good.keys hx hy z)) h
/-- the sorted slots lie apart -/
theorem slots_apart {S : RS.Scn} (ok : S.Ok) {sv : List (Nat × (Nat × Int))} (good : RS.Good S sv) {ys : List Int} (hys : ys.Perm (sv.map fun q => q.2.2)) (hs : ys.Pairwise (· ≤ ·)) : (ys.zip (ys.drop 1)).filter (fun q => decide (q.2 - q.1 < S.len)) = [] := by
  have hlen := ok.len.1
  have hnd : (sv.map fun q => q.2.2).Nodup := by
    have hsub : ∀ {l : List (Nat × (Nat × Int))}, (∀ q ∈ l, q ∈ sv) → l.Nodup → (l.map fun q => q.2.2).Nodup := by
      intro l
      induction l with
      | nil => intro _ _; simp
      | cons a r ih =>
        intro hm hn
        rw [List.nodup_cons] at hn
        rw [List.map_cons, List.nodup_cons]
        refine ⟨fun z => ?_, ih (fun q hq => hm q (List.mem_cons_of_mem _ hq)) hn.2⟩
        obtain ⟨q, hq, e⟩ := List.mem_map.mp z
        have := sv_slots good (hm a (List.mem_cons_self ..)) (hm q (List.mem_cons_of_mem _ hq)) (Int.le_of_eq e.symm) (fun y => hn.1 (by rw [y]; exact hq))
        omega
    have hsv : sv.Nodup := by
      have : ∀ {l : List (Nat × (Nat × Int))}, (l.map (·.1)).Nodup → l.Nodup := by
        intro l
        induction l with
        | nil => intro _; exact List.nodup_nil
        | cons a r ih =>
          intro hn
          rw [List.map_cons, List.nodup_cons] at hn
          rw [List.nodup_cons]
          exact ⟨fun z => hn.1 (List.mem_map.mpr ⟨a, z, rfl⟩), ih hn.2⟩
      exact this good.keys
    exact hsub (fun q hq => hq) hsv
  refine gaps_of (lt_of_sorted hs (hys.nodup_iff.mpr hnd)) fun x hx y hy hxy => ?_
  obtain ⟨p, hp, rfl⟩ := List.mem_map.mp (hys.mem_iff.mp hx)
  obtain ⟨q, hq, rfl⟩ := List.mem_map.mp (hys.mem_iff.mp hy)
  have := sv_slots good hp hq (by omega) (fun z => by rw [z] at hxy; omega)
  omega
/-- the served clients, in order -/
theorem served_eq {S : RS.Scn} {sv : List (Nat × (Nat × Int))} (good : RS.Good S sv) {L : List (Int × Nat)} (hL : L.Perm (sv.map fun q => (q.2.2, q.1))) {ys : List Int} (hys : ys.Perm (L.map fun q => (q.2 : Int))) (hs : ys.Pairwise (· ≤ ·)) : ys = ((List.range S.m).filter fun i => (sv.lookup i).isSome).map fun i : Nat => (i : Int) := by
  have hn := (sv_dict good hL).1
  have hnd : ys.Nodup := by
    refine hys.nodup_iff.mpr ?_
    have : (L.map fun q => (q.2 : Int)) = (L.map (·.2)).map fun i : Nat => (i : Int) := by rw [List.map_map]; rfl
    rw [this]
    exact List.Nodup.map_of (fun i j h => by omega) hn
  refine sorted_eq (lt_of_sorted hs hnd) ?_ fun x => ?_
  · refine List.pairwise_map.mpr ?_
    exact (List.pairwise_lt_range.filter _).imp fun h => by omega
  · rw [hys.mem_iff]
    constructor
    · intro h
      obtain ⟨q, hq, rfl⟩ := List.mem_map.mp h
      obtain ⟨r, hr, e⟩ := List.mem_map.mp (hL.mem_iff.mp hq)
      have hl := lookup_of good.keys hr
      have hr1 : r.1 = q.2 := by rw [← e]
      rw [hr1] at hl
      refine List.mem_map.mpr ⟨q.2, List.mem_filter.mpr ⟨List.mem_range.mpr (good.svd q.2 r.2.1 r.2.2 hl).1, ?_⟩, rfl⟩
      show (sv.lookup q.2).isSome = true
      rw [hl]
      rfl
    · intro h
      obtain ⟨i, hi, rfl⟩ := List.mem_map.mp h
      obtain ⟨x, hx⟩ := Option.isSome_iff_exists.mp (List.mem_filter.mp hi).2
      exact List.mem_map.mpr ⟨(x.2, i), hL.mem_iff.mpr (List.mem_map.mpr ⟨(i, x), RS.mem_of_lookup hx, rfl⟩), rfl⟩
theorem paired_of {H : Hp} {K : PySem.W.Frag} : ∀ {qs : List Addr} {L : List (Int × Nat)}, ObjsAt H qs (L.map fun q => .tup [nV q.2, .int q.1]) → Paired (fun p (kv : Key × V) => SqT K H p [kV kv.1, kv.2]) qs (L.map fun q => (kI q.2, V.int q.1))
  | [], [], _ => .nil
  | [], _ :: _, h => by cases h.1
  | _ :: _, [], h => by cases h.1
  | a :: r, q :: l, h => .cons (st_of (h.2 0 _ _ rfl rfl)) (paired_of ⟨Nat.succ.inj h.1, fun j p o h1 h2 => h.2 (j + 1) p o h1 h2⟩)
theorem q_asgCB1 {r : List V → Hp → VK → Prop} {te : TE} {i : Nat} {D : L2.Ends} {tz : TS} {σ : L2.St} {H : Hp} (h : te σ H fun v H1 => r [v] H1 fun x H2 => tz D (σ.set i (some x)) H2) : tSeq (tAsg (tCB r (tCons te tNil)) (gName i)) tz D σ H := h
theorem sc_law_right : FnScope ["_law_well_here", "_law_parts", "_law_made_here", "_law_gone", "_law_told", "_law_services", "_law_slots", "_law_client", "_law_one_here", "_law_slot", "_law_other"] ["_law_well_here"] (defScope s_law_right) := ⟨rfl, rfl, rfl, by decide +kernel, rfl, by decide +kernel, by decide +kernel⟩
def sp_law_right (K : PySem.W.Frag) : Sp := fun vs H Q _ => ∃ (w : Addr), vs = [.ref w] ∧ WellAt H w 0 ∧ ∀ H2, Ex (hide H w) H2 → Q (.bl true) H2
theorem ok_law_right (W : Wd K mg) : FnOk P w0 K mg base CX0 9 (a_law_right K) (f_law_right K) ["_law_well_here"] (sp_law_right K) := by
  refine (F_law_right W).ok sc_law_right (fun vs H Q E h => ?_) (fun cdv A outer s H vs Q E hr h => ?_)
  · obtain ⟨w, rfl, _⟩ := h
    rfl
  · obtain ⟨w, rfl, hw, k⟩ := h
    have hu := units1 hr
    refine ⟨_, PSs.nox (pss_cons (ps_set (i := 1) sc_law_right.nd rfl (Or.inr rfl) (pe_call (ok_law_wide W) (hr.mono (by decide)) (by rfl) (g_law_wide W) (F_law_wide W).kp (b_law_wide W) .nil pass0 (pa_cons (pv 0) pa_nil)))
    (pss_cons (ps_lock (ps_set (i := 2) sc_law_right.nd rfl (Or.inl rfl) (pe_call (ok_law_made W) (hr.mono (by decide)) (by rfl) (g_law_made W) (F_law_made W).kp (b_law_made W) .nil pass0 (pa_cons (pv 1) pa_nil))))
    (pss_cons (ps_set (i := 3) sc_law_right.nd rfl (Or.inl rfl) (pe_make (mk_Run W) (ok_U_init W) (hr.mono (by decide)) (by rfl) (g_Run W) (b_U_init W) .nil pass0 (pa_cons (pv 2) pa_nil)))
    (pss_cons (ps_set (i := 4) sc_law_right.nd rfl (Or.inl rfl) (pe_meth0 (pv 3) (cl_Run W) (m_U_outcomes W) (ok_U_outcomes W) (hr.mono (by decide)) (b_U_outcomes W) .nil pass0))
    (pss_cons (ps_set (i := 5) sc_law_right.nd rfl (Or.inl rfl) (pe_callTy (call_dictP rfl) (by rfl) (n_dict W) (by decide +kernel) (pa_cons (pe_lc (own := [("_law_slot", 9), ("_law_client", 7)]) rfl sc_law_right.nd (pi_list (pe_meth0 (pv 3) (cl_Run W) (m_U_order W) (ok_U_order W) (hr.mono (by decide)) (b_U_order W) .nil pass0)) (blkOk_by (N := ["_law_well_here", "_law_parts", "_law_made_here", "_law_gone", "_law_told", "_law_services", "_law_slots", "_law_client", "_law_one_here", "_law_slot", "_law_other"]) (sc := defScope s_law_right) (by decide +kernel)) (fun _ _ _ _ _ => (gtupK (K := K) (n := 2) rfl (pgs_cons (pg_name (i := 9) sc_law_right.nd rfl (Or.inl rfl)) (pgs_cons (pg_name (i := 7) sc_law_right.nd rfl (Or.inl rfl)) pgs_nil)))) (fun _ _ _ _ _ => pts_nil) (fun _ _ _ _ _ => (pe_tup (pa_cons (pv 7) (pa_cons (pv 9) pa_nil))))) pa_nil)))
    (pss_cons (ps_set (i := 6) sc_law_right.nd rfl (Or.inl rfl) (pe_callB (cr_sortedV rfl) (by rfl) (n_sorted W) (by decide +kernel) (pa_cons (pe_values (pv 5)) pa_nil)))
    (pss_cons (ps_if (pt_cmpR (op_neD hr.units) (pe_lc (own := [("_law_one_here", 8), ("_law_other", 10)]) rfl sc_law_right.nd (pi_zip (by rfl) (n_zip W) (pa_cons (pv 6) (pa_cons (pe_slice sl_list (pv 6) (po_some pe_int) po_none) pa_nil))) (blkOk_by (N := ["_law_well_here", "_law_parts", "_law_made_here", "_law_gone", "_law_told", "_law_services", "_law_slots", "_law_client", "_law_one_here", "_law_slot", "_law_other"]) (sc := defScope s_law_right) (by decide +kernel)) (fun _ _ _ _ _ => (gtupK (K := K) (n := 2) rfl (pgs_cons (pg_name (i := 8) sc_law_right.nd rfl (Or.inl rfl)) (pgs_cons (pg_name (i := 10) sc_law_right.nd rfl (Or.inl rfl)) pgs_nil)))) (fun _ _ _ _ _ => (pts_one (pt_cmpR op_lt (pe_op op_sub (pv 10) (pv 8)) (pe_ix (ixTK (K := K)) (pv 1) pe_int (fun _ _ => rfl)) (nomark _)))) (fun _ _ _ _ _ => pe_int)) (pe_lst pa_nil) (nomark _)) (pss_one (ps_ret pe_bl)) pss_nil)
    (pss_cons (ps_if (pt_cmpR (op_neD hr.units) (pe_callB (call_sortedDI rfl) (by rfl) (n_sorted W) (by decide +kernel) (pa_cons (pv 5) pa_nil)) (pe_lc (own := [("_law_client", 7), ("_law_one_here", 8)]) rfl sc_law_right.nd (pi_enum (by rfl) (n_enumerate W) (pa_cons (pv 4) pa_nil)) (blkOk_by (N := ["_law_well_here", "_law_parts", "_law_made_here", "_law_gone", "_law_told", "_law_services", "_law_slots", "_law_client", "_law_one_here", "_law_slot", "_law_other"]) (sc := defScope s_law_right) (by decide +kernel)) (fun _ _ _ _ _ => (gtupK (K := K) (n := 2) rfl (pgs_cons (pg_name (i := 7) sc_law_right.nd rfl (Or.inl rfl)) (pgs_cons (pg_name (i := 8) sc_law_right.nd rfl (Or.inl rfl)) pgs_nil)))) (fun _ _ _ _ _ => (pts_one (pt_cmpR op_eq (pe_ix (ixTK (K := K)) (pv 8) pe_int (fun _ _ => rfl)) pe_str (nomark _)))) (fun _ _ _ _ _ => (pv 7))) (nomark _)) (pss_one (ps_ret pe_bl)) pss_nil)
    (pss_cons (ps_for PassesOwn.never rfl (pi_enum (by rfl) (n_enumerate W) (pa_cons (pv 4) pa_nil)) (pg_tup rfl (pgs_cons (pg_name (i := 7) sc_law_right.nd rfl (Or.inl rfl)) (pgs_cons (pg_name (i := 8) sc_law_right.nd rfl (Or.inl rfl)) pgs_nil))) (pss_one (ps_if (pt_not (pt_val (pe_call (ok_law_client_right W) (hr.mono (by decide)) (by rfl) (g_law_client_right W) (F_law_client_right W).kp (b_law_client_right W) .nil pass0 (pa_cons (pv 0) (pa_cons (pv 1) (pa_cons (pv 5) (pa_cons (pv 7) (pa_cons (pv 8) (pa_cons (pv 2) pa_nil))))))))) (pss_one (ps_ret pe_bl)) pss_nil)))
    (pss_one (ps_ret pe_bl))))))))))), ?_⟩
    refine q_asgCall (ea_cons (ev_var rfl) ea_nil) fun H1 e1 => ⟨w, 0, rfl, hw.mono e1 (Int.le_refl _), by decide, fun p S H2 ok e2 w2 hp => ?_⟩
    have x2 : Ex (hide H w) (hide H2 w) := ex_hide ((hide_mono e1).trans e2) hide_no
    obtain ⟨a, c, j, hwo, a0, j0, j1⟩ := w2
    -- the scene
    refine q_lockCall (d := w) (u := .lst [.int a, .int c, .int j]) hwo True.intro (fun _ => ea_cons (ev_var rfl) ea_nil) fun od H3 e3 => ⟨p, S, rfl, hp.mono (hide_lock.trans e3), ok, fun sc H4 e4 hS => ?_⟩
    have hf4 : H4 w = some (.frz od (.lst [.int a, .int c, .int j])) := e4 _ _ (e3 _ _ upd_same)
    have hS4 := scene_hide hS hf4
    have x4 : Ex (hide H2 w) (hide H4 w) := ex_hide (hide_lock.trans (e3.trans e4)) hide_no
    refine ⟨hf4, ?_⟩
    obtain ⟨H5, hH5⟩ : ∃ H5, H5 = upd H4 w (.lst [.int a, .int c, .int j]) := ⟨_, rfl⟩
    rw [← hH5]
    have w5 : WellAt H5 w 100 := ⟨a, c, j, by rw [hH5]; exact upd_same, a0, j0, by omega⟩
    have x5 : Ex (hide H4 w) (hide H5 w) := by rw [hH5]; exact ex_hide hide_lock hide_no
    have hS5 := hS4.mono x5
    have hp5 := (hp.mono x4).mono x5
    have x05 := (x2.trans x4).trans x5
    clear hH5
    -- the run
    refine q_asgMake (ea_cons (ev_var rfl) ea_nil) fun H6 x dx e6 hx hdx hne => ⟨x, dx, sc, H6, S, rfl, upd_same, hx, fun b o hb => make_old hx hdx hb, (hS5.mono hide_ex).mono e6, ok, fun H7 st e7 hU good kb hl => ⟨rfl, ?_⟩⟩
    have e57 := e6.trans e7
    obtain ⟨cc, ob, _⟩ := id hU
    -- what is told
    refine q_asgMeth (ev_var rfl) ob rfl ea_nil fun H8 e8 => ⟨x, S, st, rfl, hU.mono e8, ok.ten, fun ta H9 ps hta e9 h9 hps => ?_⟩
    have e79 := e8.trans e9
    have hU9 := hU.mono e79
    have ob9 := e79 _ _ ob
    have w9 := w5.mono (e57.trans e79) (Int.le_refl _)
    have taw : ta ≠ w := (w5.mono (e57.trans e8) (Int.le_refl _)).ne hta
    -- the services
    have hord : ∀ {σ : L2.St}, σ[3]? = some (some (.ref x)) → ∀ Q' : VK, (∀ (L : List (Int × Nat)) a H2 ps, L.Perm (st.sv.map fun q => (q.2.2, q.1)) → Ex H9 H2 → H2 a = some (.lst (ps.map V.ref)) → ObjsAt H2 ps (L.map pairO) → Q' (.ref a) H2) → tMeth (He.ga K "Run") "order" (sp_U_order K) [] E0 (tVar 3) tNil σ H9 Q' := fun hs Q' hq =>
      ev_go (ev_var hs) fun H10 e10 => ⟨x, cc.dx, _, rfl, e10 _ _ ob9, rfl, x, S, st, rfl, hU9.mono e10, hl, fun L a H11 ps hL _ e11 h11 hps => hq L a H11 ps hL (e10.trans e11) h11 hps⟩
    have key : ∀ {σ : L2.St} {D : L2.Ends} {tz : TS}, σ = [some (.ref w), some (.ref p), some (.ref sc), some (.ref x), some (.ref ta), none, none, none, none, none, none] → (∀ (L : List (Int × Nat)) sd H11, L.Perm (st.sv.map fun q => (q.2.2, q.1)) → Ex H9 H11 → H11 sd = some (.dK (L.map fun q => (kI q.2, V.int q.1))) → tz D (σ.set 5 (some (.ref sd))) H11) →
        tSeq (tAsg (tCB (fun xs H Q => ∃ (a : Addr) (ps : List Addr) (kvs : List (Key × V)), xs = [.ref a] ∧ SqL K H a (ps.map V.ref) ∧ Paired (fun p kv => SqT K H p [kV kv.1, kv.2]) ps kvs ∧ ∀ p, H p = none → Q (.ref p) (upd H p (.dK (mergeK [] kvs)))) (tCons (tLc (iList K (tMeth (He.ga K "Run") "order" (sp_U_order K) [] E0 (tVar 3) tNil)) (gTup K 2 (gCons (gName 9) (gCons (gName 7) gNil))) tYes (tTup (tCons (tVar 7) (tCons (tVar 9) tNil))) [9, 7]) tNil)) (gName 5)) tz D σ H9 := fun hσ kk => by
      subst hσ
      refine q_asgCB1 ?_
      refine lc_pairs (σ := [some (.ref w), some (.ref p), some (.ref sc), some (.ref x), some (.ref ta), none, none, none, none, none, none]) (vs := [9, 7]) (j1 := 9) (j2 := 7) (K := K) (te := tTup (tCons (tVar 7) (tCons (tVar 9) tNil))) (Pr := fun L => L.Perm (st.sv.map fun q => (q.2.2, q.1))) (hord rfl) (fun L hL => by rw [hL.length_eq, List.length_map]; omega) (fun _ _ => rfl) (fun q H10 _ => en_tup (ea_cons (ev_var (i := 7) rfl) (ea_cons (ev_var (i := 9) rfl) ea_nil)) (show (2 : Nat) ≤ 100000 by decide)) (fun L b H10 qs hL e10 h10 hqs => ?_)
      refine ⟨b, qs, L.map fun q => (kI q.2, V.int q.1), rfl, sq_of h10, paired_of hqs, fun sd hsd => ?_⟩
      have hnd : ((([] : List (Key × V)) ++ L.map fun q : Int × Nat => (kI q.2, V.int q.1)).map (·.1)).Nodup := by
        rw [List.nil_append, List.map_map]
        have := (sv_dict good hL).1
        have h2 : (L.map ((fun x : Key × V => x.1) ∘ fun q => (kI q.2, V.int q.1))) = (L.map (·.2)).map kI := by rw [List.map_map]; rfl
        rw [h2]
        exact List.Nodup.map_of (fun i j hk => kI_inj hk) this
      rw [merge_nd hnd, List.nil_append]
      exact kk L sd _ hL (e10.trans (Ex.new hsd)) upd_same
    refine key rfl fun L sd H11 hL e11 hd => ?_
    obtain ⟨hn, hval⟩ := sv_dict good hL
    have hLl : L.length ≤ 10 := by rw [hL.length_eq, List.length_map]; exact hl
    -- the slots
    refine q_asgSortV (ns := L.map (·.1)) (eh_of (ev_var rfl) hd) (by unfold valI; rw [List.map_map, List.map_map]; rfl) (by rw [List.length_map]; omega) fun sl H12 ys hsl e12 h12 hys hsort => ?_
    have hys2 : ys.Perm (st.sv.map fun q => q.2.2) := by
      have := hL.map (·.1)
      rw [List.map_map] at this
      exact hys.trans this
    have e912 := e11.trans e12
    have hk12 := e912 _ _ h9
    have hcut : cutV (ys.map V.int) (some 1) none = (ys.drop 1).map V.int := by
      unfold cutV
      have e : HT.sIx (ys.map V.int).length 0 (some 1) = min 1 (ys.map V.int).length := HT.sIx_nat _ _ 1
      rw [e, HT.sIx_none, List.length_map, List.map_drop]
      cases ys with
      | nil => rfl
      | cons a r =>
        rw [show min 1 (a :: r).length = 1 by simp, List.take_of_length_le (by rw [List.length_drop, List.length_map]; exact Nat.le_refl _)]
    have hyl : ys.length ≤ 10 := by rw [hys.length_eq, List.length_map]; exact hLl
    have hslice := en_sl (K := K) (te := tVar 6) (tl := tPart (tC (.int 1))) (th := tNoPart) (lo := some 1) (hi := none) (σ := [some (.ref w), some (.ref p), some (.ref sc), some (.ref x), some (.ref ta), some (.ref sd), some (.ref sl), none, none, none, none]) (eh_of (ev_var rfl) h12) (eo_part ev_c) eo_none
    rw [hcut] at hslice
    obtain ⟨l', e', b', wd', ws', q1, _⟩ := id hp5
    have e512 := e57.trans (e79.trans e912)
    have hp12 := hp5.mono (hide_ex.trans e512)
    have hq12 := e512 _ _ (hide_ex _ _ q1)
    refine q_when (b := false) (et_test (ev_is (ev_neInts (a := []) (b := []) (EvN.h (by
      have := en_lcZ (K := K) (xs := ys) (zs := ys.drop 1) (a := sl) (tt := tTest (tOp (rI0 fun i j => .bl (decide (i < j))) (tOp (rI0 fun i j => .int (i - j)) (tVar 10) (tVar 8)) (tOp (rIxT K) (tVar 1) (tC (.int 4))))) (te := tC (.int 1)) (j1 := 8) (j2 := 10) (vs := [8, 10]) (σ := [some (.ref w), some (.ref p), some (.ref sc), some (.ref x), some (.ref ta), some (.ref sd), some (.ref sl), none, none, none, none]) (H := H12) (fun q => decide (q.2 - q.1 < S.len)) (fun _ => V.int 1) (ev_var (i := 6) rfl) h12 hslice (by omega) (fun _ _ => rfl)
        (fun q H13 e13 => et_test (ev_op (ev_op (ev_var rfl) (ev_var rfl) rv_I0) (ev_ixT (eh_of (ev_var rfl) (e13 _ _ hq12)) ev_c rfl) rv_I0)) (fun q H13 e13 _ => ev_c)
      rw [slots_apart ok good hys2 hsort] at this
      exact this)) (EvN.h (en_lst ea_nil (Nat.zero_le _)))) (by rfl))) (fun z => by cases z) fun _ H13 e13 => ?_
    have e513 := e512.trans e13
    have e913 := e912.trans e13
    have hd13 := e13 _ _ (e12 _ _ hd)
    have h913 := e913 _ _ h9
    have hps13 := hps.mono e913
    have hpl : ps.length = S.m := by rw [hps.1, List.length_map, List.length_range]
    have told : ∀ (i : Nat) (a : Addr), ps[i]? = some a → ∀ H', Ex H13 H' → H' a = some (.tup (outT S st.sv i)) ∧ i < S.m := fun i a ha H' e' => by
      have hi : i < S.m := by rw [← hpl]; exact (List.getElem?_eq_some_iff.mp ha).1
      exact ⟨e' _ _ (hps13.2 i a _ ha (by rw [List.getElem?_map, List.getElem?_range hi]; rfl)), hi⟩
    have hserved : ∀ i, ∃ z : Str, atI (outT S st.sv i) 0 = some (.str z) ∧ decide (z = "served") = (st.sv.lookup i).isSome := fun i => by
      unfold outT
      cases st.sv.lookup i with
      | some y => exact ⟨"served", atI_nat (j := 0) rfl, by show _ = true; decide +kernel⟩
      | none =>
        cases S.rule.tail with
        | fin => exact ⟨"ended", atI_nat (j := 0) rfl, by show _ = false; decide +kernel⟩
        | tim z => exact ⟨"never", atI_nat (j := 0) rfl, by show _ = false; decide +kernel⟩
        | rep z => exact ⟨"never", atI_nat (j := 0) rfl, by show _ = false; decide +kernel⟩
    have hlist : ∀ ys : List Int, ys.Perm (L.map fun q => (q.2 : Int)) → ys.Pairwise (· ≤ ·) → ys = ((List.range S.m).filter fun i => (st.sv.lookup i).isSome).map fun i : Nat => (i : Int) := fun ys h1 h2 => served_eq good hL h1 h2
    refine q_when (b := false) (et_test (ev_is (ev_neInts (a := ((List.range S.m).filter fun i => (st.sv.lookup i).isSome).map fun i : Nat => (i : Int)) (b := ((List.range S.m).filter fun i => (st.sv.lookup i).isSome).map fun i : Nat => (i : Int))
      (eh_sortedDI (ks := L.map fun q => (q.2 : Int)) (eh_of (ev_var rfl) hd13) (by rw [List.map_map, List.map_map]; rfl) (by rw [List.length_map]; omega) _ hlist) (EvN.h (by
        have := en_lcE (K := K) (tl := tVar 4) (tt := tTest (tOp rEq (tOp (rIxT K) (tVar 8) (tC (.int 0))) (tC (.str "served")))) (te := tVar 7) (j1 := 7) (j2 := 8) (vs := [7, 8]) (σ := [some (.ref w), some (.ref p), some (.ref sc), some (.ref x), some (.ref ta), some (.ref sd), some (.ref sl), none, none, none, none]) (H := H13) ps V.ref (fun q => (st.sv.lookup q.1).isSome) (fun q => nV q.1) (eh_of (ev_var rfl) h913) (by rw [hpl]; have := ok.ten; omega) (fun _ _ => rfl)
          (fun i a H14 ha e14 => by
            obtain ⟨g1, _⟩ := told i a ha H14 e14
            obtain ⟨z, g2, g3⟩ := hserved i
            exact et_test (ev_is (ev_op (ev_ixT (eh_of (ev_var rfl) g1) ev_c g2) ev_c rv_eqS) (by rw [g3]))) (fun i a H14 ha e14 _ => ev_var rfl)
        rw [zip_range (fun i => (st.sv.lookup i).isSome) ps, hpl, nV_map] at this
        exact this))) (by rw [decide_eq_true rfl]; rfl))) (fun z => by cases z) fun _ H14 e14 => ?_
    -- each client
    have e514 := e513.trans e14
    have e914 := e913.trans e14
    have w14 := w5.mono e514 (Int.le_refl _)
    have hp14 := hp5.mono (hide_mono e514)
    have hS14 := hS5.mono (hide_mono e514)
    have h914 := hide_at (e14 _ _ h913) taw
    have hsdw : sd ≠ w := by
      obtain ⟨a, c, j, g, _⟩ := w14
      exact ne_of (e14 _ _ hd13) g (by intro z; cases z)
    have hsv14 : SvD (hide H14 w) sd (RS.svOf st.sv) := ⟨_, hide_at (e14 _ _ hd13) hsdw, hval⟩
    have told14 : ∀ (i : Nat) (a : Addr), ps[i]? = some a → hide H14 w a = some (.tup (outT S st.sv i)) ∧ i < S.m := fun i a ha => by
      obtain ⟨g1, g2⟩ := told i a ha H14 e14
      obtain ⟨a', c', j', g, _⟩ := w14
      exact ⟨hide_at g1 (ne_of g1 g (by intro z; cases z)), g2⟩
    have xx : Ex (hide H w) (hide H14 w) := x05.trans (hide_mono e514)
    refine ev_go (ev_var (i := 4) (v := .ref ta) rfl) fun H15 e15 => ?_
    refine ⟨ta, ps.map V.ref, rfl, sq_of ((hide_ex.trans e15) _ _ h914), for_it (walk_enum (K := K) (a := ta) (xs := ps.map V.ref)) (fun i σ' H' => Ex (hide H14 w) H' ∧ WellAt H' w (100 + 10 * (i : Int)) ∧ ∃ v7 v8, σ' = [some (.ref w), some (.ref p), some (.ref sc), some (.ref x), some (.ref ta), some (.ref sd), some (.ref sl), v7, v8, none, none]) ⟨hide_ex.trans e15, w14.mono e15 (by omega), _, _, rfl⟩ (fun i σ' H' _ q => sq_of (q.1 _ _ h914)) ?_ ?_⟩
    · rintro i y σ' H' H'' hi ⟨g1, g2, v7, v8, rfl⟩ ⟨T, y1, y2, rfl, hT, rfl, q3, q4⟩
      have q3 : V.int (i : Nat) = y1 := Option.some.inj q3
      subst q3
      rw [List.length_map] at hi
      have q4 : (ps.map V.ref)[i]? = some y2 := q4
      rw [List.getElem?_map, List.getElem?_eq_getElem hi] at q4
      have q4 := Option.some.inj q4
      subst q4
      have eT := Ex.new (o := .tup [V.int (i : Nat), V.ref ps[i]]) hT
      obtain ⟨t1, t2⟩ := told14 i _ (List.getElem?_eq_getElem hi)
      have hw'' := g2.mono eT (Int.le_refl _)
      have g3 := g1.trans eT
      refine gTup2_of upd_same ?_
      generalize upd H' T (.tup [V.int (i : Nat), V.ref ps[i]]) = H6' at *
      refine s_unless (ea_cons (ev_var rfl) (ea_cons (ev_var rfl) (ea_cons (ev_var rfl) (ea_cons (ev_var rfl) (ea_cons (ev_var rfl) (ea_cons (ev_var rfl) ea_nil)))))) fun H16 e16 Q' hQ' => ?_
      have g4 := g3.trans e16
      have g5 : Ex (hide H14 w) (hide H16 w) := ex_hide g4 hide_no
      have hm10 := ok.ten
      exact ⟨w, p, sd, i, ps[i], sc, 100 + 10 * (i : Int), S, st.sv, rfl, hw''.mono e16 (Int.le_refl _), by omega, hp14.mono g5, hsv14.mono g5, g5 _ _ t1, hS14.mono g5, ok, good, kb, t2, fun H17 e17 w17 => hQ' H17 ⟨g5.trans e17, w17.mono (Ex.refl _) (by omega), _, _, rfl⟩⟩
    · rintro σ' H' ⟨g1, g2, v7, v8, rfl⟩
      exact s_ret (σ := ([] : L2.St)) (D := { nx := fun _ H' => Q .non H', rt := Q }) ev_c fun H16 e16 => k H16 ((xx.trans g1).trans e16)
theorem en_slQ {te : TE} {tl th : TO} {lo hi : Option Int} {σ : L2.St} {H : Hp} {a : Addr} {xs : List V} (h : Ev te σ H (.ref a)) (hs : SqL K H a xs) (h1 : EvO tl σ H lo) (h2 : EvO th σ H hi) : EvN (tSl (rSlL K) te tl th) σ H (.lst (cutV xs lo hi)) := fun H1 e Q q =>
  h H1 e _ fun H2 e2 => h1 H2 (e.trans e2) _ fun H3 e3 => h2 H3 ((e.trans e2).trans e3) _ fun H4 e4 =>
    ⟨a, xs, rfl, ex_l (((e.trans e2).trans e3).trans e4) hs, fun l hl => q l _ (fresh_back ((e2.trans e3).trans e4) hl) (((e2.trans e3).trans e4).trans (Ex.new hl)) upd_same⟩
theorem sc_law : FnScope ["_law_script", "_law_cell"] ["_law_script"] (defScope s_law) := ⟨rfl, rfl, rfl, by decide +kernel, rfl, by decide +kernel, by decide +kernel⟩
def sp_law (K : PySem.W.Frag) : Sp := fun vs H Q _ => ∃ (l : Addr) (ns : List Int), vs = [.ref l] ∧ SqL K H l (ns.map V.int) ∧ ns.length ≤ 1000 ∧ ∀ H2, Q (.bl true) H2
theorem ok_law (W : Wd K mg) : FnOk P w0 K mg base CX0 10 (a_law K) (f_law K) ["_law_script"] (sp_law K) := by
  refine (F_law W).ok sc_law (fun vs H Q E h => ?_) (fun cdv A outer s H vs Q E hr h => ?_)
  · obtain ⟨l, ns, rfl, _⟩ := h
    rfl
  · obtain ⟨l, ns, rfl, hl, hn, k⟩ := h
    refine ⟨_, PSs.nox (pss_cons (ps_for PassesOwn.never rfl (pi_list (pe_op op_cat (pe_slice sl_list (pv 0) po_none (po_some pe_int)) (pe_lst (pa_cons pe_int pa_nil)))) (pg_name (i := 1) sc_law.nd rfl (Or.inl rfl)) (pss_one (ps_if (pt_not (pt_val (pe_call (ok_law_right W) (hr.mono (by decide)) (by rfl) (g_law_right W) (F_law_right W).kp (b_law_right W) .nil pass0 (pa_cons (pe_call (ok_law_well W) (hr.mono (by decide)) (by rfl) (g_law_well W) (F_law_well W).kp (b_law_well W) .nil pass0 (pa_cons (pv 1) pa_nil)) pa_nil)))) (pss_one (ps_ret pe_bl)) pss_nil)))
    (pss_one (ps_ret pe_bl))), ?_⟩
    have hcat := en_cat (EvN.h (en_slQ (K := K) (te := tVar 0) (tl := tNoPart) (th := tPart (tC (.int 2))) (lo := none) (hi := some 2) (σ := L2.start ["_law_script", "_law_cell"] [.ref l]) (ev_var rfl) hl eo_none (eo_part ev_c))) (EvN.h (en_lst (ea_cons (ev_c (v := .int 0)) ea_nil) (show (1 : Nat) ≤ 100000 by decide))) (by
      have := cutV_length (ns.map V.int) none (some 2)
      rw [List.length_map] at this
      show _ + 1 ≤ _
      omega)
    have hints : ∃ ms : List Int, cutV (ns.map V.int) none (some 2) ++ [V.int 0] = ms.map V.int := by
      refine ⟨(ns.drop (HT.sIx (ns.map V.int).length 0 none)).take (HT.sIx (ns.map V.int).length (ns.map V.int).length (some 2) - HT.sIx (ns.map V.int).length 0 none) ++ [0], ?_⟩
      rw [List.map_append, List.map_take, List.map_drop]
      rfl
    obtain ⟨ms, hms⟩ := hints
    rw [hms] at hcat
    refine q_forNL (g := gName 1) hcat (fun la i σ' H' => H' la = some (.lst (ms.map V.int)) ∧ ∃ v1, σ' = [some (.ref l), v1]) (fun la H1 _ e1 h1 => ⟨h1, _, rfl⟩) (fun la i σ' H' _ hP => sq_of hP.1) (fun la i x σ' H' hx hP => ?_) (fun la σ' H' hP => ?_)
    · obtain ⟨h1, v1, rfl⟩ := hP
      obtain ⟨c, _, rfl⟩ := int_get hx
      refine ev_go (ev_var (i := 1) (v := .int c) rfl) fun H2 e2 => ⟨c, rfl, fun w H3 hw e3 w3 => ⟨w, rfl, w3, fun H4 e4 => ⟨true, rfl, ?_⟩⟩⟩
      have hne : la ≠ w := ne_of_none (e2 _ _ h1) hw
      exact ⟨e4 _ _ (hide_at (e3 _ _ (e2 _ _ h1)) hne), _, rfl⟩
    · obtain ⟨h1, v1, rfl⟩ := hP
      exact s_ret ev_c fun H5 _ => k H5
end RW
end

section
set_option Elab.async false
set_option linter.all false
set_option maxRecDepth 100000
set_option maxHeartbeats 0
namespace RW
open PySem L2
abbrev AlM : Type := He.AlD × Bool
def obsM (K : PySem.W.Frag) : AlM := (He.obsD fa fn K, exB K)
def valM : AlM := (He.valD fn, true)
def obsMG (n : Nat) (g : Addr → Option Obj) : AlM := obsM (He.frG g (He.asD g n))
def hookM (n : Nat) : PySem.W.Hook where
  α := AlM
  obs := fun s => obsMG n s.heap.get?
  val := fun _ => valM
  says := fun _ h => ∃ K : PySem.W.Frag, K.In h ∧ obsM K = valM
  of := fun _ _ e => ⟨_, He.frG_in, e⟩
  keeps := fun _ _ _ ⟨K, hK, c⟩ k => ⟨K, PySem.W.Frag.In.keeps hK k, c⟩
theorem obsMG_eq {n : Nat} {g : Addr → Option Obj} {s : Shared} (h : ∀ a, g a = s.heap.get? a) : obsMG n g = (hookM n).obs s := by
  have e : g = s.heap.get? := funext h
  rw [e] <;> rfl
abbrev R : PySem.W.OpenRow := PySem.W.OpenLaw.row PySem.Challenge.rw_retryslots_k28_whole_outcomes_of_far_sce
abbrev hk : PySem.W.Hook := hookM 5
def ob (s : PySem.W.SharedT) : AlM := obsMG 5 (HandSHeadRun.getT s)
theorem ob_eq (s : PySem.W.SharedT) : ob s = hk.obs s.abs := obsMG_eq (HandSHeadRun.getT_eq s)
def loose : List Str := (["_wall", "RetryError", "InvalidRule", "InvalidAttempt", "InvalidSlot", "InvalidScene", "InvalidClient", "LimitExceeded", "is_integer"] : List Str) ++ (["is_between", "power", "MOST_GAPS", "MOST_GAP", "MOST_FACTOR", "MOST_ATTEMPT", "is_tail", "Rule", "MOST_CLIENTS", "MOST_OUTAGES", "check_starts", "is_window", "check_outages", "Scene", "Run"] : List Str) ++ (["_law_mixed", "_law_well", "_law_draw", "_law_one", "_law_made", "_law_has", "_law_wide", "_law_fails", "_law_client_right", "_law_right"] : List Str)
theorem run (w : World) : HandSHeadRun.RunEq R (PySem.W.view R.prog [40]) hk ob 30000 loose w := by
  intro os
  kernel_rfl
end RW
end

section
set_option Elab.async false
set_option linter.all false
set_option maxRecDepth 100000
set_option maxHeartbeats 0
namespace RW
open PySem L2
theorem law_facts {P : Program} {w : World} {K : PySem.W.Frag} {h : Heap} {mg : Str → Option Value} {f : Addr} (X : K.In h) (G : h.Ns mainGlobals mg) (hfa : mg ("law" : Str) = some (.ref f)) (c : obsM K = valM) :
    ∃ fd : FuncData, (∀ (s : Shared) (v : Value), BindsTo s fd ⟨[v], []⟩ [("_law_script", v)]) ∧ ∀ base : Heap, K.In base → base.Ns mainGlobals mg → FnOk P w K mg base CX0 10 f fd ["_law_script"] (sp_law K) := by
  have W : Wd K mg := ⟨⟨congrArg (fun z : AlM => z.1) c, congrArg (fun z : AlM => z.2) c⟩, h, X, G⟩
  have e := hfa.symm.trans (g_law W)
  cases e
  have b := FunD.bindsA (ps := ["_law_script"]) (F_law W) fun _ _ _ _ _ _ us hl => match us, hl with | [_], _ => rfl
  exact ⟨f_law K, fun s v => b s [v] rfl, fun base _ _ => ok_law W⟩
end RW
open PySem PySem.W PySem.Calls PyProof.Rows
theorem PySem.Challenge.cw_retryslots_k28_whole_outcomes_of_far_sce_holds : PySem.Challenge.rw_retryslots_k28_whole_outcomes_of_far_sce.Holds := by
  w_on; o_law
  refine HandSHeadRun.head_any (r := OpenLaw.row PySem.Challenge.rw_retryslots_k28_whole_outcomes_of_far_sce) (q := view (OpenLaw.row PySem.Challenge.rw_retryslots_k28_whole_outcomes_of_far_sce).prog [40]) (H := RW.hk) (ob := RW.ob) (M := 30000) (loose := RW.loose) (d := HandSHeadRun.topDef (OpenLaw.row PySem.Challenge.rw_retryslots_k28_whole_outcomes_of_far_sce).prog 40) (kwd := []) RW.ob_eq
    (by kernel_rfl) (fun s => by kernel_rfl) RW.run (by kernel_rfl) (by kernel_rfl) (by kernel_rfl) (by rfl) (by first | assumption | decide +kernel) (by decide +kernel) ⟨rfl, rfl, rfl, rfl, rfl, by decide +kernel⟩ ?hw ?hc
  case hw => w_witness2
  case hc =>
    refine L2.walk_ofE (l := PySem.Challenge.rw_retryslots_k28_whole_outcomes_of_far_sce) (n := 63) (k := 10) (x := "_law_script") (CX := L2.CX0) rfl (by decide) (by kernel_rfl) ⟨rfl, by decide, by decide⟩ ?F (fun _ _ _ _ z => z)
    intro w mg fa h Y G hmg0
    obtain ⟨K, KX, c⟩ := Y
    have hmg : mg ("law" : PySem.Str) = some (.ref fa) := by
      have e : (HandSHeadRun.topDef (OpenLaw.row PySem.Challenge.rw_retryslots_k28_whole_outcomes_of_far_sce).prog 40).name = ("law" : PySem.Str) := by kernel_rfl
      rw [← e]
      exact hmg0
    obtain ⟨fd, hb, hF⟩ := RW.law_facts (P := (PySem.Challenge.rw_retryslots_k28_whole_outcomes_of_far_sce).prog) (w := w) KX G hmg c
    exact ⟨K, fd, RW.sp_law K, KX, hb, fun H a ns hl _ hS => ⟨a, ns, rfl, hS, by omega, fun _ => rfl⟩, hF⟩
end
