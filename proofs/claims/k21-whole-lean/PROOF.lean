import PyProof.Rows.All
import Wide.All
import OpenK.AllK
import Wide.FinOn
import KE.KStateDown
import KE.DataMinMax
import HandS.ForMost
import HandS.ForExc
import HandS.ExcCtx
import HandS.HotCalls
import HandS.IsInst
import HandS.Wide
import HandS.Zip
import HandS.TupMul
import HandS.TupAny
import HandS.Deep
import HandS.Flow
import HandS.Walk
import HandS.Defaults
import HandS.Head0
import HandS.Head1
import HandS.Head2
import HandS.HeadEnd
import HandS.HeadHook1
import HandS.HeadHook2
import HandS.HeadHook3
import HandS.HeadHook4
import HandS.EndTab
import HandS.HeadWalk
import PySem.Challenge.RW_fractrows_k21_whole_lean
set_option Elab.async false
set_option linter.all false
set_option maxRecDepth 100000
set_option maxHeartbeats 4000000
namespace Fr

def primes : List Nat := [2, 3, 5, 7, 11, 13, 17, 19, 23, 29, 31, 37]

def stripF (p : Nat) : Nat → Nat → Nat × Nat
  | 0, n => (0, n)
  | f + 1, n => if n % p = 0 then ((stripF p f (n / p)).1 + 1, (stripF p f (n / p)).2) else (0, n)
/-- how often p divides n, and what is left -/
def strip (p n : Nat) : Nat × Nat := stripF p n n

theorem stripF_spec {p : Nat} (hp : 2 ≤ p) : ∀ (a f m : Nat), m % p ≠ 0 → a ≤ f → stripF p f (p ^ a * m) = (a, m)
  | 0, 0, m, _, _ => by simp [stripF]
  | 0, f + 1, m, hm, _ => by simp [stripF, hm]
  | a + 1, 0, m, _, h => absurd h (by omega)
  | a + 1, f + 1, m, hm, h => by
    have e1 : (p ^ (a + 1) * m) % p = 0 := by
      rw [Nat.pow_succ, Nat.mul_comm (p ^ a) p, Nat.mul_assoc]
      exact Nat.mul_mod_right p _
    have e2 : p ^ (a + 1) * m / p = p ^ a * m := by
      rw [Nat.pow_succ, Nat.mul_comm (p ^ a) p, Nat.mul_assoc]
      exact Nat.mul_div_cancel_left _ (by omega)
    have ih := stripF_spec hp a f m hm (by omega)
    unfold stripF
    rw [if_pos e1, e2, ih]
theorem pow_gt {p : Nat} (hp : 2 ≤ p) : ∀ a : Nat, a < p ^ a
  | 0 => by simp
  | a + 1 => by
    have ih := pow_gt hp a
    rw [Nat.pow_succ]
    have : p ^ a * 2 ≤ p ^ a * p := Nat.mul_le_mul_left _ hp
    omega
theorem strip_spec {p : Nat} (hp : 2 ≤ p) {a m : Nat} (hm : m % p ≠ 0) : strip p (p ^ a * m) = (a, m) := by
  have h0 : 0 < m := by
    rcases Nat.eq_zero_or_pos m with e | e
    · rw [e] at hm; simp at hm
    · exact e
  refine stripF_spec hp a _ m hm ?_
  have h1 := pow_gt hp a
  have h2 : p ^ a * 1 ≤ p ^ a * m := Nat.mul_le_mul_left _ h0
  omega
/-- every number has its form -/
theorem strip_form {p : Nat} (hp : 2 ≤ p) : ∀ (n : Nat), 0 < n → ∃ a m, n = p ^ a * m ∧ m % p ≠ 0 := by
  intro n
  induction n using Nat.strongRecOn with
  | ind n ih =>
    intro hn
    by_cases h : n % p = 0
    · have hlt : n / p < n := Nat.div_lt_self hn hp
      have hpos : 0 < n / p := Nat.div_pos (Nat.le_of_dvd hn (Nat.dvd_of_mod_eq_zero h)) (by omega)
      obtain ⟨a, m, e, hm⟩ := ih (n / p) hlt hpos
      refine ⟨a + 1, m, ?_, hm⟩
      have e1 : p * (n / p) = n := Nat.mul_div_cancel' (Nat.dvd_of_mod_eq_zero h)
      rw [Nat.pow_succ, Nat.mul_comm (p ^ a) p, Nat.mul_assoc, ← e, e1]
    · exact ⟨0, n, by simp, h⟩
theorem strip_eq {p : Nat} (hp : 2 ≤ p) {n : Nat} (hn : 0 < n) : n = p ^ (strip p n).1 * (strip p n).2 ∧ (strip p n).2 % p ≠ 0 := by
  obtain ⟨a, m, e, hm⟩ := strip_form hp n hn
  have h := strip_spec hp (a := a) hm
  rw [← e] at h
  rw [h]
  exact ⟨e, hm⟩

def partL : List Nat → Nat → List Nat × Nat
  | [], n => ([], n)
  | p :: ps, n => ((strip p n).1 :: (partL ps (strip p n).2).1, (partL ps (strip p n).2).2)
def makeL : List Nat → List Nat → Nat
  | p :: ps, a :: as => p ^ a * makeL ps as
  | _, _ => 1

theorem partL_len : ∀ (ps : List Nat) (n : Nat), (partL ps n).1.length = ps.length
  | [], _ => rfl
  | p :: ps, n => by
    show (partL ps _).1.length + 1 = ps.length + 1
    rw [partL_len ps]

/-- pairwise coprime, each at least 2 -/
def Cop : List Nat → Prop
  | [] => True
  | p :: ps => 2 ≤ p ∧ (∀ q ∈ ps, Nat.Coprime p q) ∧ Cop ps
theorem cop_make {p : Nat} : ∀ (ps as : List Nat), (∀ q ∈ ps, Nat.Coprime p q) → Nat.Coprime p (makeL ps as)
  | [], [], _ => by simp [makeL]
  | [], _ :: _, _ => by simp [makeL]
  | _ :: _, [], _ => by simp [makeL]
  | q :: ps, a :: as, h => by
    show Nat.Coprime p (q ^ a * makeL ps as)
    have h1 : Nat.Coprime p (q ^ a) := Nat.Coprime.pow_right a (h q List.mem_cons_self)
    have h2 := cop_make ps as fun r hr => h r (List.mem_cons_of_mem _ hr)
    exact Nat.Coprime.mul_right h1 h2
theorem cop_mod {p m : Nat} (hp : 2 ≤ p) (h : Nat.Coprime p m) : m % p ≠ 0 := by
  intro e
  have d : p ∣ m := Nat.dvd_of_mod_eq_zero e
  have g : Nat.gcd p m = p := Nat.gcd_eq_left d
  rw [Nat.Coprime] at h
  omega
theorem make_pos : ∀ (ps as : List Nat), (∀ q ∈ ps, 2 ≤ q) → 0 < makeL ps as
  | [], [], _ => by simp [makeL]
  | [], _ :: _, _ => by simp [makeL]
  | _ :: _, [], _ => by simp [makeL]
  | q :: ps, a :: as, h => by
    show 0 < q ^ a * makeL ps as
    have h1 : 0 < q := by have := h q List.mem_cons_self; omega
    exact Nat.mul_pos (Nat.pow_pos h1) (make_pos ps as fun r hr => h r (List.mem_cons_of_mem _ hr))
theorem Cop.two : ∀ {ps : List Nat}, Cop ps → ∀ q ∈ ps, 2 ≤ q
  | p :: ps, ⟨h1, _, h3⟩, q, hq => by
    rcases List.mem_cons.mp hq with e | e
    · rw [e]; exact h1
    · exact Cop.two h3 q e
/-- the rooms of a made number -/
theorem part_make : ∀ (ps as : List Nat) (r : Nat), Cop ps → as.length = ps.length → (∀ q ∈ ps, Nat.Coprime q r) → partL ps (makeL ps as * r) = (as, r)
  | [], [], r, _, _, _ => by simp [partL, makeL]
  | [], _ :: _, _, _, h, _ => by simp at h
  | _ :: _, [], _, _, h, _ => by simp at h
  | p :: ps, a :: as, r, ⟨h1, h2, h3⟩, hl, hr => by
    have hm : (makeL ps as * r) % p ≠ 0 := cop_mod h1 (Nat.Coprime.mul_right (cop_make ps as h2) (hr p List.mem_cons_self))
    have e : strip p (makeL (p :: ps) (a :: as) * r) = (a, makeL ps as * r) := by
      show strip p (p ^ a * makeL ps as * r) = _
      rw [Nat.mul_assoc]
      exact strip_spec h1 hm
    have ih := part_make ps as r h3 (by simpa using hl) fun q hq => hr q (List.mem_cons_of_mem _ hq)
    unfold partL
    rw [e, ih]
/-- a number is what its rooms make, times what is left -/
theorem make_part : ∀ (ps : List Nat) (n : Nat), Cop ps → 0 < n → n = makeL ps (partL ps n).1 * (partL ps n).2 ∧ 0 < (partL ps n).2
  | [], n, _, h => by simp [partL, makeL, h]
  | p :: ps, n, ⟨h1, h2, h3⟩, h => by
    obtain ⟨e, hm⟩ := strip_eq h1 h
    have hpos : 0 < (strip p n).2 := by
      rcases Nat.eq_zero_or_pos (strip p n).2 with z | z
      · rw [z] at hm; simp at hm
      · exact z
    obtain ⟨e2, h4⟩ := make_part ps (strip p n).2 h3 hpos
    refine ⟨?_, h4⟩
    show n = p ^ (strip p n).1 * makeL ps (partL ps (strip p n).2).1 * (partL ps (strip p n).2).2
    rw [Nat.mul_assoc, ← e2]
    exact e

theorem cop_primes : Cop primes := ⟨by decide, by decide, by decide, by decide, by decide, by decide, by decide, by decide, by decide, by decide, by decide, by decide, by decide, by decide, by decide, by decide, by decide, by decide, by decide, by decide, by decide, by decide, by decide, by decide, trivial⟩
@[irreducible] def rooms (n : Nat) : List Nat := (partL primes n).1
@[irreducible] def left (n : Nat) : Nat := (partL primes n).2
@[irreducible] def make (as : List Nat) : Nat := makeL primes as
theorem rooms_def (n : Nat) : rooms n = (partL primes n).1 := by unfold rooms; rfl
theorem left_def (n : Nat) : left n = (partL primes n).2 := by unfold left; rfl
theorem make_def (as : List Nat) : make as = makeL primes as := by unfold make; rfl
theorem rooms_len (n : Nat) : (rooms n).length = 12 := by rw [rooms_def]; exact partL_len primes n
theorem make_pos' (as : List Nat) : 0 < make as := by rw [make_def]; exact make_pos primes as cop_primes.two
theorem rooms_make {as : List Nat} (h : as.length = 12) : rooms (make as) = as := by
  have e := part_make primes as 1 cop_primes h fun q _ => Nat.coprime_one_right q
  rw [Nat.mul_one] at e
  rw [rooms_def, make_def, e]
theorem left_make {as : List Nat} (h : as.length = 12) : left (make as) = 1 := by
  have e := part_make primes as 1 cop_primes h fun q _ => Nat.coprime_one_right q
  rw [Nat.mul_one] at e
  rw [left_def, make_def, e]
theorem make_rooms {n : Nat} (h : 0 < n) : n = make (rooms n) * left n ∧ 0 < left n := by rw [make_def, left_def, rooms_def]; exact make_part primes n cop_primes h
/-- a number of the twelve primes alone -/
theorem make_rooms1 {n : Nat} (h : 0 < n) (hl : left n = 1) : make (rooms n) = n := by
  have e := (make_rooms h).1
  rw [hl, Nat.mul_one] at e
  exact e.symm
theorem left_one {n : Nat} (h : 0 < n) : left n = 1 ↔ make (rooms n) = n := by
  refine ⟨make_rooms1 h, fun e => ?_⟩
  have e2 := (make_rooms h).1
  rw [e] at e2
  have : n * left n = n * 1 := by omega
  exact Nat.eq_of_mul_eq_mul_left h this
/-- whether it is a number -/
@[irreducible] def isNum (n : Nat) : Bool := decide (1 ≤ n) && (decide (left n = 1) && (rooms n).all fun a => decide (a ≤ 400))
theorem isNum_make {as : List Nat} (h : as.length = 12) (hb : ∀ a ∈ as, a ≤ 400) : isNum (make as) = true := by
  unfold isNum
  rw [left_make h, rooms_make h]
  have h1 : 1 ≤ make as := make_pos' as
  simp only [h1, decide_true, Bool.true_and, List.all_eq_true, decide_eq_true_eq]
  exact hb
theorem isNum_iff {n : Nat} : isNum n = true ↔ 0 < n ∧ left n = 1 ∧ ∀ a ∈ rooms n, a ≤ 400 := by
  unfold isNum
  simp only [Bool.and_eq_true, decide_eq_true_eq, List.all_eq_true]
  exact Iff.rfl
end Fr
namespace Fr
theorem strip_no {p x : Nat} (h : x % p ≠ 0) (hp : 2 ≤ p) : strip p x = (0, x) := by
  have e := strip_spec hp (a := 0) h
  simpa using e
theorem strip_yes {p x : Nat} (h : x % p = 0) (hp : 2 ≤ p) (hx : 0 < x) : strip p x = ((strip p (x / p)).1 + 1, (strip p (x / p)).2) ∧ 0 < x / p ∧ x / p < x := by
  have d : p ∣ x := Nat.dvd_of_mod_eq_zero h
  have hpos : 0 < x / p := Nat.div_pos (Nat.le_of_dvd hx d) (by omega)
  refine ⟨?_, hpos, Nat.div_lt_self hx hp⟩
  obtain ⟨a, m, e, hm⟩ := strip_form hp (x / p) hpos
  have e1 : x = p ^ (a + 1) * m := by
    have e2 : p * (x / p) = x := Nat.mul_div_cancel' d
    rw [Nat.pow_succ, Nat.mul_comm (p ^ a) p, Nat.mul_assoc, ← e, e2]
  have s1 := strip_spec hp (a := a + 1) hm
  have s2 := strip_spec hp (a := a) hm
  rw [← e1] at s1
  rw [← e] at s2
  rw [s1, s2]
theorem partL_snoc (p : Nat) : ∀ (ps : List Nat) (n : Nat), partL (ps ++ [p]) n = ((partL ps n).1 ++ [(strip p (partL ps n).2).1], (strip p (partL ps n).2).2)
  | [], n => rfl
  | q :: ps, n => by
    show ((strip q n).1 :: (partL (ps ++ [p]) (strip q n).2).1, (partL (ps ++ [p]) (strip q n).2).2) = _
    rw [partL_snoc p ps]
    rfl
theorem partL_pos (ps : List Nat) (h2 : ∀ p ∈ ps, 2 ≤ p) : ∀ n : Nat, 0 < n → 0 < (partL ps n).2 := by
  induction ps with
  | nil => intro n h; exact h
  | cons p ps ih =>
    intro n h
    have e := (strip_eq (h2 p List.mem_cons_self) h).2
    have : 0 < (strip p n).2 := by
      rcases Nat.eq_zero_or_pos (strip p n).2 with z | z
      · rw [z] at e; simp at e
      · exact z
    exact ih (fun q hq => h2 q (List.mem_cons_of_mem _ hq)) _ this
theorem primes_two : ∀ p ∈ primes, 2 ≤ p := cop_primes.two
theorem primes_small : ∀ p ∈ primes, p < 64 := by decide
theorem take_at {α : Type} {l : List α} {i : Nat} {x : α} (h : l[i]? = some x) : l.take (i + 1) = l.take i ++ [x] := by
  rw [List.take_add_one, h]
  rfl
end Fr
namespace Fr
/-! ### sizes -/
theorem log2_lt' {n k : Nat} (hk : 0 < k) (h : n < 2 ^ k) : n.log2 < k := by
  rcases Nat.eq_zero_or_pos n with z | z
  · rw [z]
    simpa using hk
  · exact (Nat.log2_lt (by omega)).mpr h
theorem makeL_lt : ∀ (ps as : List Nat), (∀ p ∈ ps, p < 64) → makeL ps as ≤ 2 ^ (6 * as.sum)
  | [], [], _ => by simp [makeL]
  | [], a :: as, _ => by
    simp only [makeL]
    exact Nat.one_le_two_pow
  | _ :: _, [], _ => by simp [makeL]
  | p :: ps, a :: as, h => by
    have ih := makeL_lt ps as fun q hq => h q (List.mem_cons_of_mem _ hq)
    have hp : p ≤ 2 ^ 6 := by have := h p List.mem_cons_self; omega
    have h1 : p ^ a ≤ 2 ^ (6 * a) := by
      rw [Nat.pow_mul]
      exact Nat.pow_le_pow_left hp a
    show p ^ a * makeL ps as ≤ 2 ^ (6 * (a :: as).sum)
    rw [List.sum_cons, Nat.mul_add, Nat.pow_add]
    exact Nat.mul_le_mul h1 ih
theorem make_le (as : List Nat) : make as ≤ 2 ^ (6 * as.sum) := by
  rw [make_def]
  exact makeL_lt primes as primes_small
theorem sum_le {b : Nat} : ∀ {as : List Nat}, (∀ a ∈ as, a ≤ b) → as.sum ≤ b * as.length
  | [], _ => by simp
  | a :: as, h => by
    have ih := sum_le (as := as) fun x hx => h x (List.mem_cons_of_mem _ hx)
    have := h a List.mem_cons_self
    rw [List.sum_cons, List.length_cons, Nat.mul_add]
    omega
theorem isNum_lt {n : Nat} (h : isNum n = true) : n < 2 ^ 28801 := by
  obtain ⟨h0, h1, h2⟩ := isNum_iff.mp h
  have e := make_rooms1 h0 h1
  have h3 := sum_le h2
  rw [rooms_len] at h3
  have h4 := make_le (rooms n)
  rw [e] at h4
  have h5 : 2 ^ (6 * (rooms n).sum) ≤ 2 ^ 28800 := Nat.pow_le_pow_right (by decide) (by omega)
  have h6 : 2 ^ 28800 < 2 ^ 28801 := Nat.pow_lt_pow_right (by decide) (by decide)
  omega
/-! ### one more in a room -/
/-- makeL by places -/
theorem makeL_set : ∀ (ps as : List Nat) (i p a : Nat), ps[i]? = some p → as[i]? = some a → makeL ps (as.set i (a + 1)) = makeL ps as * p
  | [], _, i, _, _, h, _ => by simp at h
  | _ :: _, [], i, _, _, _, h => by simp at h
  | q :: ps, b :: as, 0, p, a, h, h' => by
    have e1 : q = p := Option.some.inj h
    have e2 : b = a := Option.some.inj h'
    subst e1 e2
    show q ^ (b + 1) * makeL ps as = q ^ b * makeL ps as * q
    rw [Nat.pow_succ, Nat.mul_assoc, Nat.mul_comm q, ← Nat.mul_assoc]
  | q :: ps, b :: as, i + 1, p, a, h, h' => by
    show q ^ b * makeL ps (as.set i (a + 1)) = q ^ b * makeL ps as * p
    rw [makeL_set ps as i p a h h', Nat.mul_assoc]
theorem make_set {as : List Nat} {i p a : Nat} (hp : primes[i]? = some p) (ha : as[i]? = some a) : make (as.set i (a + 1)) = make as * p := by
  rw [make_def, make_def]
  exact makeL_set primes as i p a hp ha
theorem makeL_zero : ∀ (ps : List Nat) (n : Nat), makeL ps (List.replicate n 0) = 1
  | [], 0 => rfl
  | [], n + 1 => rfl
  | _ :: _, 0 => rfl
  | p :: ps, n + 1 => by
    show p ^ 0 * makeL ps (List.replicate n 0) = 1
    rw [makeL_zero ps n]
    simp
theorem make_zero : make (List.replicate 12 0) = 1 := by
  rw [make_def]
  exact makeL_zero primes 12
theorem sum_set1 : ∀ {as : List Nat} {i a : Nat}, as[i]? = some a → (as.set i (a + 1)).sum = as.sum + 1
  | [], i, a, h => by simp at h
  | b :: as, 0, a, h => by
    have e : b = a := Option.some.inj h
    subst e
    show (b + 1) + as.sum = b + as.sum + 1
    omega
  | b :: as, i + 1, a, h => by
    have ih := sum_set1 (as := as) (i := i) (a := a) h
    show b + (as.set i (a + 1)).sum = b + as.sum + 1
    omega
/-- the prime at i divides what is made just if it has something in room i -/
theorem make_mod {as : List Nat} {i p a : Nat} (hl : as.length = 12) (hp : primes[i]? = some p) (ha : as[i]? = some a) : make as % p = 0 ↔ 0 < a := by
  have hi : i < as.length := (List.getElem?_eq_some_iff.mp ha).1
  constructor
  · intro h
    rcases Nat.eq_zero_or_pos a with z | z
    · exfalso
      have hp2 : 2 ≤ p := primes_two p (List.mem_of_getElem? hp)
      have hc : Nat.Coprime p (make as) := by
        rw [make_def]
        have key : ∀ (ps bs : List Nat) (j q : Nat), Cop ps → ps[j]? = some q → bs[j]? = some 0 → Nat.Coprime q (makeL ps bs) := by
          intro ps
          induction ps with
          | nil => intro bs j q _ h; simp at h
          | cons r ps ih =>
            intro bs j q hc h h'
            cases bs with
            | nil => simp at h'
            | cons b bs =>
              obtain ⟨c1, c2, c3⟩ := hc
              cases j with
              | zero =>
                have e1 : r = q := Option.some.inj h
                have e2 : b = 0 := Option.some.inj h'
                subst e1 e2
                show Nat.Coprime r (r ^ 0 * makeL ps bs)
                rw [Nat.pow_zero, Nat.one_mul]
                exact cop_make ps bs c2
              | succ j =>
                have hq : q ∈ ps := List.mem_of_getElem? (i := j) h
                show Nat.Coprime q (r ^ b * makeL ps bs)
                exact Nat.Coprime.mul_right (Nat.Coprime.pow_right b (Nat.Coprime.symm (c2 q hq))) (ih bs j q c3 h h')
        exact key primes as i p cop_primes hp (by rw [ha, z])
      exact cop_mod hp2 hc h
    · exact z
  · intro h
    obtain ⟨b, rfl⟩ : ∃ b, a = b + 1 := ⟨a - 1, by omega⟩
    have e : make as = make (as.set i b) * p := by
      have h1 : (as.set i b)[i]? = some b := by rw [List.getElem?_set_self hi]
      have h2 := make_set (as := as.set i b) hp h1
      rw [List.set_set] at h2
      rw [← h2]
      congr 1
      refine (List.ext_getElem? fun k => ?_)
      by_cases hk : k = i
      · subst hk; rw [ha, List.getElem?_set_self hi]
      · rw [List.getElem?_set_ne (Ne.symm hk)]
    rw [e]
    exact Nat.mul_mod_left _ _
theorem make_div {as : List Nat} {i p a : Nat} (hp : primes[i]? = some p) (ha : as[i]? = some (a + 1)) : make as / p = make (as.set i a) := by
  have hi : i < as.length := (List.getElem?_eq_some_iff.mp ha).1
  have hp2 : 2 ≤ p := primes_two p (List.mem_of_getElem? hp)
  have h1 : (as.set i a)[i]? = some a := by rw [List.getElem?_set_self hi]
  have h2 := make_set (as := as.set i a) hp h1
  rw [List.set_set] at h2
  have e : as.set i (a + 1) = as := by
    refine (List.ext_getElem? fun k => ?_)
    by_cases hk : k = i
    · subst hk; rw [ha, List.getElem?_set_self hi]
    · rw [List.getElem?_set_ne (Ne.symm hk)]
  rw [e] at h2
  rw [h2]
  exact Nat.mul_div_cancel _ (by omega)
/-- coprime, if in no room both have something -/
theorem make_cop {as bs : List Nat} (h : ∀ i : Nat, as[i]? = some 0 ∨ bs[i]? = some 0 ∨ 12 ≤ i) : Nat.gcd (make as) (make bs) = 1 := by
  rw [make_def, make_def]
  have key : ∀ (ps as bs : List Nat), Cop ps → (∀ i : Nat, as[i]? = some 0 ∨ bs[i]? = some 0 ∨ ps.length ≤ i) → Nat.Coprime (makeL ps as) (makeL ps bs) := by
    intro ps
    induction ps with
    | nil => intro as bs _ _; cases as <;> simp [makeL]
    | cons p ps ih =>
      intro as bs hc h
      obtain ⟨c1, c2, c3⟩ := hc
      cases as with
      | nil => simp [makeL]
      | cons a as =>
        cases bs with
        | nil => simp [makeL]
        | cons b bs =>
          have ih' := ih as bs c3 fun i => by
            have := h (i + 1)
            simpa using this
          have h0 := h 0
          have ha : Nat.Coprime p (makeL ps as) := cop_make ps as c2
          have hb : Nat.Coprime p (makeL ps bs) := cop_make ps bs c2
          show Nat.Coprime (p ^ a * makeL ps as) (p ^ b * makeL ps bs)
          have g1 : Nat.Coprime (makeL ps as) (p ^ b * makeL ps bs) := Nat.Coprime.mul_right (Nat.Coprime.symm (Nat.Coprime.pow_left b ha)) ih'
          have g2 : Nat.Coprime (p ^ a) (p ^ b * makeL ps bs) := by
            rcases h0 with z | z | z
            · have e : a = 0 := by simpa using z
              subst e
              simp
            · have e : b = 0 := by simpa using z
              subst e
              rw [Nat.pow_zero, Nat.one_mul]
              exact Nat.Coprime.pow_left a hb
            · simp at z
          exact Nat.Coprime.mul_left g2 g1
  exact key primes as bs cop_primes h
end Fr
namespace Fr
/-! ### programs -/
abbrev Prog := List (Nat × Nat)
/-- whether it is a fraction -/
def isFrac (p : Nat × Nat) : Bool := (isNum p.1 && isNum p.2) && (decide (max p.1 p.2 ≤ 1000000) && decide (Nat.gcd p.1 p.2 = 1))
def isProg (l : Prog) : Bool := decide (l.length ≤ 16) && l.all isFrac
/-- the place of the first that fits -/
def firstAt (l : Prog) (n : Nat) : Option Nat := l.findIdx? fun p => decide (n % p.2 = 0)
def upAt (l : Prog) (i : Nat) : Nat := (l.getD i (1, 1)).1
def unAt (l : Prog) (i : Nat) : Nat := (l.getD i (1, 1)).2
/-- the number behind a step -/
def led (l : Prog) (n : Nat) : Option Nat := (firstAt l n).map fun i => n / unAt l i * upAt l i
theorem firstAt_some {l : Prog} {n i : Nat} (hi : i < l.length) (h : n % (l[i]).2 = 0) (hb : ∀ (j : Nat) (hj : j < l.length), j < i → n % (l[j]).2 ≠ 0) : firstAt l n = some i := by
  unfold firstAt
  rw [List.findIdx?_eq_some_iff_getElem]
  refine ⟨hi, by simpa using h, fun j hj => ?_⟩
  have := hb j (by omega) hj
  simpa using this
theorem firstAt_none {l : Prog} {n : Nat} (h : ∀ (j : Nat) (hj : j < l.length), n % (l[j]).2 ≠ 0) : firstAt l n = none := by
  unfold firstAt
  rw [List.findIdx?_eq_none_iff]
  intro p hp
  obtain ⟨j, hj, e⟩ := List.mem_iff_getElem.mp hp
  have := h j hj
  rw [e] at this
  simpa using this
theorem firstAt_is {l : Prog} {n i : Nat} (h : firstAt l n = some i) : ∃ hi : i < l.length, n % (l[i]).2 = 0 ∧ ∀ (j : Nat) (hj : j < l.length), j < i → n % (l[j]).2 ≠ 0 := by
  unfold firstAt at h
  rw [List.findIdx?_eq_some_iff_getElem] at h
  obtain ⟨hi, h1, h2⟩ := h
  refine ⟨hi, by simpa using h1, fun j hj hji => ?_⟩
  have := h2 j hji
  simpa using this
theorem firstAt_lt {l : Prog} {n i : Nat} (h : firstAt l n = some i) : i < l.length := (firstAt_is h).1
theorem unAt_eq {l : Prog} {i : Nat} (h : i < l.length) : unAt l i = (l[i]).2 := by
  unfold unAt
  rw [List.getD_eq_getElem?_getD, List.getElem?_eq_getElem h]
  rfl
theorem upAt_eq {l : Prog} {i : Nat} (h : i < l.length) : upAt l i = (l[i]).1 := by
  unfold upAt
  rw [List.getD_eq_getElem?_getD, List.getElem?_eq_getElem h]
  rfl
theorem isFrac_iff {p : Nat × Nat} : isFrac p = true ↔ isNum p.1 = true ∧ isNum p.2 = true ∧ p.1 ≤ 1000000 ∧ p.2 ≤ 1000000 ∧ Nat.gcd p.1 p.2 = 1 := by
  unfold isFrac
  simp only [Bool.and_eq_true, decide_eq_true_eq]
  constructor
  · rintro ⟨⟨h1, h2⟩, h3, h4⟩
    exact ⟨h1, h2, by omega, by omega, h4⟩
  · rintro ⟨h1, h2, h3, h4, h5⟩
    exact ⟨⟨h1, h2⟩, by omega, h5⟩
theorem isProg_iff {l : Prog} : isProg l = true ↔ l.length ≤ 16 ∧ ∀ p ∈ l, isFrac p = true := by
  unfold isProg
  simp only [Bool.and_eq_true, decide_eq_true_eq, List.all_eq_true]
theorem isNum_pos {n : Nat} (h : isNum n = true) : 0 < n := (isNum_iff.mp h).1
theorem isProg_pos {l : Prog} (h : isProg l = true) : ∀ p ∈ l, 0 < p.2 := fun p hp => isNum_pos (isFrac_iff.mp ((isProg_iff.mp h).2 p hp)).2.1
/-! ### too great -/
theorem two_pow_le_make {as : List Nat} {a : Nat} (hl : as.length = 12) (ha : a ∈ as) : 2 ^ a ≤ make as := by
  rw [make_def]
  have key : ∀ (ps bs : List Nat), (∀ p ∈ ps, 2 ≤ p) → bs.length = ps.length → a ∈ bs → 2 ^ a ≤ makeL ps bs := by
    intro ps
    induction ps with
    | nil =>
      intro bs _ hl h
      cases bs with
      | nil => cases h
      | cons b bs => simp at hl
    | cons p ps ih =>
      intro bs h2 hl h
      cases bs with
      | nil => simp at hl
      | cons b bs =>
        have hp := h2 p List.mem_cons_self
        have hpos : 0 < makeL ps bs := make_pos ps bs fun q hq => h2 q (List.mem_cons_of_mem _ hq)
        show 2 ^ a ≤ p ^ b * makeL ps bs
        rcases List.mem_cons.mp h with e | e
        · subst e
          have h3 : 2 ^ a ≤ p ^ a := Nat.pow_le_pow_left hp a
          have h4 : p ^ a * 1 ≤ p ^ a * makeL ps bs := Nat.mul_le_mul_left _ hpos
          omega
        · have h3 := ih bs (fun q hq => h2 q (List.mem_cons_of_mem _ hq)) (by simpa using hl) e
          have h4 : 0 < p ^ b := Nat.pow_pos (by omega)
          have h5 : 1 * makeL ps bs ≤ p ^ b * makeL ps bs := Nat.mul_le_mul_right _ h4
          omega
  exact key primes as primes_two hl ha
theorem great {n a : Nat} (h : 0 < n) (ha : a ∈ rooms n) (hb : 400 < a) : 0 < n / 10 ^ 60 / 10 ^ 60 := by
  have h1 := two_pow_le_make (rooms_len n) ha
  have h2 := make_rooms h
  have h3 : make (rooms n) * 1 ≤ make (rooms n) * left n := Nat.mul_le_mul_left _ h2.2
  have h4 : (2 : Nat) ^ 401 ≤ 2 ^ a := Nat.pow_le_pow_right (by decide) hb
  have h5 : (10 : Nat) ^ 60 * 10 ^ 60 ≤ 2 ^ 401 := by decide +kernel
  have h6 : 10 ^ 60 * 10 ^ 60 ≤ n := by omega
  rw [Nat.div_div_eq_div_mul]
  exact Nat.div_pos h6 (by decide +kernel)
/-! ### idle ones -/
def isIdle (l : Prog) (i : Nat) : Bool := !decide (firstAt l (unAt l i) = some i)
def idleOf (l : Prog) : List Nat := (List.range l.length).filter (isIdle l)
def leanOf (l : Prog) : Prog := l.zipIdx.filterMap fun p => if p.2 ∈ idleOf l then none else some p.1
end Fr
namespace Fr
/-! ### what the law draws -/
/-- a product of at most b of the first k primes -/
def SomeN (k b n : Nat) : Prop := ∃ as : List Nat, as.length = 12 ∧ n = make as ∧ as.sum ≤ b ∧ ∀ j, k ≤ j → j < 12 → as[j]? = some 0
def FracN (k : Nat) (p : Nat × Nat) : Prop := SomeN k 2 p.1 ∧ SomeN k 3 p.2 ∧ Nat.gcd p.1 p.2 = 1
theorem sum_dec : ∀ {as : List Nat} {i a : Nat}, as[i]? = some (a + 1) → (as.set i a).sum + 1 = as.sum
  | [], i, a, h => by simp at h
  | b :: as, 0, a, h => by
    have e : b = a + 1 := Option.some.inj h
    subst e
    show a + as.sum + 1 = a + 1 + as.sum
    omega
  | b :: as, i + 1, a, h => by
    have ih := sum_dec (as := as) (i := i) (a := a) h
    show b + (as.set i a).sum + 1 = b + as.sum
    omega
theorem mem_le_sum : ∀ {as : List Nat} {a : Nat}, a ∈ as → a ≤ as.sum
  | b :: as, a, h => by
    rw [List.sum_cons]
    rcases List.mem_cons.mp h with e | e
    · omega
    · have := mem_le_sum e
      omega
theorem SomeN.num {k b n : Nat} (h : SomeN k b n) (hb : b ≤ 400) : isNum n = true := by
  obtain ⟨as, h1, rfl, h2, _⟩ := h
  exact isNum_make h1 fun a ha => by
    have := mem_le_sum ha
    omega
theorem SomeN.le {k b n : Nat} (h : SomeN k b n) : n ≤ 2 ^ (6 * b) := by
  obtain ⟨as, _, rfl, h2, _⟩ := h
  exact Nat.le_trans (make_le as) (Nat.pow_le_pow_right (by decide) (by omega))
theorem FracN.frac {k : Nat} {p : Nat × Nat} (h : FracN k p) : isFrac p = true := by
  obtain ⟨h1, h2, h3⟩ := h
  have l1 := h1.le
  have l2 := h2.le
  refine isFrac_iff.mpr ⟨h1.num (by decide), h2.num (by decide), ?_, ?_, h3⟩
  · exact Nat.le_trans l1 (by decide)
  · exact Nat.le_trans l2 (by decide)
theorem fracs_prog {k : Nat} {l : Prog} (h : ∀ p ∈ l, FracN k p) (hl : l.length ≤ 16) : isProg l = true := isProg_iff.mpr ⟨hl, fun p hp => (h p hp).frac⟩
/-- the law's own step -/
def lawStep (l : Prog) (n : Nat) : Option (Nat × Nat) := (l.findIdx? fun p => decide (n * p.1 % p.2 = 0)).map fun i => (i, n * upAt l i / unAt l i)
theorem cop_fit {n t u : Nat} (h : Nat.gcd t u = 1) : n * t % u = 0 ↔ n % u = 0 := by
  constructor
  · intro e
    have d : u ∣ n * t := Nat.dvd_of_mod_eq_zero e
    exact Nat.mod_eq_zero_of_dvd (Nat.Coprime.dvd_of_dvd_mul_right (Nat.Coprime.symm h) d)
  · intro e
    exact Nat.mod_eq_zero_of_dvd (Nat.dvd_mul_right_of_dvd (Nat.dvd_of_mod_eq_zero e) t)
theorem fit_div {n t u : Nat} (h : n % u = 0) : n * t / u = n / u * t := by
  obtain ⟨c, rfl⟩ := Nat.dvd_of_mod_eq_zero h
  rcases Nat.eq_zero_or_pos u with z | z
  · subst z
    simp
  · rw [Nat.mul_div_cancel_left _ z, Nat.mul_assoc, Nat.mul_div_cancel_left _ z]
theorem lawStep_eq {l : Prog} (hP : isProg l = true) (n : Nat) : lawStep l n = (firstAt l n).map fun i => (i, n / unAt l i * upAt l i) := by
  have hc : ∀ p ∈ l, Nat.gcd p.1 p.2 = 1 := fun p hp => (isFrac_iff.mp ((isProg_iff.mp hP).2 p hp)).2.2.2.2
  have e1 : (l.findIdx? fun p => decide (n * p.1 % p.2 = 0)) = firstAt l n := by
    unfold firstAt
    have key : ∀ m : Prog, (∀ p ∈ m, Nat.gcd p.1 p.2 = 1) → (m.findIdx? fun p => decide (n * p.1 % p.2 = 0)) = m.findIdx? fun p => decide (n % p.2 = 0) := by
      intro m
      induction m with
      | nil => intro _; rfl
      | cons p m ih =>
        intro h
        rw [List.findIdx?_cons, List.findIdx?_cons, ih fun q hq => h q (List.mem_cons_of_mem _ hq)]
        have e : decide (n * p.1 % p.2 = 0) = decide (n % p.2 = 0) := by
          rw [Bool.eq_iff_iff, decide_eq_true_eq, decide_eq_true_eq]
          exact cop_fit (h p List.mem_cons_self)
        rw [e]
    exact key l hc
  unfold lawStep
  rw [e1]
  cases h : firstAt l n with
  | none => rfl
  | some i =>
    obtain ⟨hi, h0, _⟩ := firstAt_is h
    rw [Option.map_some, Option.map_some, unAt_eq hi, fit_div h0]
end Fr
namespace Fr
/-! ### idle ones, and the lean program -/
/-- an earlier one's under divides this one's -/
def dueAt (l : Prog) (i : Nat) : Bool := (l.take i).any fun p => decide (unAt l i % p.2 = 0)
theorem dueAt_iff {l : Prog} {i : Nat} (hi : i ≤ l.length) : dueAt l i = true ↔ ∃ (j : Nat) (hj : j < l.length), j < i ∧ unAt l i % (l[j]).2 = 0 := by
  unfold dueAt
  simp only [List.any_eq_true, decide_eq_true_eq]
  constructor
  · rintro ⟨p, hp, h⟩
    obtain ⟨j, hj, e⟩ := List.mem_iff_getElem.mp hp
    rw [List.length_take] at hj
    rw [List.getElem_take] at e
    exact ⟨j, by omega, by omega, by rw [e]; exact h⟩
  · rintro ⟨j, hj, hji, h⟩
    refine ⟨l[j], ?_, h⟩
    rw [List.mem_iff_getElem]
    exact ⟨j, by rw [List.length_take]; omega, by rw [List.getElem_take]⟩
theorem firstAt_self {l : Prog} {i : Nat} (hi : i < l.length) : ∃ j, firstAt l (unAt l i) = some j ∧ j ≤ i := by
  cases h : firstAt l (unAt l i) with
  | none =>
    unfold firstAt at h
    rw [List.findIdx?_eq_none_iff] at h
    have := h _ (List.getElem_mem hi)
    rw [unAt_eq hi] at this
    simp at this
  | some j =>
    refine ⟨j, rfl, ?_⟩
    obtain ⟨hj, _, hb⟩ := firstAt_is h
    rcases Nat.lt_or_ge i j with z | z
    · have := hb i hi z
      rw [unAt_eq hi] at this
      simp at this
    · exact z
theorem isIdle_due {l : Prog} {i : Nat} (hi : i < l.length) : isIdle l i = dueAt l i := by
  obtain ⟨j, hj, hji⟩ := firstAt_self hi
  obtain ⟨hjl, h0, hb⟩ := firstAt_is hj
  rw [Bool.eq_iff_iff, dueAt_iff (Nat.le_of_lt hi)]
  unfold isIdle
  rw [hj]
  simp only [Option.some.injEq, Bool.not_eq_true', decide_eq_false_iff_not]
  constructor
  · intro h
    exact ⟨j, hjl, by omega, h0⟩
  · rintro ⟨k, hk, hki, h⟩ e
    subst e
    exact hb k hk hki h
theorem idle_mem {l : Prog} {i : Nat} : i ∈ idleOf l ↔ i < l.length ∧ dueAt l i = true := by
  unfold idleOf
  rw [List.mem_filter, List.mem_range]
  constructor
  · rintro ⟨h1, h2⟩
    exact ⟨h1, by rw [← isIdle_due h1]; exact h2⟩
  · rintro ⟨h1, h2⟩
    exact ⟨h1, by rw [isIdle_due h1]; exact h2⟩
theorem idle_due (l : Prog) : idleOf l = (List.range l.length).filter (dueAt l) := by
  unfold idleOf
  refine List.filter_congr fun i hi => isIdle_due (List.mem_range.mp hi)
theorem lean_sub (l : Prog) : ∀ p ∈ leanOf l, p ∈ l := by
  intro p hp
  unfold leanOf at hp
  obtain ⟨⟨q, i⟩, hq, e⟩ := List.mem_filterMap.mp hp
  split at e
  · cases e
  · cases e
    exact (List.mem_zipIdx' hq).2 ▸ List.getElem_mem _
theorem lean_len (l : Prog) : (leanOf l).length ≤ l.length := by
  unfold leanOf
  have h := List.length_filterMap_le (fun p : (Nat × Nat) × Nat => if p.2 ∈ idleOf l then none else some p.1) l.zipIdx
  rw [List.length_zipIdx] at h
  exact h
theorem lean_prog {l : Prog} (h : isProg l = true) : isProg (leanOf l) = true := by
  obtain ⟨h1, h2⟩ := isProg_iff.mp h
  exact isProg_iff.mpr ⟨Nat.le_trans (lean_len l) h1, fun p hp => h2 p (lean_sub l p hp)⟩
/-- led by the fraction itself -/
theorem led_find (l : Prog) (n : Nat) : led l n = (l.find? fun p => decide (n % p.2 = 0)).map fun p => n / p.2 * p.1 := by
  unfold led
  cases h : firstAt l n with
  | none =>
    have : l.find? (fun p => decide (n % p.2 = 0)) = none := by
      unfold firstAt at h
      rw [List.findIdx?_eq_none_iff] at h
      rw [List.find?_eq_none]
      intro p hp
      have := h p hp
      simpa using this
    rw [this]
    rfl
  | some i =>
    obtain ⟨hi, h0, hb⟩ := firstAt_is h
    have : l.find? (fun p => decide (n % p.2 = 0)) = some l[i] := by
      rw [List.find?_eq_some_iff_getElem]
      refine ⟨by simpa using h0, i, hi, rfl, fun j hj => ?_⟩
      have := hb j (by omega) hj
      simpa using this
    rw [this, Option.map_some, Option.map_some, unAt_eq hi, upAt_eq hi]
/-- what is first to fit is kept, and stays the first -/
theorem lean_find (l : Prog) (n : Nat) : (leanOf l).find? (fun p => decide (n % p.2 = 0)) = l.find? fun p => decide (n % p.2 = 0) := by
  cases h : l.find? (fun p => decide (n % p.2 = 0)) with
  | none =>
    rw [List.find?_eq_none] at h ⊢
    exact fun p hp => h p (lean_sub l p hp)
  | some q =>
    rw [List.find?_eq_some_iff_append] at h
    obtain ⟨hq, l1, l2, e, hb⟩ := h
    have hq : n % q.2 = 0 := by simpa using hq
    have hlen : l1.length < l.length := by rw [e]; simp
    have hget : l[l1.length]'hlen = q := by
      simp only [e]
      rw [List.getElem_append_right (Nat.le_refl _)]
      simp
    have hni : l1.length ∉ idleOf l := by
      intro hm
      obtain ⟨_, hd⟩ := idle_mem.mp hm
      obtain ⟨j, hj, hji, h0⟩ := (dueAt_iff (Nat.le_of_lt hlen)).mp hd
      rw [unAt_eq hlen, hget] at h0
      have hjm : l[j] ∈ l1 := by
        simp only [e]
        rw [List.getElem_append_left hji]
        exact List.getElem_mem _
      have := hb _ hjm
      have h1 : l[j].2 ∣ q.2 := Nat.dvd_of_mod_eq_zero h0
      have h2 : q.2 ∣ n := Nat.dvd_of_mod_eq_zero hq
      have h3 : n % l[j].2 = 0 := Nat.mod_eq_zero_of_dvd (Nat.dvd_trans h1 h2)
      simp [h3] at this
    have e2 : leanOf l = (l1.zipIdx.filterMap fun p => if p.2 ∈ idleOf l then none else some p.1) ++ q :: ((l2.zipIdx (l1.length + 1)).filterMap fun p => if p.2 ∈ idleOf l then none else some p.1) := by
      unfold leanOf
      have e3 : l.zipIdx = l1.zipIdx ++ (q, l1.length) :: l2.zipIdx (l1.length + 1) := by
        have : (l1 ++ q :: l2).zipIdx = l1.zipIdx ++ (q, l1.length) :: l2.zipIdx (l1.length + 1) := by
          rw [List.zipIdx_append, List.zipIdx_cons]
          simp
        rw [← e] at this
        exact this
      rw [e3, List.filterMap_append, List.filterMap_cons]
      rw [if_neg hni]
    rw [List.find?_eq_some_iff_append]
    refine ⟨by simpa using hq, _, _, e2, ?_⟩
    intro p hp
    obtain ⟨⟨r, i⟩, hr, e4⟩ := List.mem_filterMap.mp hp
    split at e4
    · cases e4
    · cases e4
      have hrm : r ∈ l1 := (List.mem_zipIdx' hr).2 ▸ List.getElem_mem _
      exact hb r hrm
theorem lean_led (l : Prog) (n : Nat) : led (leanOf l) n = led l n := by
  rw [led_find, led_find, lean_find]
theorem lawStep_led {l : Prog} (hP : isProg l = true) (n : Nat) : (lawStep l n).map Prod.snd = led l n := by
  rw [lawStep_eq hP, Option.map_map]
  rfl
/-- the lean program has none idle -/
theorem lean_idle (l : Prog) : idleOf (leanOf l) = [] := by
  rw [idle_due, List.filter_eq_nil_iff]
  intro i hi
  rw [List.mem_range] at hi
  rw [Bool.not_eq_true]
  cases h : dueAt (leanOf l) i with
  | false => rfl
  | true =>
    exfalso
    obtain ⟨j, hj, hji, h0⟩ := (dueAt_iff (Nat.le_of_lt hi)).mp h
    rw [unAt_eq hi] at h0
    -- both stand in l, in their order
    have key : ∀ (m : Prog) (s : Nat) (i j : Nat) (hi : i < ((m.zipIdx s).filterMap fun p => if p.2 ∈ idleOf l then none else some p.1).length) (hji : j < i), ∃ (a b : Nat) (ha : a < m.length) (hb : b < m.length), b < a ∧ s + a ∉ idleOf l ∧ ((m.zipIdx s).filterMap fun p => if p.2 ∈ idleOf l then none else some p.1)[i] = m[a] ∧ ((m.zipIdx s).filterMap fun p => if p.2 ∈ idleOf l then none else some p.1)[j]'(by omega) = m[b] := by
      intro m
      induction m with
      | nil => intro s i j hi; simp at hi
      | cons p m ih =>
        intro s i j hi hji
        by_cases hp : s ∈ idleOf l
        · have e : (((p :: m).zipIdx s).filterMap fun p => if p.2 ∈ idleOf l then none else some p.1) = ((m.zipIdx (s + 1)).filterMap fun p => if p.2 ∈ idleOf l then none else some p.1) := by
            rw [List.zipIdx_cons, List.filterMap_cons, if_pos hp]
          obtain ⟨a, b, ha, hb, h1, h2, h3, h4⟩ := ih (s + 1) i j (by rw [← e]; exact hi) hji
          refine ⟨a + 1, b + 1, by simpa using ha, by simpa using hb, by omega, by rw [show s + (a + 1) = s + 1 + a by omega]; exact h2, ?_, ?_⟩
          · simp only [e]; rw [h3]; rfl
          · simp only [e]; rw [h4]; rfl
        · have e : (((p :: m).zipIdx s).filterMap fun p => if p.2 ∈ idleOf l then none else some p.1) = p :: ((m.zipIdx (s + 1)).filterMap fun p => if p.2 ∈ idleOf l then none else some p.1) := by
            rw [List.zipIdx_cons, List.filterMap_cons, if_neg hp]
          obtain ⟨i', rfl⟩ : ∃ i', i = i' + 1 := ⟨i - 1, by omega⟩
          have hi' : i' < ((m.zipIdx (s + 1)).filterMap fun p => if p.2 ∈ idleOf l then none else some p.1).length := by
            rw [e] at hi
            simpa using hi
          cases j with
          | zero =>
            have one : ∀ (m : Prog) (s i : Nat) (hi : i < ((m.zipIdx s).filterMap fun p => if p.2 ∈ idleOf l then none else some p.1).length), ∃ (a : Nat) (ha : a < m.length), s + a ∉ idleOf l ∧ ((m.zipIdx s).filterMap fun p => if p.2 ∈ idleOf l then none else some p.1)[i] = m[a] := by
              intro m
              induction m with
              | nil => intro s i hi; simp at hi
              | cons q m ih2 =>
                intro s i hi
                by_cases hq : s ∈ idleOf l
                · have e : (((q :: m).zipIdx s).filterMap fun p => if p.2 ∈ idleOf l then none else some p.1) = ((m.zipIdx (s + 1)).filterMap fun p => if p.2 ∈ idleOf l then none else some p.1) := by
                    rw [List.zipIdx_cons, List.filterMap_cons, if_pos hq]
                  obtain ⟨a, ha, h1, h2⟩ := ih2 (s + 1) i (by rw [← e]; exact hi)
                  refine ⟨a + 1, by simpa using ha, by rw [show s + (a + 1) = s + 1 + a by omega]; exact h1, ?_⟩
                  simp only [e]; rw [h2]; rfl
                · have e : (((q :: m).zipIdx s).filterMap fun p => if p.2 ∈ idleOf l then none else some p.1) = q :: ((m.zipIdx (s + 1)).filterMap fun p => if p.2 ∈ idleOf l then none else some p.1) := by
                    rw [List.zipIdx_cons, List.filterMap_cons, if_neg hq]
                  cases i with
                  | zero => exact ⟨0, by simp, by simpa using hq, by simp only [e]; rfl⟩
                  | succ i =>
                    obtain ⟨a, ha, h1, h2⟩ := ih2 (s + 1) i (by rw [e] at hi; simpa using hi)
                    refine ⟨a + 1, by simpa using ha, by rw [show s + (a + 1) = s + 1 + a by omega]; exact h1, ?_⟩
                    simp only [e]
                    rw [List.getElem_cons_succ, h2]; rfl
            obtain ⟨a, ha, h1, h2⟩ := one m (s + 1) i' hi'
            refine ⟨a + 1, 0, by simpa using ha, by simp, by omega, by rw [show s + (a + 1) = s + 1 + a by omega]; exact h1, ?_, ?_⟩
            · simp only [e]; rw [List.getElem_cons_succ, h2]; rfl
            · simp only [e]; rfl
          | succ j' =>
            obtain ⟨a, b, ha, hb, h1, h2, h3, h4⟩ := ih (s + 1) i' j' hi' (by omega)
            refine ⟨a + 1, b + 1, by simpa using ha, by simpa using hb, by omega, by rw [show s + (a + 1) = s + 1 + a by omega]; exact h2, ?_, ?_⟩
            · simp only [e]; rw [List.getElem_cons_succ, h3]; rfl
            · simp only [e]; rw [List.getElem_cons_succ, h4]; rfl
    obtain ⟨a, b, ha, hb, h1, h2, h3, h4⟩ := key l 0 i j (by unfold leanOf at hi; exact hi) hji
    have h3' : (leanOf l)[i] = l[a] := h3
    have h4' : (leanOf l)[j] = l[b] := h4
    rw [h3', h4'] at h0
    refine h2 ?_
    rw [Nat.zero_add]
    exact idle_mem.mpr ⟨ha, (dueAt_iff (Nat.le_of_lt ha)).mpr ⟨b, hb, h1, by rw [unAt_eq ha]; exact h0⟩⟩
/-! ### small numbers have small rooms -/
theorem room_lt {m k a : Nat} (h : 0 < m) (hk : m < 2 ^ k) (ha : a ∈ rooms m) : a < k := by
  have h1 := two_pow_le_make (rooms_len m) ha
  have h2 := make_rooms h
  have h3 : make (rooms m) * 1 ≤ make (rooms m) * left m := Nat.mul_le_mul_left _ h2.2
  rcases Nat.lt_or_ge a k with z | z
  · exact z
  · have : 2 ^ k ≤ 2 ^ a := Nat.pow_le_pow_right (by decide) z
    omega
end Fr
namespace Fr
open PySem PySem.Spec PyProof.Rows L2

/-! ### heaps -/
theorem same_new {H : Hp} {p : Addr} {o : HO} (h : H p = none) : Same H (upd H p o) := fun b x e => by
  rw [upd_ne (ne_of_none e h)]
  exact e
/-- what H does not know may change -/
theorem same_put {H H' : Hp} {p : Addr} {o : HO} (s : Same H H') (h : H p = none) : Same H (upd H' p o) := fun b x e => by
  rw [upd_ne (ne_of_none e h)]
  exact s _ _ e
theorem same_tup {K : PySem.W.Frag} {H H' : Hp} {a : Addr} {xs : List V} (e : Same H H') (h : SqT K H a xs) : SqT K H' a xs := by
  rcases h with (h | ⟨o, h⟩) | h
  · exact .inl (.inl (e _ _ h))
  · exact .inl (.inr ⟨o, e _ _ h⟩)
  · exact .inr h
mutual
theorem same_dp {K : PySem.W.Frag} {H H' : Hp} (e : Same H H') : ∀ {d : PyData} {v : V}, Dp K H v d → Dp K H' v d
  | .none, _, .non => .non
  | .bool _, _, .bl b => .bl b
  | .int _, _, .int i => .int i
  | .str _, _, .str x => .str x
  | .list _, _, .lst h a => .lst (e.seq h) (same_dps e a)
  | .tuple _, _, .tup h a => .tup (same_tup e h) (same_dps e a)
theorem same_dps {K : PySem.W.Frag} {H H' : Hp} (e : Same H H') : ∀ {ds : List PyData} {vs : List V}, DpAll K H vs ds → DpAll K H' vs ds
  | [], _, .nil => .nil
  | _ :: _, _, .cons a b => .cons (same_dp e a) (same_dps e b)
end
theorem dps_len {K : PySem.W.Frag} {H : Hp} : ∀ {ds : List PyData} {vs : List V}, DpAll K H vs ds → vs.length = ds.length
  | [], _, .nil => rfl
  | _ :: _, _, .cons _ b => congrArg Nat.succ (dps_len b)
theorem dps_at {K : PySem.W.Frag} {H : Hp} : ∀ {ds : List PyData} {vs : List V} {i : Nat} {d : PyData}, DpAll K H vs ds → ds[i]? = some d → ∃ v, vs[i]? = some v ∧ Dp K H v d
  | [], _, _, _, .nil, h => by simp at h
  | e :: _, _, 0, d, .cons a _, h => by
    have z : e = d := Option.some.inj h
    subst z
    exact ⟨_, rfl, a⟩
  | _ :: _, _, i + 1, d, .cons _ b, h => dps_at (i := i) b h
theorem dps_at2 {K : PySem.W.Frag} {H : Hp} : ∀ {ds : List PyData} {vs : List V} {i : Nat} {v : V}, DpAll K H vs ds → vs[i]? = some v → ∃ d, ds[i]? = some d ∧ Dp K H v d
  | [], _, _, _, .nil, h => by simp at h
  | e :: _, _, 0, d, .cons a _, h => by
    have z := Option.some.inj h
    subst z
    exact ⟨_, rfl, a⟩
  | _ :: _, _, i + 1, d, .cons _ b, h => dps_at2 (i := i) b h
theorem dps_app {K : PySem.W.Frag} {H : Hp} : ∀ {ds es : List PyData} {vs ws : List V}, DpAll K H vs ds → DpAll K H ws es → DpAll K H (vs ++ ws) (ds ++ es)
  | [], _, _, _, .nil, h => h
  | _ :: _, _, _, _, .cons a b, h => .cons a (dps_app b h)
theorem dps_take {K : PySem.W.Frag} {H : Hp} : ∀ {ds : List PyData} {vs : List V} (n : Nat), DpAll K H vs ds → DpAll K H (vs.take n) (ds.take n)
  | _, _, 0, _ => .nil
  | [], _, _ + 1, .nil => .nil
  | _ :: _, _, n + 1, .cons a b => .cons a (dps_take n b)
theorem dps_drop {K : PySem.W.Frag} {H : Hp} : ∀ {ds : List PyData} {vs : List V} (n : Nat), DpAll K H vs ds → DpAll K H (vs.drop n) (ds.drop n)
  | _, _, 0, h => h
  | [], _, _ + 1, .nil => .nil
  | _ :: _, _, n + 1, .cons _ b => dps_drop n b
theorem dps_ints {K : PySem.W.Frag} {H : Hp} : ∀ (ns : List Int), DpAll K H (ns.map V.int) (ns.map PyData.int)
  | [] => .nil
  | n :: ns => .cons (.int n) (dps_ints ns)
theorem dps_of_ints {K : PySem.W.Frag} {H : Hp} : ∀ {ns : List Int} {vs : List V}, DpAll K H vs (ns.map PyData.int) → vs = ns.map V.int
  | [], _, .nil => rfl
  | n :: ns, _, .cons (.int _) b => congrArg (V.int n :: ·) (dps_of_ints b)

/-! ### a def that may be called by its name -/
abbrev ga := He.ga
/-- a def's own datum behind the top -/
def fdOf (K : PySem.W.Frag) (p : Str × Option Str) : FuncData := match K.lookup (He.fAd K p) with
  | some ⟨_, _, .func fd, _⟩ => fd
  | _ => default
abbrev FnP (K : PySem.W.Frag) (x : Str) (st : Stmt) : Prop := FunD K x x (defArgs st) (defBody st) (defScope st) [] [] (ga K x) (fdOf K (x, none))
structure Cal (P : Program) (w : World) (K : PySem.W.Frag) (mg : Str → Option Value) (base : Heap) (CX : CXT) (k : Nat) (x : Str) (ps : List Str) (sp : Sp) : Prop where
  fn : FnOk P w K mg base CX k (ga K x) (fdOf K (x, none)) ps sp
  m : mg x = some (.ref (ga K x))
  kp : PySem.W.keepIn K (.ref (ga K x)) = true
  b : Binds K (fdOf K (x, none)) ps []
def tCal (sp : Sp) (E : XK) (t : TA) : TE := fun σ H Q => t σ H fun vs H1 => sp vs H1 Q E
section
variable {X : Cx} {CX : CXT} {k : Nat} {x : Str} {ps : List Str} {sp : Sp} {E : XK} {p pos : Pos} {e : Expr} {es : List Expr} {t : TA}
theorem pe_cal (C : Cal X.prog X.w X.K X.mg X.base CX k x ps sp) (hr : Room k X.A) (hg : Gl X x) (hx : Passes CX X E) (ha : PA X (e :: es) t) (hdb : (x == ("__debug__" : Str)) = false := by decide)
    (he : starEach (e :: es) X.env = (false, eval e X.env) :: starEach es X.env := by rfl) (hpl : (backTo pos (starEach es X.env)).any (·.1) = false := by rfl) :
    PE X (.Call (.Name x p) (e :: es) [] pos) (tCal sp E t) := by
  have h := pe_call (p := p) (pos := pos) C.fn hr hg C.m C.kp C.b .nil hx ha hdb he hpl
  refine ⟨fun pins s σ H Q I q => h.run pins s σ H Q I ?_⟩
  show t σ H fun vs H1 => sp (vs ++ []) H1 Q E
  simp only [List.append_nil]
  exact q
theorem pe_cal0 (C : Cal X.prog X.w X.K X.mg X.base CX k x ps sp) (hr : Room k X.A) (hg : Gl X x) (hx : Passes CX X E) (hdb : (x == ("__debug__" : Str)) = false := by decide) :
    PE X (.Call (.Name x p) [] [] pos) (tCal sp E tNil) := by
  exact pe_call0 (p := p) (pos := pos) C.fn hr hg C.m C.kp C.b .nil hx hdb
end

/-! ### whole numbers that are not below nought -/
section
variable {X : Cx}
def rN (C : Nat → Nat → Prop) (g : Nat → Nat → V) : R2 := fun x y H Q => ∃ a b : Nat, x = .int a ∧ y = .int b ∧ C a b ∧ Q (g a b) H
def rN0 (g : Nat → Nat → V) : R2 := fun x y H Q => ∃ a b : Nat, x = .int a ∧ y = .int b ∧ Q (g a b) H
theorem opN_mod : OpR X (binaryOp .Mod) (rN (fun _ b => 0 < b) fun a b => .int ((a % b : Nat) : Int)) := by
  intro pins s σ H x y v u Q I rx ry h
  obtain ⟨a, b, rfl, rfl, hb, q⟩ := h
  exact op_mod pins s σ H _ _ v u Q I rx ry ⟨a, b, rfl, rfl, by omega, q⟩
theorem opN_div : OpR X (binaryOp .FloorDiv) (rN (fun _ b => 0 < b ∧ b.log2 < 9000) fun a b => .int ((a / b : Nat) : Int)) := by
  intro pins s σ H x y v u Q I rx ry h
  obtain ⟨a, b, rfl, rfl, ⟨h1, h2⟩, q⟩ := h
  exact op_fdivW pins s σ H _ _ v u Q I rx ry ⟨a, b, rfl, rfl, ⟨by omega, by simpa using h2⟩, q⟩
theorem opN_mul : OpR X (binaryOp .Mult) (rN (fun a b => a.log2 + b.log2 < 1000000) fun a b => .int ((a * b : Nat) : Int)) := by
  intro pins s σ H x y v u Q I rx ry h
  obtain ⟨a, b, rfl, rfl, h1, q⟩ := h
  exact op_mulW pins s σ H _ _ v u Q I rx ry ⟨a, b, rfl, rfl, by simpa [CMulW] using h1, q⟩
theorem opN_add : OpR X (binaryOp .Add) (rN0 fun a b => .int ((a + b : Nat) : Int)) := by
  intro pins s σ H x y v u Q I rx ry h
  obtain ⟨a, b, rfl, rfl, q⟩ := h
  exact op_add pins s σ H _ _ v u Q I rx ry ⟨a, b, rfl, rfl, q⟩
theorem opN_sub : OpR X (binaryOp .Sub) (rN (fun a b => b ≤ a) fun a b => .int ((a - b : Nat) : Int)) := by
  intro pins s σ H x y v u Q I rx ry h
  obtain ⟨a, b, rfl, rfl, h1, q⟩ := h
  refine op_sub pins s σ H _ _ v u Q I rx ry ⟨a, b, rfl, rfl, ?_⟩
  show Q (V.int ((a : Int) - (b : Int))) H
  rw [← Int.ofNat_sub h1]
  exact q
theorem opN_pow : OpR X (binaryOp .Pow) (rN (fun a b => b ≤ 1000000 ∧ a < 2 ^ 64) fun a b => .int ((a ^ b : Nat) : Int)) := by
  intro pins s σ H x y v u Q I rx ry h
  obtain ⟨a, b, rfl, rfl, ⟨h1, h2⟩, q⟩ := h
  refine op_pow pins s σ H _ _ v u Q I rx ry ⟨a, b, rfl, rfl, ⟨by omega, by omega, by simpa using h2⟩, ?_⟩
  show Q (V.int ((a : Int) ^ (b : Int).toNat)) H
  rw [Int.toNat_natCast, ← Int.natCast_pow]
  exact q
theorem opN_eq : OpR X (compareOp .Eq) (rN0 fun a b => .bl (decide (a = b))) := by
  intro pins s σ H x y v u Q I rx ry h
  obtain ⟨a, b, rfl, rfl, q⟩ := h
  refine op_eq pins s σ H _ _ v u Q I rx ry ⟨rfl, ?_⟩
  have e : decide (V.int (a : Int) = V.int (b : Int)) = decide (a = b) := by
    rw [Bool.eq_iff_iff]
    simp
    omega
  rw [e]
  exact q
theorem opN_ne : OpR X (compareOp .NotEq) (rN0 fun a b => .bl (!decide (a = b))) := by
  intro pins s σ H x y v u Q I rx ry h
  obtain ⟨a, b, rfl, rfl, q⟩ := h
  refine op_ne pins s σ H _ _ v u Q I rx ry ⟨rfl, ?_⟩
  have e : decide (V.int (a : Int) = V.int (b : Int)) = decide (a = b) := by
    rw [Bool.eq_iff_iff]
    simp
    omega
  rw [e]
  exact q
theorem opN_lt : OpR X (compareOp .Lt) (rN0 fun a b => .bl (decide (a < b))) := by
  intro pins s σ H x y v u Q I rx ry h
  obtain ⟨a, b, rfl, rfl, q⟩ := h
  refine op_lt pins s σ H _ _ v u Q I rx ry ⟨a, b, rfl, rfl, ?_⟩
  simpa using q
theorem opN_le : OpR X (compareOp .LtE) (rN0 fun a b => .bl (decide (a ≤ b))) := by
  intro pins s σ H x y v u Q I rx ry h
  obtain ⟨a, b, rfl, rfl, q⟩ := h
  refine op_le pins s σ H _ _ v u Q I rx ry ⟨a, b, rfl, rfl, ?_⟩
  simpa using q
theorem opN_gt : OpR X (compareOp .Gt) (rN0 fun a b => .bl (decide (b < a))) := by
  intro pins s σ H x y v u Q I rx ry h
  obtain ⟨a, b, rfl, rfl, q⟩ := h
  refine op_gt pins s σ H _ _ v u Q I rx ry ⟨a, b, rfl, rfl, ?_⟩
  simpa using q
theorem opN_ge : OpR X (compareOp .GtE) (rN0 fun a b => .bl (decide (b ≤ a))) := by
  intro pins s σ H x y v u Q I rx ry h
  obtain ⟨a, b, rfl, rfl, q⟩ := h
  refine op_ge pins s σ H _ _ v u Q I rx ry ⟨a, b, rfl, rfl, ?_⟩
  simpa using q
end

/-! ### isinstance of data -/
def tyD : PyData → String
  | .none => "NoneType"
  | .bool _ => "bool"
  | .int _ => "int"
  | .str _ => "str"
  | .list _ => "list"
  | .tuple _ => "tuple"
  | .dict _ => "dict"
def isD (n : String) (d : PyData) : Bool := (kitB (tyD d) n).getD false
theorem ty_of {K : PySem.W.Frag} {H : Hp} {v : V} {d : PyData} (h : Dp K H v d) : TyX K H v (.type (tyD d)) := by
  cases h with
  | non => exact .base .non
  | bl b => exact .base (.bl b)
  | int i => exact .base (.int i)
  | str x => exact .base (.str x)
  | lst h _ =>
    rcases h with (h | ⟨o, h⟩) | ⟨o, its, n, h, hc, _⟩
    · exact .base (.lst h)
    · exact .base (.frz h)
    · exact .kList h hc
  | tup h _ =>
    rcases h with (h | ⟨o, h⟩) | ⟨o, its, n, h, hc, _⟩
    · exact .base (.tup h)
    · exact .fTuple h
    · exact .kTuple h hc
def rIsD (K : PySem.W.Frag) (n : String) : List V → Hp → VK → Prop := fun xs H Q => ∃ (v : V) (d : PyData), xs = [v, .ty n] ∧ Dp K H v d ∧ Q (.bl (isD n d)) H
theorem kit_isD {n : String} (hk : (["NoneType", "bool", "int", "str", "list", "tuple"].all fun t => (kitB t n).isSome) = true) (d : PyData) (hd : ∀ z, d ≠ .dict z) : kitB (tyD d) n = some (isD n d) := by
  simp only [List.all_cons, List.all_nil, Bool.and_true, Bool.and_eq_true] at hk
  obtain ⟨h1, h2, h3, h4, h5, h6⟩ := hk
  have key : ∀ t : String, (kitB t n).isSome = true → kitB t n = some ((kitB t n).getD false) := fun t h => by
    cases e : kitB t n with
    | none =>
      rw [e] at h
      cases h
    | some b => rfl
  cases d with
  | none => exact key _ h1
  | bool _ => exact key _ h2
  | int _ => exact key _ h3
  | str _ => exact key _ h4
  | list _ => exact key _ h5
  | tuple _ => exact key _ h6
  | dict z => exact absurd rfl (hd z)
theorem call_isD {X : Cx} (n : String) (hk : (["NoneType", "bool", "int", "str", "list", "tuple"].all fun t => (kitB t n).isSome) = true) : CallR X (.builtin "isinstance") (rIsD X.K n) := by
  intro pins s σ H xs us Q I r h
  obtain ⟨v, d, rfl, hd, q⟩ := h
  exact call_isi pins s σ H _ us Q I r ⟨v, .ty n, _, _, isD n d, rfl, .ty n, ty_of hd, kit_ty (kit_isD hk d fun z e => by rw [e] at hd; cases hd), q⟩
theorem isK_int : (["NoneType", "bool", "int", "str", "list", "tuple"].all fun t => (kitB t "int").isSome) = true := by decide +kernel
theorem isK_bool : (["NoneType", "bool", "int", "str", "list", "tuple"].all fun t => (kitB t "bool").isSome) = true := by decide +kernel
theorem isK_str : (["NoneType", "bool", "int", "str", "list", "tuple"].all fun t => (kitB t "str").isSome) = true := by decide +kernel
theorem isK_list : (["NoneType", "bool", "int", "str", "list", "tuple"].all fun t => (kitB t "list").isSome) = true := by decide +kernel
theorem isK_tuple : (["NoneType", "bool", "int", "str", "list", "tuple"].all fun t => (kitB t "tuple").isSome) = true := by decide +kernel
def isIntD : PyData → Bool
  | .bool _ => true
  | .int _ => true
  | _ => false
def isBoolD : PyData → Bool
  | .bool _ => true
  | _ => false
def isStrD : PyData → Bool
  | .str _ => true
  | _ => false
def isListD : PyData → Bool
  | .list _ => true
  | _ => false
def isTupleD : PyData → Bool
  | .tuple _ => true
  | _ => false
theorem isD_int {K : PySem.W.Frag} {H : Hp} {v : V} {d : PyData} (h : Dp K H v d) : isD "int" d = isIntD d := by
  cases h <;> (simp only [isD, tyD, isIntD]; decide +kernel)
theorem isD_bool {K : PySem.W.Frag} {H : Hp} {v : V} {d : PyData} (h : Dp K H v d) : isD "bool" d = isBoolD d := by
  cases h <;> (simp only [isD, tyD, isBoolD]; decide +kernel)
theorem isD_str {K : PySem.W.Frag} {H : Hp} {v : V} {d : PyData} (h : Dp K H v d) : isD "str" d = isStrD d := by
  cases h <;> (simp only [isD, tyD, isStrD]; decide +kernel)
theorem isD_list {K : PySem.W.Frag} {H : Hp} {v : V} {d : PyData} (h : Dp K H v d) : isD "list" d = isListD d := by
  cases h <;> (simp only [isD, tyD, isListD]; decide +kernel)
theorem isD_tuple {K : PySem.W.Frag} {H : Hp} {v : V} {d : PyData} (h : Dp K H v d) : isD "tuple" d = isTupleD d := by
  cases h <;> (simp only [isD, tyD, isTupleD]; decide +kernel)
def rIs (K : PySem.W.Frag) (n : String) (f : PyData → Bool) : List V → Hp → VK → Prop := fun xs H Q => ∃ (v : V) (d : PyData), xs = [v, .ty n] ∧ Dp K H v d ∧ Q (.bl (f d)) H
section
variable {X : Cx}
theorem call_is {n : String} {f : PyData → Bool} (hk : (["NoneType", "bool", "int", "str", "list", "tuple"].all fun t => (kitB t n).isSome) = true) (he : ∀ {H : Hp} {v : V} {d : PyData}, Dp X.K H v d → isD n d = f d) :
    CallR X (.builtin "isinstance") (rIs X.K n f) := by
  intro pins s σ H xs us Q I r h
  obtain ⟨v, d, rfl, hd, q⟩ := h
  rw [← he hd] at q
  exact call_isD n hk pins s σ H _ us Q I r ⟨v, d, rfl, hd, q⟩
theorem is_int : CallR X (.builtin "isinstance") (rIs X.K "int" isIntD) := call_is isK_int isD_int
theorem is_bool : CallR X (.builtin "isinstance") (rIs X.K "bool" isBoolD) := call_is isK_bool isD_bool
theorem is_str : CallR X (.builtin "isinstance") (rIs X.K "str" isStrD) := call_is isK_str isD_str
theorem is_list : CallR X (.builtin "isinstance") (rIs X.K "list" isListD) := call_is isK_list isD_list
theorem is_tuple : CallR X (.builtin "isinstance") (rIs X.K "tuple" isTupleD) := call_is isK_tuple isD_tuple
end
end Fr
namespace Fr
open PySem PySem.Spec PyProof.Rows L2
abbrev nI (a : Nat) : V := .int (a : Int)
abbrev nD (a : Nat) : PyData := .int (a : Int)
/-! ### data without lists stand, though a list changes -/
mutual
def noL : PyData → Bool
  | .list _ => false
  | .dict _ => false
  | .tuple ds => noLs ds
  | _ => true
def noLs : List PyData → Bool
  | [] => true
  | d :: ds => noL d && noLs ds
end
theorem sqt_upd {K : PySem.W.Frag} {H : Hp} {D b : Addr} {ys zs xs : List V} (hD : H D = some (.lst ys)) (h : SqT K H b xs) : SqT K (upd H D (.lst zs)) b xs := by
  rcases h with (h | ⟨o, h⟩) | h
  · have n : b ≠ D := ne_of h hD (by intro z; cases z)
    exact .inl (.inl (by rw [upd_ne n]; exact h))
  · have n : b ≠ D := ne_of h hD (by intro z; cases z)
    exact .inl (.inr ⟨o, by rw [upd_ne n]; exact h⟩)
  · exact .inr h
mutual
theorem dp_upd {K : PySem.W.Frag} {H : Hp} {D : Addr} {ys zs : List V} (hD : H D = some (.lst ys)) : ∀ {d : PyData} {v : V}, noL d = true → Dp K H v d → Dp K (upd H D (.lst zs)) v d
  | .none, _, _, .non => .non
  | .bool _, _, _, .bl b => .bl b
  | .int _, _, _, .int i => .int i
  | .str _, _, _, .str x => .str x
  | .list _, _, h, _ => by simp [noL] at h
  | .tuple ds, _, h, .tup t a => .tup (sqt_upd hD t) (dps_upd hD (by simpa [noL] using h) a)
theorem dps_upd {K : PySem.W.Frag} {H : Hp} {D : Addr} {ys zs : List V} (hD : H D = some (.lst ys)) : ∀ {ds : List PyData} {vs : List V}, noLs ds = true → DpAll K H vs ds → DpAll K (upd H D (.lst zs)) vs ds
  | [], _, _, .nil => .nil
  | d :: ds, _, h, .cons a b => by
    have h2 : noL d = true ∧ noLs ds = true := by simpa [noLs] using h
    exact .cons (dp_upd hD h2.1 a) (dps_upd hD h2.2 b)
end
theorem noLs_app : ∀ (ds es : List PyData), noLs (ds ++ es) = (noLs ds && noLs es)
  | [], es => by simp [noLs]
  | d :: ds, es => by
    show (noL d && noLs (ds ++ es)) = (noL d && noLs ds && noLs es)
    rw [noLs_app ds es, Bool.and_assoc]
theorem noLs_of : ∀ {ds : List PyData}, (∀ d ∈ ds, noL d = true) → noLs ds = true
  | [], _ => by simp [noLs]
  | d :: ds, h => by
    simp only [noLs, Bool.and_eq_true]
    exact ⟨h d List.mem_cons_self, noLs_of fun e he => h e (List.mem_cons_of_mem _ he)⟩
/-! ### comprehensions -/
/-- what turns below i gave -/
def gath (F : Nat → Option PyData) (i : Nat) : List PyData := (List.range i).filterMap F
theorem gath_zero (F : Nat → Option PyData) : gath F 0 = [] := rfl
theorem gath_yes {F : Nat → Option PyData} {i : Nat} {d : PyData} (h : F i = some d) : gath F (i + 1) = gath F i ++ [d] := by
  unfold gath
  rw [List.range_succ, List.filterMap_append]
  simp [h]
theorem gath_no {F : Nat → Option PyData} {i : Nat} (h : F i = none) : gath F (i + 1) = gath F i := by
  unfold gath
  rw [List.range_succ, List.filterMap_append]
  simp [h]
theorem gath_len (F : Nat → Option PyData) (i : Nat) : (gath F i).length ≤ i := by
  unfold gath
  have h := List.length_filterMap_le F (List.range i)
  rw [List.length_range] at h
  exact h
theorem gath_noL {F : Nat → Option PyData} (hF : ∀ i d, F i = some d → noL d = true) (i : Nat) : noLs (gath F i) = true := by
  refine noLs_of fun d hd => ?_
  obtain ⟨j, _, e⟩ := List.mem_filterMap.mp hd
  exact hF j d e
theorem gath_mapI {α : Type} (l : List α) (g : Nat → α → Option PyData) : gath (fun i => l[i]?.bind (g i)) l.length = l.zipIdx.filterMap fun p => g p.2 p.1 := by
  unfold gath
  have e : l.zipIdx = (List.range l.length).filterMap fun i => l[i]?.map fun x => (x, i) := by
    refine List.ext_getElem? fun k => ?_
    have key : ∀ n, n ≤ l.length → ((List.range n).filterMap fun i => l[i]?.map fun x => (x, i)) = (l.zipIdx).take n := by
      intro n
      induction n with
      | zero => intro _; rfl
      | succ n ih =>
        intro hn
        have hlt : n < l.length := by omega
        rw [List.range_succ, List.filterMap_append, ih (by omega), List.take_add_one]
        congr 1
        simp [hlt]
    rw [key l.length (Nat.le_refl _), List.take_of_length_le (by simp)]
  rw [e, List.filterMap_filterMap]
  congr 1
  funext i
  cases l[i]? <;> rfl
theorem gath_map {α : Type} (l : List α) (g : α → PyData) : gath (fun i => l[i]?.map g) l.length = l.map g := by
  have h := gath_mapI l fun _ x => some (g x)
  have e1 : (fun (i : Nat) => l[i]?.bind fun x => some (g x)) = fun (i : Nat) => l[i]?.map g := by
    funext i
    cases l[i]? <;> rfl
  rw [e1] at h
  rw [h]
  have e3 : l.zipIdx.filterMap (fun p => some (g p.1)) = l.zipIdx.map (fun p => g p.1) := congrFun List.filterMap_eq_map' _
  rw [e3]
  have e2 : (l.zipIdx.map fun p => g p.1) = (l.zipIdx.map Prod.fst).map g := by rw [List.map_map]; rfl
  exact e2.trans (by rw [List.zipIdx_map_fst])
theorem gath_filter {α : Type} (l : List α) (g : α → Option PyData) : gath (fun i => l[i]?.bind g) l.length = l.filterMap g := by
  have h := gath_mapI l fun _ x => g x
  rw [h]
  have e2 : (l.zipIdx.filterMap fun p => g p.1) = (l.zipIdx.map Prod.fst).filterMap g := by rw [List.filterMap_map]; rfl
  exact e2.trans (by rw [List.zipIdx_map_fst])
theorem gath_range {n : Nat} (g : Nat → Option PyData) : gath g n = (List.range n).filterMap g := rfl
/-- a comprehension whose items are data without lists -/
theorem lc_dp {K : PySem.W.Frag} {J : It} {n : Nat} {G : Hp → Prop} {Y : Nat → Hp → V → Hp → Prop} (w : Walk J n G Y) {g : TG} {tt : TT} {te : TE} {vs : List Nat} {σ : L2.St} {H1 : Hp} {D : Addr} {Qd : Hp → Prop}
    (hD : H1 D = none) (hn : n ≤ 100000) (hG : ∀ H', Same H1 H' → G H') (F : Nat → Option PyData) (hF : ∀ i d, F i = some d → noL d = true)
    (hs : ∀ i x H' H'' (A : V → Hp → Prop) (B : Hp → Prop), i < n → Same H1 H' → Y i H' x H'' → (∀ y d H4, F i = some d → Same H' H4 → Dp K H4 y d → A y H4) → (F i = none → ∀ H3, Same H' H3 → B H3) →
      g x (wipe σ vs) H'' fun σ2 H2 => wipe σ2 vs = wipe σ vs ∧ tt σ2 H2 fun b H3 => if b = true then te σ2 H3 A else B H3)
    (hd : ∀ H' ys, Same H1 H' → H' D = some (.lst ys) → DpAll K H' ys (gath F n) → Qd H') :
    ∃ W : Nat → Nat → Hp → Prop, (∃ m, W 0 m (upd H1 D (.lst []))) ∧ ∀ i m H, W i m H →
      (J.stop i H ∧ Qd H) ∨ (J.go i H ∧ ∃ Nx : Hp → Prop, (∀ H', Nx H' → ∃ m', m' < m ∧ W (i + 1) m' H') ∧ ∀ x H', J.yld i H x H' → g x (wipe σ vs) H' fun σ2 H2 => wipe σ2 vs = wipe σ vs ∧ tt σ2 H2 fun b H3 =>
        if b = true then te σ2 H3 fun y H4 => ∃ acc, H4 D = some (.lst acc) ∧ acc.length < sizeLine ∧ Nx (upd H4 D (.lst (acc ++ [y]))) else Nx H3) := by
  refine lc_it w (fun i H' => Same H1 H' ∧ ∃ ys, H' D = some (.lst ys) ∧ DpAll K H' ys (gath F i)) ⟨same_new hD, [], upd_same, .nil⟩ (fun i H' _ p => hG H' p.1) (fun i x H' H'' hi p hY => ?_) (fun H' p => ?_)
  · obtain ⟨sm, ys, hy, hA⟩ := p
    refine hs i x H' H'' _ _ hi sm hY (fun y d H4 hFi s4 hdp => ?_) (fun hFi H3 s3 => ?_)
    · refine ⟨ys, s4 _ _ hy, ?_, ?_, ys ++ [y], upd_same, ?_⟩
      · have h1 := gath_len F i
        have h2 := dps_len hA
        exact Nat.lt_of_lt_of_le (show ys.length < 100000 by omega) (by decide)
      · exact same_put (sm.trans s4) hD
      · rw [gath_yes hFi]
        exact dps_app (dps_upd (s4 _ _ hy) (gath_noL hF i) (same_dps s4 hA)) (.cons (dp_upd (s4 _ _ hy) (hF i d hFi) hdp) .nil)
    · exact ⟨sm.trans s3, ys, s3 _ _ hy, by rw [gath_no hFi]; exact same_dps s3 hA⟩
  · obtain ⟨sm, ys, hy, hA⟩ := p
    exact hd H' ys sm hy hA
/-! ### the data of bools, of ints -/
theorem dps_bools {K : PySem.W.Frag} {H : Hp} : ∀ {bs : List Bool} {vs : List V}, DpAll K H vs (bs.map PyData.bool) → vs = bs.map V.bl
  | [], _, .nil => rfl
  | b :: bs, _, .cons (.bl _) t => congrArg (V.bl b :: ·) (dps_bools t)
theorem dps_nats {K : PySem.W.Frag} {H : Hp} : ∀ {ns : List Nat} {vs : List V}, DpAll K H vs (ns.map nD) → vs = ns.map nI
  | [], _, .nil => rfl
  | n :: ns, _, .cons (.int _) t => congrArg (nI n :: ·) (dps_nats t)
theorem dps_nats' {K : PySem.W.Frag} {H : Hp} : ∀ (ns : List Nat), DpAll K H (ns.map nI) (ns.map nD)
  | [] => .nil
  | n :: ns => .cons (.int _) (dps_nats' ns)
theorem nI_map (ns : List Nat) : ns.map nI = (ns.map fun (a : Nat) => (a : Int)).map V.int := by
  rw [List.map_map]
  rfl
/-! ### max of a tuple of whole numbers -/
def maxN : List Nat → Nat
  | [] => 0
  | a :: as => max a (maxN as)
theorem maxN_mem : ∀ {as : List Nat}, as ≠ [] → maxN as ∈ as
  | [], h => absurd rfl h
  | [a], _ => by simp [maxN]
  | a :: b :: as, _ => by
    have ih := maxN_mem (as := b :: as) (by simp)
    show max a (maxN (b :: as)) ∈ a :: b :: as
    rcases Nat.le_total a (maxN (b :: as)) with h | h
    · rw [Nat.max_eq_right h]
      exact List.mem_cons_of_mem _ ih
    · rw [Nat.max_eq_left h]
      exact List.mem_cons_self
theorem maxN_le : ∀ {as : List Nat} {a : Nat}, a ∈ as → a ≤ maxN as
  | b :: as, a, h => by
    rcases List.mem_cons.mp h with e | e
    · rw [e]
      exact Nat.le_max_left _ _
    · exact Nat.le_trans (maxN_le e) (Nat.le_max_right _ _)
theorem maxN_uniq {as : List Nat} {m : Nat} (h : m ∈ as) (hm : ∀ a ∈ as, a ≤ m) : m = maxN as :=
  Nat.le_antisymm (maxN_le h) (hm _ (maxN_mem (List.ne_nil_of_mem h)))
def rMaxT (K : PySem.W.Frag) : List V → Hp → VK → Prop := fun vs H Q => ∃ (a : Addr) (ns : List Nat), vs = [V.ref a] ∧ SqT K H a (ns.map nI) ∧ ns ≠ [] ∧ Q (nI (maxN ns)) H
theorem reads_int {h : Heap} {v : Value} {i : Int} {as : List Addr} (r : Reads h v (.int i) as) : ∃ t, v = .int i t := by
  cases r
  exact ⟨_, rfl⟩
theorem foldl_max : ∀ (ns : List Nat) (n : Nat), (ns.map fun (a : Nat) => (a : Int)).foldl max (n : Int) = ((max n (maxN ns) : Nat) : Int)
  | [], n => by simp [maxN]
  | a :: as, n => by
    show (as.map fun (a : Nat) => (a : Int)).foldl max (max (n : Int) (a : Int)) = _
    have e : max (n : Int) (a : Int) = ((max n a : Nat) : Int) := by omega
    rw [e, foldl_max as]
    show ((max (max n a) (maxN as) : Nat) : Int) = ((max n (max a (maxN as)) : Nat) : Int)
    rw [Nat.max_assoc]
theorem depth_ints : ∀ ns : List Int, PyData.depthAll (ns.map PyData.int) = 0
  | [] => by simp [PyData.depthAll]
  | n :: ns => by simp [PyData.depthAll, PyData.depth, depth_ints ns]
theorem alike_ints (ns : List Int) : PySem.W.AlikeAll (ns.map PyData.int) := by
  refine ⟨fun x hx y hy => ?_, fun x hx => ?_⟩
  · obtain ⟨i, _, rfl⟩ := List.mem_map.mp hx
    obtain ⟨j, _, rfl⟩ := List.mem_map.mp hy
    simp only [PySem.W.alike]
  · obtain ⟨i, _, rfl⟩ := List.mem_map.mp hx
    intro z
    cases z
theorem cr_maxT {X : Cx} (hc : X.calm = true) (hu : X.A.units + 1 < cLine) : CallR X (.builtin "max") (rMaxT X.K) := by
  intro pins s σ H vs us Q I r h
  obtain ⟨a, ns, rfl, hs, hne, q⟩ := h
  obtain ⟨its, rv, hl, _⟩ := I.tuple hs
  rw [Vals.ref1 r]
  cases ns with
  | nil => exact absurd rfl hne
  | cons n ns =>
    have hdp : DpAll X.K H ((n :: ns).map nI) (PyData.int (n : Int) :: (ns.map fun (a : Nat) => (a : Int)).map PyData.int) := by
      have h := dps_nats' (K := X.K) (H := H) (n :: ns)
      have e : (n :: ns).map nD = PyData.int (n : Int) :: (ns.map fun (a : Nat) => (a : Int)).map PyData.int := by
        rw [List.map_map]
        rfl
      rw [e] at h
      exact h
    obtain ⟨as, hr⟩ := Dp.readsAll I _ _ its hdp rv
    have ha := alike_ints ((n : Int) :: ns.map fun (a : Nat) => (a : Int))
    have hdep := depth_ints ((n : Int) :: ns.map fun (a : Nat) => (a : Int))
    refine PySem.W.max_tuple_data (I.ok.hd hc) (show s.heap.IsTuple a its.toArray from hl) (x := .int (n : Int)) (xs := (ns.map fun (a : Nat) => (a : Int)).map PyData.int) (by simpa using hr) ha (by rw [show PyData.depthAll (PyData.int (n : Int) :: (ns.map fun (a : Nat) => (a : Int)).map PyData.int) = 0 from hdep]; omega) fun i v h' tk bs hi r hk => ?_
    rw [PySem.W.maxD_ints, foldl_max] at r
    obtain ⟨t, rfl⟩ := reads_int r
    exact ⟨nI (maxN (n :: ns)), H, I.kept hk, ⟨t, rfl⟩, q⟩
/-! ### the rules over a named K (within a comprehension the context's own is told by its letter) -/
section
variable {X : Cx} {K : PySem.W.Frag}
theorem ixL (e : X.K = K)  : IxR X (rIxL K) := by
  subst e
  exact ix_list
theorem ixT (e : X.K = K)  : IxR X (rIxT K) := by
  subst e
  exact ix_tup
theorem ixA (e : X.K = K)  : IxR X (rIx K) := by
  subst e
  exact ix_seq
theorem slL (e : X.K = K)  : SlR X (rSlL K) := by
  subst e
  exact sl_list
theorem slT (e : X.K = K)  : SlR X (rSlA K) := by
  subst e
  exact sl_tupA
theorem inS (e : X.K = K)  : OpR X (compareOp .In) (rIn K false) := by
  subst e
  exact op_in_seq
theorem ninS (e : X.K = K)  : OpR X (compareOp .NotIn) (rIn K true) := by
  subst e
  exact op_notIn_seq
theorem eqD (e : X.K = K) (hu : X.A.units + 64 < cLine) : OpR X (compareOp .Eq) (rEqD K) := by
  subst e
  exact op_eqD hu
theorem neD (e : X.K = K) (hu : X.A.units + 64 < cLine) : OpR X (compareOp .NotEq) (rNeD K) := by
  subst e
  exact op_neD hu
theorem inD (e : X.K = K) (hu : X.A.units + 65 < cLine) : OpR X (compareOp .In) (rInD K) := by
  subst e
  exact op_inD hu
theorem catT (e : X.K = K)  : OpR X (binaryOp .Add) (rCatA K) := by
  subst e
  exact op_catA
theorem repT (e : X.K = K)  : OpR X (binaryOp .Mult) (rRepT K) := by
  subst e
  exact op_repT
theorem lenS (e : X.K = K)  : CallR X (.builtin "len") (fun xs H Q => ∃ p ys, xs = [.ref p] ∧ (SqL K H p ys ∨ SqT K H p ys) ∧ Q (.int ys.length) H) := by
  subst e
  exact call_len_seq
theorem listOf (e : X.K = K)  : CallR X (.type "list") (fun xs H Q => ∃ p ys, xs = [.ref p] ∧ (SqL K H p ys ∨ SqT K H p ys) ∧ ∀ l, H l = none → Q (.ref l) (upd H l (.lst ys))) := by
  subst e
  exact call_list_of
theorem tupleOf (e : X.K = K)  : CallR X (.type "tuple") (fun xs H Q => ∃ p ys, xs = [.ref p] ∧ ((SqL K H p ys ∧ ∀ l, H l = none → Q (.ref l) (upd H l (.tup ys))) ∨ (SqT K H p ys ∧ Q (.ref p) H))) := by
  subst e
  exact call_tuple_of
theorem isInt (e : X.K = K)  : CallR X (.builtin "isinstance") (rIs K "int" isIntD) := by
  subst e
  exact is_int
theorem isBool (e : X.K = K)  : CallR X (.builtin "isinstance") (rIs K "bool" isBoolD) := by
  subst e
  exact is_bool
theorem isStr (e : X.K = K)  : CallR X (.builtin "isinstance") (rIs K "str" isStrD) := by
  subst e
  exact is_str
theorem isList (e : X.K = K)  : CallR X (.builtin "isinstance") (rIs K "list" isListD) := by
  subst e
  exact is_list
theorem isTuple (e : X.K = K)  : CallR X (.builtin "isinstance") (rIs K "tuple" isTupleD) := by
  subst e
  exact is_tuple
theorem crAll (e : X.K = K) (hc : X.calm = true) : CallR X (.builtin "all") (rAll K) := by
  subst e
  exact cr_all hc
theorem crAny (e : X.K = K) (hc : X.calm = true) : CallR X (.builtin "any") (rAny K) := by
  subst e
  exact cr_any hc
theorem crSum (e : X.K = K) (hc : X.calm = true) : CallR X (.builtin "sum") (rSum K) := by
  subst e
  exact cr_sum hc
theorem crMax (e : X.K = K) (hc : X.calm = true) : CallR X (.builtin "max") (rMax K) := by
  subst e
  exact cr_max hc
theorem crMin (e : X.K = K) (hc : X.calm = true) : CallR X (.builtin "min") (rMin K) := by
  subst e
  exact cr_min hc
theorem crMaxT (e : X.K = K) (hc : X.calm = true) (hu : X.A.units + 1 < cLine) : CallR X (.builtin "max") (rMaxT K) := by
  subst e
  exact cr_maxT hc hu
theorem pgT {es : List Expr} {k n : Nat} {t : TGs} {pos : Pos} (e : X.K = K) (hc : X.calm = true) (h : PGs X es t) (hn : (assignEach es X.env).length = n := by rfl) (hst : (assignEach es X.env).findIdx? (·.1) = none := by rfl) : PG X (.Tuple es k pos) (gTup K n t) := by
  subst e
  exact pg_tup hc h hn hst
theorem piL {tg a : Expr} {ta : TE} (e : X.K = K) (ha : PE X a ta) : PI X tg a (iList K ta) := by
  subst e
  exact pi_list ha
theorem piT {tg a : Expr} {ta : TE} (e : X.K = K) (ha : PE X a ta) : PI X tg a (iTup K ta) := by
  subst e
  exact pi_tup ha
theorem piE {a : Expr} {ta : TA} {p pos tpos : Pos} {elts : List Expr} {kk : Nat} (e : X.K = K) (hg : Gl X "enumerate") (hm : X.mg "enumerate" = none) (ha : PA X [a] ta) (hs : starEach [a] X.env = [(false, eval a X.env)] := by rfl) :
    PI X (.Tuple elts kk tpos) (.Call (.Name "enumerate" p) [a] [] pos) (iEnum K ta) := by
  subst e
  exact pi_enum hg hm ha hs
theorem bm {o a : Expr} {es : List Expr} {to : TE} {t : TA} {name : Str} {apos cpos : Pos} {T id : String} {r : V → List V → Hp → VK → Prop} (e : X.K = K) (pa : PlainAttrs T) (slot : Slot T name id) (hty : typeOf (.builtin id) = pure (.type "method_descriptor")) (hm : MtR X id r) (ho : PE X o to) (ha : PA X (a :: es) t)
    (hbase : attributeBase o name X.env (eval o X.env) = eval o X.env := by rfl)
    (hfew : ((backTo cpos (starEach (a :: es) X.env)).all (fun x => !x.1) && (backToKw cpos (keywordEach [] X.env)).all (fun x => x.1.isSome)
      && decide ((a :: es).length + ([] : List Keyword).length + (if ([] : List Keyword).isEmpty then 0 else 1) < 30)) = true := by rfl)
    (hline : (apos.endLine == cpos.line) = true := by rfl) (h1 : starEach (a :: es) X.env = (false, eval a X.env) :: starEach es X.env := by rfl) (h2 : (backTo cpos (starEach es X.env)).any (·.1) = false := by rfl) : PE X (.Call (.Attribute o name apos) (a :: es) [] cpos) (tBM K T r to t) := by
  subst e
  exact pe_bm pa slot hty hm ho ha hbase hfew hline h1 h2
theorem bm0 {o : Expr} {to : TE} {name : Str} {apos cpos : Pos} {T id : String} {r : V → List V → Hp → VK → Prop} (e : X.K = K) (pa : PlainAttrs T) (slot : Slot T name id) (hty : typeOf (.builtin id) = pure (.type "method_descriptor")) (hm : MtR X id r) (ho : PE X o to)
    (hbase : attributeBase o name X.env (eval o X.env) = eval o X.env := by rfl) (hline : (apos.endLine == cpos.line) = true := by rfl) : PE X (.Call (.Attribute o name apos) [] [] cpos) (tBM0 K T r to) := by
  subst e
  exact pe_bm0 pa slot hty hm ho hbase hline
end
theorem walk_nats {n : Nat} : Walk (Itr 0 n) n (fun _ => True) (YFn nI) := walk_range.mono (fun _ h => h) fun i H x H' _ _ y => ⟨y.1, y.2.trans (congrArg V.int (Int.zero_add _))⟩
end Fr
namespace Fr
open PySem PySem.Spec PyProof.Rows L2
/-- a comprehension whose items are some data of a kind, without lists -/
theorem lc_ex {K : PySem.W.Frag} {J : It} {n : Nat} {G : Hp → Prop} {Y : Nat → Hp → V → Hp → Prop} (w : Walk J n G Y) {g : TG} {tt : TT} {te : TE} {vs : List Nat} {σ : L2.St} {H1 : Hp} {D : Addr} {Qd : Hp → Prop}
    (hD : H1 D = none) (hn : n ≤ 100000) (hG : ∀ H', Same H1 H' → G H') (S : PyData → Prop) (hS : ∀ d, S d → noL d = true)
    (hs : ∀ i x H' H'' (A : V → Hp → Prop) (B : Hp → Prop), i < n → Same H1 H' → Y i H' x H'' → (∀ y d H4, S d → Same H' H4 → Dp K H4 y d → A y H4) → (∀ H3, Same H' H3 → B H3) →
      g x (wipe σ vs) H'' fun σ2 H2 => wipe σ2 vs = wipe σ vs ∧ tt σ2 H2 fun b H3 => if b = true then te σ2 H3 A else B H3)
    (hd : ∀ H' ys ds, Same H1 H' → H' D = some (.lst ys) → DpAll K H' ys ds → (∀ d ∈ ds, S d) → ds.length ≤ n → Qd H') :
    ∃ W : Nat → Nat → Hp → Prop, (∃ m, W 0 m (upd H1 D (.lst []))) ∧ ∀ i m H, W i m H →
      (J.stop i H ∧ Qd H) ∨ (J.go i H ∧ ∃ Nx : Hp → Prop, (∀ H', Nx H' → ∃ m', m' < m ∧ W (i + 1) m' H') ∧ ∀ x H', J.yld i H x H' → g x (wipe σ vs) H' fun σ2 H2 => wipe σ2 vs = wipe σ vs ∧ tt σ2 H2 fun b H3 =>
        if b = true then te σ2 H3 fun y H4 => ∃ acc, H4 D = some (.lst acc) ∧ acc.length < sizeLine ∧ Nx (upd H4 D (.lst (acc ++ [y]))) else Nx H3) := by
  refine lc_it w (fun i H' => Same H1 H' ∧ i ≤ n ∧ ∃ ys ds, H' D = some (.lst ys) ∧ DpAll K H' ys ds ∧ (∀ d ∈ ds, S d) ∧ ds.length ≤ i) ⟨same_new hD, Nat.zero_le _, [], [], upd_same, .nil, fun d h => (nomatch h), Nat.le_refl _⟩ (fun i H' _ p => hG H' p.1) (fun i x H' H'' hi p hY => ?_) (fun H' p => ?_)
  · obtain ⟨sm, hin, ys, ds, hy, hA, hAS, hl⟩ := p
    refine hs i x H' H'' _ _ hi sm hY (fun y d H4 hSd s4 hdp => ?_) (fun H3 s3 => ?_)
    · refine ⟨ys, s4 _ _ hy, ?_, ?_, by omega, ys ++ [y], ds ++ [d], upd_same, ?_, ?_, ?_⟩
      · have h2 := dps_len hA
        exact Nat.lt_of_lt_of_le (show ys.length < 100000 by omega) (by decide)
      · exact same_put (sm.trans s4) hD
      · exact dps_app (dps_upd (s4 _ _ hy) (noLs_of fun e he => hS e (hAS e he)) (same_dps s4 hA)) (.cons (dp_upd (s4 _ _ hy) (hS d hSd) hdp) .nil)
      · intro e he
        rcases List.mem_append.mp he with z | z
        · exact hAS e z
        · have : e = d := by simpa using z
          rw [this]
          exact hSd
      · rw [List.length_append]
        show ds.length + 1 ≤ i + 1
        omega
    · exact ⟨sm.trans s3, by omega, ys, ds, s3 _ _ hy, same_dps s3 hA, hAS, by omega⟩
  · obtain ⟨sm, hin, ys, ds, hy, hA, hAS, hl⟩ := p
    exact hd H' ys ds sm hy hA hAS hl
end Fr
namespace Fr
open PySem PySem.Spec PyProof.Rows L2
section
variable {X : Cx}
def rN2 (g : Nat → Nat → Nat) : List V → Hp → VK → Prop := fun xs H Q => ∃ a b : Nat, xs = [nI a, nI b] ∧ Q (nI (g a b)) H
theorem max2N (hc : X.calm = true) : CallR X (.builtin "max") (rN2 max) := by
  intro pins s σ H xs us Q I r h
  obtain ⟨a, b, rfl, q⟩ := h
  refine call_max2 hc pins s σ H _ us Q I r ⟨a, b, rfl, ?_⟩
  have e : (if (b : Int) > (a : Int) then (b : Int) else (a : Int)) = ((max a b : Nat) : Int) := by
    split <;> omega
  rw [e]
  exact q
theorem min2N (hc : X.calm = true) : CallR X (.builtin "min") (rN2 min) := by
  intro pins s σ H xs us Q I r h
  obtain ⟨a, b, rfl, q⟩ := h
  refine call_min2 hc pins s σ H _ us Q I r ⟨a, b, rfl, ?_⟩
  have e : (if (b : Int) < (a : Int) then (b : Int) else (a : Int)) = ((min a b : Nat) : Int) := by
    split <;> omega
  rw [e]
  exact q
/-- what a def that may raise lets out is nothing here -/
theorem passN : Passes (L2N.CX X.prog X.w) X L2.E0 := fun _ _ _ _ _ _ _ h => by
  obtain ⟨_, _, _, _, _, _, _, _, _, _, _, _, z⟩ := h
  exact z.elim
end
end Fr
namespace Fr
open PySem PySem.Spec PyProof.Rows L2
/-! ### numbers, fractions, programs as data -/
def isNumD : PyData → Bool
  | .int i => decide (1 ≤ i) && isNum i.toNat
  | _ => false
def natO : PyData → Nat
  | .int i => i.toNat
  | _ => 0
def isFracD : PyData → Bool
  | .tuple [a, b] => (isNumD a && isNumD b) && (decide (max (natO a) (natO b) ≤ 1000000) && decide (Nat.gcd (natO a) (natO b) = 1))
  | _ => false
def isProgD : PyData → Bool
  | .list ds => decide (ds.length ≤ 16) && ds.all isFracD
  | _ => false
def fracD (p : Nat × Nat) : PyData := .tuple [nD p.1, nD p.2]
def progD (l : Prog) : PyData := .list (l.map fracD)
theorem isNumD_nat (n : Nat) : isNumD (nD n) = isNum n := by
  show (decide (1 ≤ (n : Int)) && isNum (n : Int).toNat) = isNum n
  rw [Int.toNat_natCast]
  by_cases h : 1 ≤ n
  · rw [decide_eq_true (by omega), Bool.true_and]
  · rw [decide_eq_false (by omega), Bool.false_and]
    cases e : isNum n with
    | false => rfl
    | true => exact absurd (isNum_pos e) (by omega)
theorem isNumD_is {d : PyData} (h : isNumD d = true) : ∃ n : Nat, d = nD n ∧ isNum n = true := by
  cases d with
  | int i =>
    obtain ⟨h1, h2⟩ := Bool.and_eq_true_iff.mp (show (decide (1 ≤ i) && isNum i.toNat) = true from h)
    have h1 := of_decide_eq_true h1
    exact ⟨i.toNat, by rw [show nD i.toNat = PyData.int (i.toNat : Int) from rfl, Int.toNat_of_nonneg (by omega)], h2⟩
  | _ => cases h
theorem isFracD_frac (p : Nat × Nat) : isFracD (fracD p) = isFrac p := by
  show ((isNumD (nD p.1) && isNumD (nD p.2)) && (decide (max (p.1 : Int).toNat (p.2 : Int).toNat ≤ 1000000) && decide (Nat.gcd (p.1 : Int).toNat (p.2 : Int).toNat = 1))) = isFrac p
  rw [isNumD_nat, isNumD_nat, Int.toNat_natCast, Int.toNat_natCast]
  rfl
theorem isFracD_is {d : PyData} (h : isFracD d = true) : ∃ p : Nat × Nat, d = fracD p ∧ isFrac p = true := by
  cases d with
  | tuple ds =>
    match ds, h with
    | [a, b], h =>
      obtain ⟨h1, h2⟩ := Bool.and_eq_true_iff.mp (show ((isNumD a && isNumD b) && (decide (max (natO a) (natO b) ≤ 1000000) && decide (Nat.gcd (natO a) (natO b) = 1))) = true from h)
      obtain ⟨ha, hb⟩ := Bool.and_eq_true_iff.mp h1
      obtain ⟨n, rfl, _⟩ := isNumD_is ha
      obtain ⟨m, rfl, _⟩ := isNumD_is hb
      exact ⟨(n, m), rfl, by rw [← isFracD_frac]; exact h⟩
  | _ => cases h
theorem all_frac : ∀ (l : Prog), (l.map fracD).all isFracD = l.all isFrac
  | [] => rfl
  | p :: l => by
    show (isFracD (fracD p) && (l.map fracD).all isFracD) = (isFrac p && l.all isFrac)
    rw [isFracD_frac, all_frac l]
theorem isProgD_prog (l : Prog) : isProgD (progD l) = isProg l := by
  show (decide ((l.map fracD).length ≤ 16) && (l.map fracD).all isFracD) = isProg l
  rw [all_frac, List.length_map]
  rfl
theorem isProgD_is {d : PyData} (h : isProgD d = true) : ∃ l : Prog, d = progD l ∧ isProg l = true := by
  cases d with
  | list ds =>
    obtain ⟨h1, h2⟩ := Bool.and_eq_true_iff.mp (show (decide (ds.length ≤ 16) && ds.all isFracD) = true from h)
    have key : ∀ es : List PyData, es.all isFracD = true → ∃ l : Prog, es = l.map fracD := by
      intro es
      induction es with
      | nil => intro _; exact ⟨[], rfl⟩
      | cons e es ih =>
        intro h
        obtain ⟨a, b⟩ := Bool.and_eq_true_iff.mp (show (isFracD e && es.all isFracD) = true from h)
        obtain ⟨p, rfl, _⟩ := isFracD_is a
        obtain ⟨l, rfl⟩ := ih b
        exact ⟨p :: l, rfl⟩
    obtain ⟨l, rfl⟩ := key ds h2
    exact ⟨l, rfl, by rw [← isProgD_prog]; exact h⟩
  | _ => cases h
theorem noL_frac (p : Nat × Nat) : noL (fracD p) = true := by
  simp [fracD, noL, noLs]
/-- a fraction at its place -/
theorem frac_at {K : PySem.W.Frag} {H : Hp} {v : V} {p : Nat × Nat} (h : Dp K H v (fracD p)) : ∃ b, v = .ref b ∧ SqT K H b [nI p.1, nI p.2] := by
  cases h with
  | tup hs ha =>
    cases ha with
    | cons h1 h2 =>
      cases h2 with
      | cons h2 h3 =>
        cases h3
        cases h1
        cases h2
        exact ⟨_, rfl, hs⟩
theorem prog_at {K : PySem.W.Frag} {H : Hp} {v : V} {l : Prog} (h : Dp K H v (progD l)) : ∃ (a : Addr) (xs : List V), v = .ref a ∧ SqL K H a xs ∧ DpAll K H xs (l.map fracD) ∧ xs.length = l.length := by
  cases h with
  | lst hs ha => exact ⟨_, _, rfl, hs, ha, by rw [dps_len ha, List.length_map]⟩
theorem prog_item {K : PySem.W.Frag} {H : Hp} {l : Prog} {xs : List V} {i : Nat} {x : V} (h : DpAll K H xs (l.map fracD)) (hx : xs[i]? = some x) : ∃ (hi : i < l.length) (b : Addr), x = .ref b ∧ SqT K H b [nI (l[i]).1, nI (l[i]).2] ∧ Dp K H x (fracD l[i]) := by
  obtain ⟨d, hd, hp⟩ := dps_at2 h hx
  rw [List.getElem?_map] at hd
  obtain ⟨p, hp2, rfl⟩ := Option.map_eq_some_iff.mp hd
  obtain ⟨hi, e⟩ := List.getElem?_eq_some_iff.mp hp2
  obtain ⟨b, e2, hs⟩ := frac_at hp
  rw [← e] at hs hp
  exact ⟨hi, b, e2, hs, hp⟩
theorem prog_get {K : PySem.W.Frag} {H : Hp} {l : Prog} {xs : List V} {i : Nat} (h : DpAll K H xs (l.map fracD)) (hi : i < l.length) : ∃ b, xs[i]? = some (.ref b) ∧ SqT K H b [nI (l[i]).1, nI (l[i]).2] := by
  have hl : xs.length = l.length := by rw [dps_len h, List.length_map]
  have hx : xs[i]? = some (xs[i]'(by omega)) := List.getElem?_eq_getElem (by omega)
  obtain ⟨_, b, e, hs, _⟩ := prog_item h hx
  exact ⟨b, by rw [hx, e], hs⟩
theorem atI0 {x : V} {xs : List V} : atI (x :: xs) 0 = some x := atI_nat (j := 0) rfl
theorem atI1 {x y : V} {xs : List V} : atI (x :: y :: xs) 1 = some y := atI_nat (j := 1) rfl
theorem atIn {xs : List V} {i : Nat} {x : V} (h : xs[i]? = some x) : atI xs (i : Int) = some x := atI_nat h
def optV : Option Nat → V
  | none => .non
  | some a => nI a
def optD : Option Nat → PyData
  | none => .none
  | some a => nD a
theorem dp_opt {K : PySem.W.Frag} {H : Hp} (o : Option Nat) : Dp K H (optV o) (optD o) := by
  cases o with
  | none => exact .non
  | some a => exact .int _
/-- a def that refuses by C what is none -/
def spNeed (K : PySem.W.Frag) (C : Addr) (f : PyData → Bool) : Sp := fun vs H Q E => ∃ (v : V) (d : PyData), vs = [v] ∧ Dp K H v d ∧ (f d = true → ∀ H', Same H H' → Q .non H') ∧ (f d = false → ∀ H', Same H H' → E (.ref C) none H')
end Fr
namespace Fr
open PySem PySem.Spec PyProof.Rows L2
/-! ### the texts by their places -/
def topS (i : Nat) : Stmt := PySem.Challenge.pw_fractrows_k21_whole_lean.main.body.getD i (.Pass ⟨0, 0, 0, 0⟩)
abbrev s_parted : Stmt := topS 8
theorem sc_parted : FnScope ["number", "found", "prime", "many"] ["number"] (defScope s_parted) := ⟨rfl, rfl, rfl, by decide +kernel, rfl, by decide +kernel, by decide +kernel⟩
abbrev s_is_number : Stmt := topS 9
theorem sc_is_number : FnScope ["thing", "found", "left", "many"] ["thing"] (defScope s_is_number) := ⟨rfl, rfl, rfl, by decide +kernel, rfl, by decide +kernel, by decide +kernel⟩
abbrev s_need_number : Stmt := topS 10
theorem sc_need_number : FnScope ["number"] ["number"] (defScope s_need_number) := ⟨rfl, rfl, rfl, by decide +kernel, rfl, by decide +kernel, by decide +kernel⟩
abbrev s_common : Stmt := topS 14
theorem sc_common : FnScope ["one", "other"] ["one", "other"] (defScope s_common) := ⟨rfl, rfl, rfl, by decide +kernel, rfl, by decide +kernel, by decide +kernel⟩
abbrev s_is_fraction : Stmt := topS 15
theorem sc_is_fraction : FnScope ["thing", "one"] ["thing"] (defScope s_is_fraction) := ⟨rfl, rfl, rfl, by decide +kernel, rfl, by decide +kernel, by decide +kernel⟩
abbrev s_is_program : Stmt := topS 16
theorem sc_is_program : FnScope ["thing", "one"] ["thing"] (defScope s_is_program) := ⟨rfl, rfl, rfl, by decide +kernel, rfl, by decide +kernel, by decide +kernel⟩
abbrev s_need_program : Stmt := topS 17
theorem sc_need_program : FnScope ["program"] ["program"] (defScope s_need_program) := ⟨rfl, rfl, rfl, by decide +kernel, rfl, by decide +kernel, by decide +kernel⟩
abbrev s_first_at : Stmt := topS 18
theorem sc_first_at : FnScope ["program", "number", "place", "fraction"] ["program", "number"] (defScope s_first_at) := ⟨rfl, rfl, rfl, by decide +kernel, rfl, by decide +kernel, by decide +kernel⟩
abbrev s_led : Stmt := topS 19
theorem sc_led : FnScope ["program", "number", "place"] ["program", "number"] (defScope s_led) := ⟨rfl, rfl, rfl, by decide +kernel, rfl, by decide +kernel, by decide +kernel⟩
abbrev s_need_room : Stmt := topS 20
theorem sc_need_room : FnScope ["number"] ["number"] (defScope s_need_room) := ⟨rfl, rfl, rfl, by decide +kernel, rfl, by decide +kernel, by decide +kernel⟩
abbrev s_look : Stmt := topS 21
theorem sc_look : FnScope ["program", "number"] ["program", "number"] (defScope s_look) := ⟨rfl, rfl, rfl, by decide +kernel, rfl, by decide +kernel, by decide +kernel⟩
abbrev s_step : Stmt := topS 22
theorem sc_step : FnScope ["program", "number", "found"] ["program", "number"] (defScope s_step) := ⟨rfl, rfl, rfl, by decide +kernel, rfl, by decide +kernel, by decide +kernel⟩
abbrev s_idle : Stmt := topS 23
theorem sc_idle : FnScope ["program", "place"] ["program"] (defScope s_idle) := ⟨rfl, rfl, rfl, by decide +kernel, rfl, by decide +kernel, by decide +kernel⟩
abbrev s_lean : Stmt := topS 24
theorem sc_lean : FnScope ["program", "out", "place", "fraction"] ["program"] (defScope s_lean) := ⟨rfl, rfl, rfl, by decide +kernel, rfl, by decide +kernel, by decide +kernel⟩
abbrev s__law_cell : Stmt := topS 26
theorem sc__law_cell : FnScope ["script", "k"] ["script", "k"] (defScope s__law_cell) := ⟨rfl, rfl, rfl, by decide +kernel, rfl, by decide +kernel, by decide +kernel⟩
abbrev s__law_drawn : Stmt := topS 27
theorem sc__law_drawn : FnScope ["cell", "k", "more"] ["cell", "k"] (defScope s__law_drawn) := ⟨rfl, rfl, rfl, by decide +kernel, rfl, by decide +kernel, by decide +kernel⟩
abbrev s__law_primes : Stmt := topS 28
theorem sc__law_primes : FnScope [] [] (defScope s__law_primes) := ⟨rfl, rfl, rfl, by decide +kernel, rfl, by decide +kernel, by decide +kernel⟩
abbrev s__law_some : Stmt := topS 29
theorem sc__law_some : FnScope ["more", "primes", "most", "found", "j"] ["more", "primes", "most"] (defScope s__law_some) := ⟨rfl, rfl, rfl, by decide +kernel, rfl, by decide +kernel, by decide +kernel⟩
abbrev s__law_fraction : Stmt := topS 30
theorem sc__law_fraction : FnScope ["more", "primes", "top", "under", "prime"] ["more", "primes"] (defScope s__law_fraction) := ⟨rfl, rfl, rfl, by decide +kernel, rfl, by decide +kernel, by decide +kernel⟩
abbrev s__law_program : Stmt := topS 31
theorem sc__law_program : FnScope ["more", "primes", "found", "j", "one"] ["more", "primes"] (defScope s__law_program) := ⟨rfl, rfl, rfl, by decide +kernel, rfl, by decide +kernel, by decide +kernel⟩
abbrev s__law_step : Stmt := topS 32
theorem sc__law_step : FnScope ["program", "number", "place", "top", "under"] ["program", "number"] (defScope s__law_step) := ⟨rfl, rfl, rfl, by decide +kernel, rfl, by decide +kernel, by decide +kernel⟩
abbrev s_law : Stmt := topS 33
theorem sc_law : FnScope ["script", "k", "more", "program", "top", "under", "due", "place", "rest", "kept", "j", "number", "one", "first"] ["script"] (defScope s_law) := ⟨rfl, rfl, rfl, by decide +kernel, rfl, by decide +kernel, by decide +kernel⟩
/-! ### what stands behind the top -/
structure Txt (K : PySem.W.Frag) (mg : Str → Option Value) : Prop where
  b_isinstance : mg "isinstance" = none
  b_int : mg "int" = none
  b_bool : mg "bool" = none
  b_list : mg "list" = none
  b_tuple : mg "tuple" = none
  b_len : mg "len" = none
  b_all : mg "all" = none
  b_max : mg "max" = none
  b_min : mg "min" = none
  b_range : mg "range" = none
  b_enumerate : mg "enumerate" = none
  b_ValueError : mg "ValueError" = none
  d_parted : FnP K "parted" s_parted
  m_parted : mg "parted" = some (.ref (ga K "parted"))
  d_is_number : FnP K "is_number" s_is_number
  m_is_number : mg "is_number" = some (.ref (ga K "is_number"))
  d_need_number : FnP K "need_number" s_need_number
  m_need_number : mg "need_number" = some (.ref (ga K "need_number"))
  d_common : FnP K "common" s_common
  m_common : mg "common" = some (.ref (ga K "common"))
  d_is_fraction : FnP K "is_fraction" s_is_fraction
  m_is_fraction : mg "is_fraction" = some (.ref (ga K "is_fraction"))
  d_is_program : FnP K "is_program" s_is_program
  m_is_program : mg "is_program" = some (.ref (ga K "is_program"))
  d_need_program : FnP K "need_program" s_need_program
  m_need_program : mg "need_program" = some (.ref (ga K "need_program"))
  d_first_at : FnP K "first_at" s_first_at
  m_first_at : mg "first_at" = some (.ref (ga K "first_at"))
  d_led : FnP K "led" s_led
  m_led : mg "led" = some (.ref (ga K "led"))
  d_need_room : FnP K "need_room" s_need_room
  m_need_room : mg "need_room" = some (.ref (ga K "need_room"))
  d_look : FnP K "look" s_look
  m_look : mg "look" = some (.ref (ga K "look"))
  d_step : FnP K "step" s_step
  m_step : mg "step" = some (.ref (ga K "step"))
  d_idle : FnP K "idle" s_idle
  m_idle : mg "idle" = some (.ref (ga K "idle"))
  d_lean : FnP K "lean" s_lean
  m_lean : mg "lean" = some (.ref (ga K "lean"))
  d__law_cell : FnP K "_law_cell" s__law_cell
  m__law_cell : mg "_law_cell" = some (.ref (ga K "_law_cell"))
  d__law_drawn : FnP K "_law_drawn" s__law_drawn
  m__law_drawn : mg "_law_drawn" = some (.ref (ga K "_law_drawn"))
  d__law_primes : FnP K "_law_primes" s__law_primes
  m__law_primes : mg "_law_primes" = some (.ref (ga K "_law_primes"))
  d__law_some : FnP K "_law_some" s__law_some
  m__law_some : mg "_law_some" = some (.ref (ga K "_law_some"))
  d__law_fraction : FnP K "_law_fraction" s__law_fraction
  m__law_fraction : mg "_law_fraction" = some (.ref (ga K "_law_fraction"))
  d__law_program : FnP K "_law_program" s__law_program
  m__law_program : mg "_law_program" = some (.ref (ga K "_law_program"))
  d__law_step : FnP K "_law_step" s__law_step
  m__law_step : mg "_law_step" = some (.ref (ga K "_law_step"))
  d_law : FnP K "law" s_law
  m_law : mg "law" = some (.ref (ga K "law"))
  m_RowError : mg "RowError" = some (.ref (ga K "RowError"))
  x_RowError : PySem.W.excIn K (ga K "RowError") He.veBase "ValueError.__new__" = true ∧ PySem.W.keepIn K (.ref (ga K "RowError")) = true ∧ PySem.W.subIn K (.ref (ga K "RowError")) (.type "BaseException") = some true ∧ PySem.W.typeIn K (.ref (ga K "RowError")) = some (.type "type")
  m_BadNumber : mg "BadNumber" = some (.ref (ga K "BadNumber"))
  x_BadNumber : PySem.W.excIn K (ga K "BadNumber") He.veBase "ValueError.__new__" = true ∧ PySem.W.keepIn K (.ref (ga K "BadNumber")) = true ∧ PySem.W.subIn K (.ref (ga K "BadNumber")) (.type "BaseException") = some true ∧ PySem.W.typeIn K (.ref (ga K "BadNumber")) = some (.type "type")
  m_BadProgram : mg "BadProgram" = some (.ref (ga K "BadProgram"))
  x_BadProgram : PySem.W.excIn K (ga K "BadProgram") He.veBase "ValueError.__new__" = true ∧ PySem.W.keepIn K (.ref (ga K "BadProgram")) = true ∧ PySem.W.subIn K (.ref (ga K "BadProgram")) (.type "BaseException") = some true ∧ PySem.W.typeIn K (.ref (ga K "BadProgram")) = some (.type "type")
  m_TooGreat : mg "TooGreat" = some (.ref (ga K "TooGreat"))
  x_TooGreat : PySem.W.excIn K (ga K "TooGreat") He.veBase "ValueError.__new__" = true ∧ PySem.W.keepIn K (.ref (ga K "TooGreat")) = true ∧ PySem.W.subIn K (.ref (ga K "TooGreat")) (.type "BaseException") = some true ∧ PySem.W.typeIn K (.ref (ga K "TooGreat")) = some (.type "type")
  m_PRIMES : mg "PRIMES" = some (.ref (ga K "PRIMES"))
  t_PRIMES : ∀ H : Hp, SqT K H (ga K "PRIMES") [.int 2, .int 3, .int 5, .int 7, .int 11, .int 13, .int 17, .int 19, .int 23, .int 29, .int 31, .int 37]
  c_MOST_ROOM : ∃ t, mg "MOST_ROOM" = some (.int 400 t)
  c_MOST_FRACTIONS : ∃ t, mg "MOST_FRACTIONS" = some (.int 16 t)
  c_MOST_PART : ∃ t, mg "MOST_PART" = some (.int 1000000 t)
end Fr
namespace Fr
open PySem PySem.Spec PyProof.Rows L2
section
variable {P : Program} {w : World} {K : PySem.W.Frag} {mg : Str → Option Value} {base : Heap}
theorem Cal.mk0 {x : Str} {st : Stmt} {N ps : List Str} {k : Nat} {sp : Sp} (D : FnP K x st) (m : mg x = some (.ref (ga K x))) (S : FnScope N ps (defScope st))
    (hb : ∀ (kV doc pm : Value) (an : Option Addr) (cdv ct : Value) (us : List Value), us.length = ps.length → bindArgs (PySem.W.fnOf x x (defArgs st) (defBody st) (defScope st) .none kV doc pm an cdv ct) ⟨us, []⟩ = pure (ps.zip us))
    (len : ∀ vs H Q E, sp vs H Q E → vs.length = ps.length)
    (hbody : ∀ (cdv : Value) (A : Around) (outer : List Env) (s : Shared) (H : Hp) (vs : List V) (Q : VK) (E : XK), Room k (A.deeper (envOfC x (defScope st) s.heap.objs.size (ga K x) cdv)) → sp vs H Q E →
      ∃ t, PSs (cxOf L2.CX0 P w K mg base N x (defScope st) (ga K x) cdv A outer s H E).nox (defBody st) t ∧ t { nx := fun _ H' => Q .non H', rt := Q } (start N vs) H) : Cal P w K mg base L2.CX0 (k + 1) x ps sp := by
  refine ⟨D.ok S len fun cdv A outer s H vs Q E hr h => ?_, m, D.kp, D.bindsN hb⟩
  obtain ⟨t, h1, h2⟩ := hbody cdv A outer s H vs Q E hr h
  exact ⟨t, h1.nox, h2⟩
theorem Cal.mkX {x : Str} {st : Stmt} {N ps : List Str} {k : Nat} {sp : Sp} (D : FnP K x st) (m : mg x = some (.ref (ga K x))) (S : FnScope N ps (defScope st))
    (hb : ∀ (kV doc pm : Value) (an : Option Addr) (cdv ct : Value) (us : List Value), us.length = ps.length → bindArgs (PySem.W.fnOf x x (defArgs st) (defBody st) (defScope st) .none kV doc pm an cdv ct) ⟨us, []⟩ = pure (ps.zip us))
    (len : ∀ vs H Q E, sp vs H Q E → vs.length = ps.length)
    (hbody : ∀ (cdv : Value) (A : Around) (outer : List Env) (s : Shared) (H : Hp) (vs : List V) (Q : VK) (E : XK), Room k (A.deeper (envOfC x (defScope st) s.heap.objs.size (ga K x) cdv)) → sp vs H Q E →
      ∃ t, PSs (cxOf (L2N.CX P w) P w K mg base N x (defScope st) (ga K x) cdv A outer s H E) (defBody st) t ∧ t { nx := fun _ H' => Q .non H', rt := Q } (start N vs) H) : Cal P w K mg base (L2N.CX P w) (k + 1) x ps sp :=
  ⟨D.ok S len hbody, m, D.kp, D.bindsN hb⟩

/-! ### parted -/
def spParted : Sp := fun vs H Q _ => ∃ n : Nat, vs = [nI n] ∧ 0 < n ∧ ∀ p t H', Same H H' → H' t = some (.tup ((rooms n).map nI)) → H' p = some (.tup [.ref t, nI (left n)]) → Q (.ref p) H'
theorem ok_parted (T : Txt K mg) : Cal P w K mg base L2.CX0 1 "parted" ["number"] spParted := by
  refine Cal.mk0 T.d_parted T.m_parted sc_parted (fun _ _ _ _ _ _ us hl => match us, hl with | [_], _ => rfl) (fun vs H Q E h => ?_) (fun cdv A outer s H vs Q E hr h => ?_)
  · obtain ⟨n, rfl, _⟩ := h
    rfl
  obtain ⟨n, rfl, hn, q⟩ := h
  refine ⟨_, (pss_cons (ps_set (i := 1) sc_parted.nd rfl (.inl rfl) (pe_lst pa_nil))
      (pss_cons (ps_for PassesOwn.never rfl (piT rfl (pe_glob (v := .ref (ga K "PRIMES")) (by rfl) T.m_PRIMES rfl)) (pg_name (i := 2) sc_parted.nd rfl (.inl rfl)) (pss_cons (ps_set (i := 3) sc_parted.nd rfl (.inl rfl) pe_int)
      (pss_cons (ps_while PassesOwn.never (pt_cmpR opN_eq (pe_op opN_mod (pv 0) (pv 2)) pe_int (nomark _)) (pss_cons (ps_set (i := 0) sc_parted.nd rfl (.inl rfl) (pe_op opN_div (pv 0) (pv 2)))
      (pss_one (ps_set (i := 3) sc_parted.nd rfl (.inl rfl) (pe_op opN_add (pv 3) pe_int)))))
      (pss_one (ps_expr (bm rfl PySem.F.plainAttrs_list PySem.F.slot_list_append PySem.F.type_list_append mt_append (pv 1) (pa_cons (pv 3) pa_nil)))))))
      (pss_one (ps_ret (pe_tup (pa_cons (pe_callTy (tupleOf rfl) (by rfl) T.b_tuple boot_tuple (pa_cons (pv 1) pa_nil)) (pa_cons (pv 0) pa_nil))))))), ?_⟩
  refine ⟨Nat.zero_le _, fun o no => ?_⟩
  have hP : SqT K (upd H o (.lst [])) (ga K "PRIMES") (primes.map nI) := T.t_PRIMES _
  refine ⟨_, rfl, ⟨_, hP⟩, for_tup (xs := primes.map nI) (fun i σ H3 => ∃ y2 y3, σ = [some (nI (partL (primes.take i) n).2), some (.ref o), y2, y3] ∧ Same H H3 ∧ H3 o = some (.lst ((partL (primes.take i) n).1.map nI))) ?_ ?_ ?_ ?_⟩
  · exact ⟨none, none, rfl, same_new no, upd_same⟩
  · rintro i σ H3 _ _
    exact T.t_PRIMES _
  · rintro i x σ H3 hx ⟨y2, y3, rfl, sm, ho⟩
    rw [List.getElem?_map] at hx
    obtain ⟨p, hp, rfl⟩ := Option.map_eq_some_iff.mp hx
    have hp2 : 2 ≤ p := primes_two p (List.mem_of_getElem? hp)
    have hps : p < 64 := primes_small p (List.mem_of_getElem? hp)
    have hm : 0 < (partL (primes.take i) n).2 := partL_pos _ (fun r hr => primes_two r (List.mem_of_mem_take hr)) n hn
    rw [take_at hp, partL_snoc]
    generalize hA : partL (primes.take i) n = A at *
    refine ⟨fun m σ H4 => ∃ x k : Nat, σ = [some (nI x), some (.ref o), some (nI p), some (nI k)] ∧ H4 = H3 ∧ 0 < x ∧ x = m ∧ (strip p A.2).1 = k + (strip p x).1 ∧ (strip p A.2).2 = (strip p x).2, ⟨_, A.2, 0, rfl, rfl, hm, rfl, by omega, rfl⟩, ?_⟩
    rintro m σ H4 ⟨x, k, rfl, rfl, hx0, rfl, e1, e2⟩
    refine ⟨_, rfl, _, rfl, x, p, rfl, rfl, by omega, _, 0, rfl, rfl, _, rfl, ite2 (fun hd => ?_) (fun hd => ?_)⟩
    · have hd := of_decide_eq_true hd
      obtain ⟨f1, f2, f3⟩ := strip_yes hd hp2 hx0
      refine ⟨fun σ' H' => ∃ x' k' : Nat, x' < x ∧ σ' = [some (nI x'), some (.ref o), some (nI p), some (nI k')] ∧ H' = H4 ∧ 0 < x' ∧ (strip p A.2).1 = k' + (strip p x').1 ∧ (strip p A.2).2 = (strip p x').2, ?_, ?_⟩
      · rintro σ' H' ⟨x', k', h1, h2, h3, h4, h5, h6⟩
        exact ⟨x', h1, x', k', h2, h3, h4, rfl, h5, h6⟩
      · refine ⟨_, rfl, _, rfl, x, p, rfl, rfl, ⟨by omega, ?_⟩, _, rfl, k, 1, rfl, rfl, x / p, k + 1, f3, rfl, rfl, f2, ?_, ?_⟩
        · exact Nat.lt_of_lt_of_le (PySem.Flt.log2_lt_of (by decide) (show p < 2 ^ 6 by omega)) (by decide)
        · rw [e1, f1]; show k + ((strip p (x / p)).1 + 1) = _; omega
        · rw [e2, f1]
    · have hd : ¬ x % p = 0 := fun z => hd (decide_eq_true z)
      rw [strip_no hd hp2] at e1 e2
      refine ⟨_, rfl, .inl ⟨rfl, _, SqL.of ho⟩, _, rfl, o, _, _, rfl, rfl, ho, ?_, ?_⟩
      · rw [List.length_map, ← hA, partL_len]
        exact Nat.lt_of_le_of_lt (List.length_take_le' _ _) (by decide)
      · refine ⟨some (nI p), some (nI k), ?_, same_put sm no, ?_⟩
        · rw [e2]
        · rw [upd_same, e1, List.map_append]
          rfl
  · rintro σ H3 ⟨y2, y3, rfl, sm, ho⟩
    have ep : primes.take (primes.map nI).length = primes := rfl
    rw [ep] at ho ⊢
    refine ⟨_, rfl, o, _, rfl, .inl ⟨SqL.of ho, fun t nt => ?_⟩⟩
    refine ⟨_, rfl, (by show 2 ≤ sizeLine; decide), fun p np => ?_⟩
    have ntp : t ≠ p := ne_of_none upd_same np
    exact q p t _ ((sm.trans (same_new nt)).trans (same_new np)) (by rw [upd_ne ntp, upd_same, rooms_def]) (by rw [upd_same, left_def])
end
end Fr
namespace Fr
open PySem PySem.Spec PyProof.Rows L2
section
variable {P : Program} {w : World} {K : PySem.W.Frag} {mg : Str → Option Value} {base : Heap}
/-! ### is_number -/
def spIsNumber (K : PySem.W.Frag) : Sp := fun vs H Q _ => ∃ (v : V) (d : PyData), vs = [v] ∧ Dp K H v d ∧ ∀ H', Same H H' → Q (.bl (isNumD d)) H'
theorem all_le (as : List Nat) : ((as.map fun a => decide (a ≤ 400)).all id) = as.all fun a => decide (a ≤ 400) := by
  rw [List.all_map]
  rfl
theorem isNum_eq {n : Nat} (h : 1 ≤ n) : isNum n = (decide (left n = 1) && (rooms n).all fun a => decide (a ≤ 400)) := by
  unfold isNum
  rw [decide_eq_true h, Bool.true_and]
theorem ok_is_number (T : Txt K mg) : Cal P w K mg base L2.CX0 2 "is_number" ["thing"] (spIsNumber K) := by
  have c_parted := ok_parted (P := P) (w := w) (base := base) T
  refine Cal.mk0 T.d_is_number T.m_is_number sc_is_number (fun _ _ _ _ _ _ us hl => match us, hl with | [_], _ => rfl) (fun vs H Q E h => ?_) (fun cdv A outer s H vs Q E hr h => ?_)
  · obtain ⟨v, d, rfl, _⟩ := h
    rfl
  obtain ⟨v, d, rfl, hd, q⟩ := h
  refine ⟨_, (pss_cons (ps_if (PW.pt (pw_or (pt_not (pt_val (pe_callB (isInt rfl) (by rfl) T.b_isinstance boot_isinstance (pa_cons (pv 0) (pa_cons (pe_bltn (v := .ty "int") (by rfl) T.b_int boot_int rfl) pa_nil))))) (pw_or (pt_val (pe_callB (isBool rfl) (by rfl) T.b_isinstance boot_isinstance (pa_cons (pv 0) (pa_cons (pe_bltn (v := .ty "bool") (by rfl) T.b_bool boot_bool rfl) pa_nil)))) (pw_or1 (pt_cmpR op_lt (pv 0) pe_int (nomark _)))))) (pss_one (ps_ret pe_bl)) pss_nil)
      (pss_cons (ps_asg (pe_cal c_parted (hr.mono (by decide)) (by rfl) pass0 (pa_cons (pv 0) pa_nil)) (pgT (n := 2) rfl rfl (pgs_cons (pg_name (i := 1) sc_is_number.nd rfl (.inl rfl)) (pgs_cons (pg_name (i := 2) sc_is_number.nd rfl (.inl rfl)) pgs_nil))))
      (pss_one (ps_ret (pe_and (pe_cmpR opN_eq (pv 2) pe_int (nomark _)) (pe_one (pe_callB (crAll rfl rfl) (by rfl) T.b_all boot_all (pa_cons (pe_lc (own := [("many", 3)]) rfl sc_is_number.nd (piT rfl (pv 1)) (blkOk_by (own := [("many", 3)]) (N := ["thing", "found", "left", "many"]) (sc := defScope s_is_number) (by decide +kernel)) (fun _ _ _ _ _ => (pg_name (i := 3) sc_is_number.nd rfl (.inl rfl))) (fun _ _ _ _ _ => pts_nil) (fun _ _ _ _ _ => (pe_cmpR opN_le (pv 3) (pe_glob (v := .int 400) (by rfl) T.c_MOST_ROOM.choose_spec ⟨_, rfl⟩) (nomark _)))) pa_nil)))))))), ?_⟩
  refine ⟨_, rfl, _, _, rfl, hd, _, rfl, ?_⟩
  have q0 := q H (Same.refl H)
  cases d with
  | int i =>
    cases hd
    refine iteF ⟨_, rfl, _, _, rfl, .int i, _, rfl, iteF ⟨_, rfl, i, 1, rfl, rfl, _, rfl, ite2 (fun h1 => ?_) (fun h1 => ?_)⟩⟩
    · have h1 := of_decide_eq_true h1
      have e : isNumD (.int i) = false := by
        show (decide (1 ≤ i) && isNum i.toNat) = false
        rw [decide_eq_false (by omega), Bool.false_and]
      rw [e] at q0
      exact q0
    · have h1 : 1 ≤ i := by
        have : ¬ i < 1 := fun z => h1 (decide_eq_true z)
        omega
      obtain ⟨n, rfl⟩ : ∃ n : Nat, i = n := ⟨i.toNat, by omega⟩
      refine ⟨_, rfl, n, rfl, by omega, fun p t H1 sm ht hp => ?_⟩
      have e : isNumD (.int (n : Int)) = (decide (left n = 1) && (rooms n).all fun a => decide (a ≤ 400)) := by
        show (decide (1 ≤ (n : Int)) && isNum (n : Int).toNat) = _
        rw [decide_eq_true h1, Bool.true_and, Int.toNat_natCast, isNum_eq (by omega)]
      rw [e] at q
      refine ⟨p, _, rfl, SqT.of hp, rfl, _, _, rfl, _, _, rfl, rfl, ?_⟩
      refine ⟨_, rfl, left n, 1, rfl, rfl, _, rfl, ite2 (fun h2 => ?_) (fun h2 => ?_)⟩
      · rw [h2, Bool.true_and] at q
        refine ⟨_, rfl, t, rfl, ⟨_, SqT.of ht⟩, fun D hD => ?_⟩
        refine lc_dp (K := K) walk_tup hD (by rw [List.length_map, rooms_len]; decide) (fun H' s' => same_tup s' (SqT.of ht)) (fun i => ((rooms n)[i]?).map fun a => PyData.bool (decide (a ≤ 400))) ?_ ?_ ?_
        · intro i d e
          obtain ⟨a, _, rfl⟩ := Option.map_eq_some_iff.mp e
          rfl
        · rintro i x H' H'' A B hi s' ⟨rfl, hx⟩ hA hB
          rw [List.getElem?_map] at hx
          obtain ⟨a, ha, rfl⟩ := Option.map_eq_some_iff.mp hx
          exact ⟨rfl, _, rfl, a, 400, rfl, rfl, hA _ _ _ (by rw [ha]; rfl) (Same.refl _) (.bl _)⟩
        · intro H' ys s' hD' hA
          rw [List.length_map, gath_map] at hA
          have e2 : ys = ((rooms n).map fun a => decide (a ≤ 400)).map V.bl := dps_bools (by rw [List.map_map]; exact hA)
          rw [e2] at hD'
          refine ⟨D, _, rfl, SqL.of hD', ?_⟩
          rw [all_le]
          exact q H' (sm.trans s')
      · rw [show decide (left n = 1) = false by simpa using h2, Bool.false_and] at q
        exact q H1 sm
  | bool b =>
    cases hd
    exact iteF ⟨_, rfl, _, _, rfl, .bl b, _, rfl, iteT (iteT q0)⟩
  | none => exact iteT (iteT q0)
  | str x => exact iteT (iteT q0)
  | list xs => exact iteT (iteT q0)
  | tuple xs => exact iteT (iteT q0)
  | dict xs => exact iteT (iteT q0)
end
end Fr
namespace Fr
open PySem PySem.Spec PyProof.Rows L2
section
variable {P : Program} {w : World} {K : PySem.W.Frag} {mg : Str → Option Value} {base : Heap}
theorem ok_need_number (T : Txt K mg) : Cal P w K mg base (L2N.CX P w) 3 "need_number" ["number"] (spNeed K (ga K "BadNumber") isNumD) := by
  have c_is_number := ok_is_number (P := P) (w := w) (base := base) T
  refine Cal.mkX T.d_need_number T.m_need_number sc_need_number (fun _ _ _ _ _ _ us hl => match us, hl with | [_], _ => rfl) (fun vs H Q E h => ?_) (fun cdv A outer s H vs Q E hr h => ?_)
  · obtain ⟨v, d, rfl, _⟩ := h
    rfl
  obtain ⟨v, d, rfl, hd, q1, q2⟩ := h
  refine ⟨_, (pss_one (ps_if (pt_not (pt_val (pe_cal c_is_number (hr.mono (by decide)) (by rfl) pass0 (pa_cons (pv 0) pa_nil)))) (pss_one (L2N.ps_raise rfl (L2N.takes_of rfl rfl rfl rfl) (L2N.pmk_own PySem.F.excBase_ValueError T.x_BadNumber.1 T.m_BadNumber T.x_BadNumber.2.1 (raises_own T.x_BadNumber.2.2.1 T.x_BadNumber.2.2.2) (by rfl)))) pss_nil)), ?_⟩
  refine ⟨_, rfl, v, d, rfl, hd, fun H1 s1 => ⟨_, rfl, ?_⟩⟩
  cases e : isNumD d with
  | true => exact iteF (q1 e H1 s1)
  | false => exact iteT (q2 e H1 s1)
end
end Fr
namespace Fr
open PySem PySem.Spec PyProof.Rows L2
section
variable {P : Program} {w : World} {K : PySem.W.Frag} {mg : Str → Option Value} {base : Heap}
/-! ### common -/
def spCommon : Sp := fun vs H Q _ => ∃ a b : Nat, vs = [nI a, nI b] ∧ Q (nI (Nat.gcd a b)) H
theorem gcd_step (a b : Nat) : Nat.gcd b (a % b) = Nat.gcd a b := by
  rw [Nat.gcd_comm b (a % b), ← Nat.gcd_rec, Nat.gcd_comm]
theorem ok_common (T : Txt K mg) : Cal P w K mg base L2.CX0 1 "common" ["one", "other"] spCommon := by
  refine Cal.mk0 T.d_common T.m_common sc_common (fun _ _ _ _ _ _ us hl => match us, hl with | [_, _], _ => rfl) (fun vs H Q E h => ?_) (fun cdv A outer s H vs Q E hr h => ?_)
  · obtain ⟨a, b, rfl, _⟩ := h
    rfl
  obtain ⟨a, b, rfl, q⟩ := h
  refine ⟨_, (pss_cons (ps_while PassesOwn.never (pt_cmpR opN_ne (pv 1) pe_int (nomark _)) (pss_one (ps_par (i := 0) (j := 1) (by rfl) sc_common.nd rfl rfl (by decide) rfl rfl (pa_cons (pv 1) (pa_cons (pe_op opN_mod (pv 0) (pv 1)) pa_nil)) (by rfl))))
      (pss_one (ps_ret (pv 0)))), ?_⟩
  refine ⟨fun m σ H3 => ∃ x : Nat, σ = [some (nI x), some (nI m)] ∧ H3 = H ∧ Nat.gcd x m = Nat.gcd a b, ⟨b, a, rfl, rfl, rfl⟩, ?_⟩
  rintro m σ H3 ⟨x, rfl, rfl, e⟩
  refine ⟨_, rfl, m, 0, rfl, rfl, _, rfl, ?_⟩
  by_cases h : m = 0
  · subst h
    refine iteF ⟨_, rfl, ?_⟩
    rw [Nat.gcd_zero_right] at e
    show Q (nI x) H3
    rw [e]
    exact q
  · rw [decide_eq_false h]
    refine iteT ⟨fun σ' H' => σ' = [some (nI m), some (nI (x % m))] ∧ H' = H3, ?_, ?_⟩
    · rintro σ' H' ⟨h1, h2⟩
      exact ⟨x % m, Nat.mod_lt _ (by omega), m, h1, h2, by rw [gcd_step, e]⟩
    · exact ⟨_, rfl, _, rfl, _, rfl, x, m, rfl, rfl, by omega, _, _, rfl, rfl, rfl⟩
/-! ### is_fraction -/
def spIs (K : PySem.W.Frag) (f : PyData → Bool) : Sp := fun vs H Q _ => ∃ (v : V) (d : PyData), vs = [v] ∧ Dp K H v d ∧ ∀ H', Same H H' → Q (.bl (f d)) H'
theorem ok_is_fraction (T : Txt K mg) : Cal P w K mg base L2.CX0 3 "is_fraction" ["thing"] (spIs K isFracD) := by
  have c_is_number := ok_is_number (P := P) (w := w) (base := base) T
  have c_common := ok_common (P := P) (w := w) (base := base) T
  refine Cal.mk0 T.d_is_fraction T.m_is_fraction sc_is_fraction (fun _ _ _ _ _ _ us hl => match us, hl with | [_], _ => rfl) (fun vs H Q E h => ?_) (fun cdv A outer s H vs Q E hr h => ?_)
  · obtain ⟨v, d, rfl, _⟩ := h
    rfl
  obtain ⟨v, d, rfl, hd, q⟩ := h
  refine ⟨_, (pss_cons (ps_if (PW.pt (pw_or (pt_not (pt_val (pe_callB (isTuple rfl) (by rfl) T.b_isinstance boot_isinstance (pa_cons (pv 0) (pa_cons (pe_bltn (v := .ty "tuple") (by rfl) T.b_tuple boot_tuple rfl) pa_nil))))) (pw_or (pt_cmpR opN_ne (pe_callB (lenS rfl) (by rfl) T.b_len PySem.boot_len (pa_cons (pv 0) pa_nil)) pe_int (nomark _)) (pw_or1 (pt_not (pt_val (pe_callB (crAll rfl rfl) (by rfl) T.b_all boot_all (pa_cons (pe_lc (own := [("one", 1)]) rfl sc_is_fraction.nd (piT rfl (pv 0)) (blkOk_by (own := [("one", 1)]) (N := ["thing", "one"]) (sc := defScope s_is_fraction) (by decide +kernel)) (fun _ _ _ _ _ => (pg_name (i := 1) sc_is_fraction.nd rfl (.inl rfl))) (fun _ _ _ _ _ => pts_nil) (fun _ _ _ _ _ => (pe_cal c_is_number (hr.mono (by decide)) (by rfl) pass0 (pa_cons (pv 1) pa_nil)))) pa_nil)))))))) (pss_one (ps_ret pe_bl)) pss_nil)
      (pss_one (ps_ret (pe_and (pe_cmpR opN_le (pe_callB (crMaxT rfl rfl (hu_of hr)) (by rfl) T.b_max boot_max (pa_cons (pv 0) pa_nil)) (pe_glob (v := .int 1000000) (by rfl) T.c_MOST_PART.choose_spec ⟨_, rfl⟩) (nomark _)) (pe_one (pe_cmpR opN_eq (pe_cal c_common (hr.mono (by decide)) (by rfl) pass0 (pa_cons (pe_ix (ixT rfl) (pv 0) pe_int (fun _ _ => rfl)) (pa_cons (pe_ix (ixT rfl) (pv 0) pe_int (fun _ _ => rfl)) pa_nil))) pe_int (nomark _))))))), ?_⟩
  refine ⟨_, rfl, _, _, rfl, hd, _, rfl, ?_⟩
  have q0 := q H (Same.refl H)
  cases d with
  | tuple ds =>
    cases hd with
    | @tup a xs _ hs ha =>
      have hlen := dps_len ha
      refine iteF ⟨_, rfl, a, xs, rfl, .inr hs, xs.length, 2, rfl, rfl, _, rfl, ?_⟩
      by_cases h2 : xs.length = 2
      · rw [decide_eq_true h2]
        refine iteF ⟨_, rfl, a, rfl, ⟨_, hs⟩, fun D hD => ?_⟩
        refine lc_dp (K := K) walk_tup hD (by rw [h2]; decide) (fun H' s' => same_tup s' hs) (fun i => ds[i]?.map fun d => PyData.bool (isNumD d)) ?_ ?_ ?_
        · intro i d e
          obtain ⟨a, _, rfl⟩ := Option.map_eq_some_iff.mp e
          rfl
        · rintro i x H' H'' A B hi s' ⟨rfl, hx⟩ hA hB
          obtain ⟨d, hd, hp⟩ := dps_at2 ha hx
          exact ⟨rfl, _, rfl, x, d, rfl, same_dp s' hp, fun H4 s4 => hA _ _ _ (by rw [hd]; rfl) s4 (.bl _)⟩
        · intro H' ys s' hD' hA
          rw [hlen, gath_map] at hA
          have e2 : ys = (ds.map isNumD).map V.bl := dps_bools (by rw [List.map_map]; exact hA)
          rw [e2] at hD'
          obtain ⟨x, y, rfl⟩ : ∃ x y, ds = [x, y] := by
            match ds, hlen with
            | [x, y], _ => exact ⟨x, y, rfl⟩
            | [], h => rw [h2] at h; cases h
            | [_], h => rw [h2] at h; cases h
            | _ :: _ :: _ :: _, h => rw [h2] at h; simp at h
          refine ⟨D, [isNumD x, isNumD y], rfl, SqL.of hD', _, rfl, ?_⟩
          have e3 : ([isNumD x, isNumD y].all id) = (isNumD x && isNumD y) := by simp
          rw [e3]
          cases hxy : (isNumD x && isNumD y) with
          | false =>
            have e4 : isFracD (.tuple [x, y]) = false := by
              show ((isNumD x && isNumD y) && _) = false
              rw [hxy, Bool.false_and]
            rw [e4] at q
            exact iteT (q H' s')
          | true =>
            obtain ⟨hx, hy⟩ := Bool.and_eq_true_iff.mp hxy
            obtain ⟨n, rfl, _⟩ := isNumD_is hx
            obtain ⟨m, rfl, _⟩ := isNumD_is hy
            have exs : xs = [n, m].map nI := dps_nats (ns := [n, m]) ha
            have hs' : SqT K H' a ([n, m].map nI) := by rw [← exs]; exact same_tup s' hs
            have e4 : isFracD (.tuple [nD n, nD m]) = (decide (max n m ≤ 1000000) && decide (Nat.gcd n m = 1)) := by
              show ((isNumD (nD n) && isNumD (nD m)) && (decide (max (n : Int).toNat (m : Int).toNat ≤ 1000000) && decide (Nat.gcd (n : Int).toNat (m : Int).toNat = 1))) = _
              rw [hxy, Bool.true_and, Int.toNat_natCast, Int.toNat_natCast]
            rw [e4] at q
            refine iteF ⟨_, rfl, a, [n, m], rfl, hs', by simp, maxN [n, m], 1000000, rfl, rfl, _, rfl, ?_⟩
            have e5 : maxN [n, m] = max n m := by simp [maxN]
            rw [e5]
            cases hmx : decide (max n m ≤ 1000000) with
            | false =>
              rw [hmx, Bool.false_and] at q
              exact iteF (q H' s')
            | true =>
              rw [hmx, Bool.true_and] at q
              refine iteT ⟨_, rfl, a, _, 0, _, rfl, rfl, hs', atI0, _, rfl, a, _, 1, _, rfl, rfl, hs', atI1, n, m, rfl, Nat.gcd n m, 1, rfl, rfl, ?_⟩
              exact q H' s'
      · rw [decide_eq_false h2]
        have e : isFracD (.tuple ds) = false := by
          match ds, hlen with
          | [], _ => rfl
          | [_], _ => rfl
          | [_, _], h => exact absurd h h2
          | _ :: _ :: _ :: _, _ => rfl
        rw [e] at q0
        exact iteT (iteT q0)
  | none => exact iteT (iteT q0)
  | bool b => exact iteT (iteT q0)
  | int i => exact iteT (iteT q0)
  | str x => exact iteT (iteT q0)
  | list xs => exact iteT (iteT q0)
  | dict xs => exact iteT (iteT q0)
/-! ### is_program -/
theorem ok_is_program (T : Txt K mg) : Cal P w K mg base L2.CX0 4 "is_program" ["thing"] (spIs K isProgD) := by
  have c_is_fraction := ok_is_fraction (P := P) (w := w) (base := base) T
  refine Cal.mk0 T.d_is_program T.m_is_program sc_is_program (fun _ _ _ _ _ _ us hl => match us, hl with | [_], _ => rfl) (fun vs H Q E h => ?_) (fun cdv A outer s H vs Q E hr h => ?_)
  · obtain ⟨v, d, rfl, _⟩ := h
    rfl
  obtain ⟨v, d, rfl, hd, q⟩ := h
  refine ⟨_, (pss_cons (ps_if (PW.pt (pw_or (pt_not (pt_val (pe_callB (isList rfl) (by rfl) T.b_isinstance boot_isinstance (pa_cons (pv 0) (pa_cons (pe_bltn (v := .ty "list") (by rfl) T.b_list boot_list rfl) pa_nil))))) (pw_or1 (pt_cmpR opN_gt (pe_callB (lenS rfl) (by rfl) T.b_len PySem.boot_len (pa_cons (pv 0) pa_nil)) (pe_glob (v := .int 16) (by rfl) T.c_MOST_FRACTIONS.choose_spec ⟨_, rfl⟩) (nomark _))))) (pss_one (ps_ret pe_bl)) pss_nil)
      (pss_one (ps_ret (pe_callB (crAll rfl rfl) (by rfl) T.b_all boot_all (pa_cons (pe_lc (own := [("one", 1)]) rfl sc_is_program.nd (piL rfl (pv 0)) (blkOk_by (own := [("one", 1)]) (N := ["thing", "one"]) (sc := defScope s_is_program) (by decide +kernel)) (fun _ _ _ _ _ => (pg_name (i := 1) sc_is_program.nd rfl (.inl rfl))) (fun _ _ _ _ _ => pts_nil) (fun _ _ _ _ _ => (pe_cal c_is_fraction (hr.mono (by decide)) (by rfl) pass0 (pa_cons (pv 1) pa_nil)))) pa_nil))))), ?_⟩
  refine ⟨_, rfl, _, _, rfl, hd, _, rfl, ?_⟩
  have q0 := q H (Same.refl H)
  cases d with
  | list ds =>
    cases hd with
    | @lst a xs _ hs ha =>
      have hlen := dps_len ha
      refine iteF ⟨_, rfl, a, xs, rfl, .inl hs, xs.length, 16, rfl, rfl, _, rfl, ?_⟩
      have e0 : isProgD (.list ds) = (decide (ds.length ≤ 16) && ds.all isFracD) := rfl
      by_cases h2 : 16 < xs.length
      · rw [decide_eq_true h2]
        rw [e0, decide_eq_false (by omega), Bool.false_and] at q0
        exact iteT q0
      · rw [decide_eq_false h2]
        rw [e0, decide_eq_true (by omega), Bool.true_and] at q
        refine iteF ⟨_, rfl, a, rfl, ⟨_, hs⟩, fun D hD => ?_⟩
        refine lc_dp (K := K) walk_list hD (by omega) (fun H' s' => s'.seq hs) (fun i => ds[i]?.map fun d => PyData.bool (isFracD d)) ?_ ?_ ?_
        · intro i d e
          obtain ⟨a, _, rfl⟩ := Option.map_eq_some_iff.mp e
          rfl
        · rintro i x H' H'' A B hi s' ⟨rfl, hx⟩ hA hB
          obtain ⟨d, hd, hp⟩ := dps_at2 ha hx
          exact ⟨rfl, _, rfl, x, d, rfl, same_dp s' hp, fun H4 s4 => hA _ _ _ (by rw [hd]; rfl) s4 (.bl _)⟩
        · intro H' ys s' hD' hA
          rw [hlen, gath_map] at hA
          have e2 : ys = (ds.map isFracD).map V.bl := dps_bools (by rw [List.map_map]; exact hA)
          rw [e2] at hD'
          refine ⟨D, ds.map isFracD, rfl, SqL.of hD', ?_⟩
          have e3 : ((ds.map isFracD).all id) = ds.all isFracD := by rw [List.all_map]; rfl
          rw [e3]
          exact q H' s'
  | none => exact iteT (iteT q0)
  | bool b => exact iteT (iteT q0)
  | int i => exact iteT (iteT q0)
  | str x => exact iteT (iteT q0)
  | tuple xs => exact iteT (iteT q0)
  | dict xs => exact iteT (iteT q0)
theorem ok_need_program (T : Txt K mg) : Cal P w K mg base (L2N.CX P w) 5 "need_program" ["program"] (spNeed K (ga K "BadProgram") isProgD) := by
  have c_is_program := ok_is_program (P := P) (w := w) (base := base) T
  refine Cal.mkX T.d_need_program T.m_need_program sc_need_program (fun _ _ _ _ _ _ us hl => match us, hl with | [_], _ => rfl) (fun vs H Q E h => ?_) (fun cdv A outer s H vs Q E hr h => ?_)
  · obtain ⟨v, d, rfl, _⟩ := h
    rfl
  obtain ⟨v, d, rfl, hd, q1, q2⟩ := h
  refine ⟨_, (pss_one (ps_if (pt_not (pt_val (pe_cal c_is_program (hr.mono (by decide)) (by rfl) pass0 (pa_cons (pv 0) pa_nil)))) (pss_one (L2N.ps_raise rfl (L2N.takes_of rfl rfl rfl rfl) (L2N.pmk_own PySem.F.excBase_ValueError T.x_BadProgram.1 T.m_BadProgram T.x_BadProgram.2.1 (raises_own T.x_BadProgram.2.2.1 T.x_BadProgram.2.2.2) (by rfl)))) pss_nil)), ?_⟩
  refine ⟨_, rfl, v, d, rfl, hd, fun H1 s1 => ⟨_, rfl, ?_⟩⟩
  cases e : isProgD d with
  | true => exact iteF (q1 e H1 s1)
  | false => exact iteT (q2 e H1 s1)
end
end Fr
namespace Fr
open PySem PySem.Spec PyProof.Rows L2
section
variable {P : Program} {w : World} {K : PySem.W.Frag} {mg : Str → Option Value} {base : Heap}
/-! ### first_at -/
def spFirst (K : PySem.W.Frag) : Sp := fun vs H Q _ => ∃ (v : V) (l : Prog) (n : Nat), vs = [v, nI n] ∧ Dp K H v (progD l) ∧ (∀ p ∈ l, 0 < p.2) ∧ ∀ H', Same H H' → Q (optV (firstAt l n)) H'
theorem ok_first_at (T : Txt K mg) : Cal P w K mg base L2.CX0 1 "first_at" ["program", "number"] (spFirst K) := by
  refine Cal.mk0 T.d_first_at T.m_first_at sc_first_at (fun _ _ _ _ _ _ us hl => match us, hl with | [_, _], _ => rfl) (fun vs H Q E h => ?_) (fun cdv A outer s H vs Q E hr h => ?_)
  · obtain ⟨v, l, n, rfl, _⟩ := h
    rfl
  obtain ⟨v, l, n, rfl, hd, hpos, q⟩ := h
  obtain ⟨a, xs, rfl, hs, ha, hlen⟩ := prog_at hd
  refine ⟨_, (pss_cons (ps_for PassesOwn.never rfl (piE rfl (by rfl) T.b_enumerate (pa_cons (pv 0) pa_nil)) (pgT (n := 2) rfl rfl (pgs_cons (pg_name (i := 2) sc_first_at.nd rfl (.inl rfl)) (pgs_cons (pg_name (i := 3) sc_first_at.nd rfl (.inl rfl)) pgs_nil))) (pss_one (ps_if (pt_cmpR opN_eq (pe_op opN_mod (pv 1) (pe_ix (ixT rfl) (pv 3) pe_int (fun _ _ => rfl))) pe_int (nomark _)) (pss_one (ps_ret (pv 2))) pss_nil)))
      (pss_one (ps_ret pe_non))), ?_⟩
  refine ⟨_, rfl, a, xs, rfl, hs, for_it walk_enum (fun i σ H3 => (∃ y2 y3, σ = [some (.ref a), some (nI n), y2, y3]) ∧ Same H H3 ∧ ∀ (j : Nat) (hj : j < l.length), j < i → n % (l[j]).2 ≠ 0) ⟨⟨none, none, rfl⟩, Same.refl H, fun j hj h => absurd h (by omega)⟩ (fun i σ H3 _ p => p.2.1.seq hs) ?_ ?_⟩
  · rintro i x σ H3 H4 hi ⟨⟨y2, y3, rfl⟩, sm, hb⟩ ⟨T', x1, x2, rfl, nT, rfl, e1, e2⟩
    have e1 : x1 = nI i := (Option.some.inj e1).symm
    subst e1
    have sT : Same H3 (upd H3 T' (.tup [nI i, x2])) := same_new nT
    obtain ⟨hi', b, rfl, hb2, _⟩ := prog_item (same_dps (sm.trans sT) ha) e2
    refine ⟨T', _, rfl, SqT.of upd_same, rfl, _, _, rfl, _, _, rfl, rfl, ?_⟩
    refine ⟨_, rfl, _, rfl, b, _, 1, _, rfl, rfl, hb2, atI1, n, (l[i]).2, rfl, rfl, hpos _ (List.getElem_mem hi'), _, 0, rfl, rfl, _, rfl, ?_⟩
    by_cases hf : n % (l[i]).2 = 0
    · rw [decide_eq_true hf]
      refine iteT ⟨_, rfl, ?_⟩
      have e := firstAt_some hi' hf fun j hj hji => hb j hj hji
      rw [e] at q
      exact q _ (sm.trans sT)
    · rw [decide_eq_false hf]
      refine iteF ⟨⟨_, _, rfl⟩, sm.trans sT, fun j hj hji => ?_⟩
      by_cases hji2 : j = i
      · subst hji2
        exact hf
      · exact hb j hj (by omega)
  · rintro σ H3 ⟨⟨y2, y3, rfl⟩, sm, hb⟩
    have e : firstAt l n = none := firstAt_none fun j hj => hb j hj (by omega)
    rw [e] at q
    exact q H3 sm
/-! ### led -/
def spLed (K : PySem.W.Frag) : Sp := fun vs H Q _ => ∃ (v : V) (l : Prog) (n : Nat), vs = [v, nI n] ∧ Dp K H v (progD l) ∧ isProg l = true ∧ n < 2 ^ 30000 ∧ ∀ H', Same H H' → Q (optV (led l n)) H'
theorem lt_log2 {n k j : Nat} (h : n < 2 ^ k) (hk : 0 < k) (hj : k ≤ j) : n.log2 < j := Nat.lt_of_lt_of_le (log2_lt' hk h) hj
theorem mil_lt {n : Nat} (h : n ≤ 1000000) : n < 2 ^ 20 := by omega
theorem ok_led (T : Txt K mg) : Cal P w K mg base L2.CX0 2 "led" ["program", "number"] (spLed K) := by
  have c_first_at := ok_first_at (P := P) (w := w) (base := base) T
  refine Cal.mk0 T.d_led T.m_led sc_led (fun _ _ _ _ _ _ us hl => match us, hl with | [_, _], _ => rfl) (fun vs H Q E h => ?_) (fun cdv A outer s H vs Q E hr h => ?_)
  · obtain ⟨v, l, n, rfl, _⟩ := h
    rfl
  obtain ⟨v, l, n, rfl, hd, hP, hn, q⟩ := h
  refine ⟨_, (pss_cons (ps_set (i := 2) sc_led.nd rfl (.inl rfl) (pe_cal c_first_at (hr.mono (by decide)) (by rfl) pass0 (pa_cons (pv 0) (pa_cons (pv 1) pa_nil))))
      (pss_one (ps_ret (pe_ifExp (pt_cmpR op_isN (pv 2) pe_non (nomark _)) pe_non (pe_op opN_mul (pe_op opN_div (pv 1) (pe_ix (ixT rfl) (pe_ix (ixL rfl) (pv 0) (pv 2) (fun _ _ => rfl)) pe_int (fun _ _ => rfl))) (pe_ix (ixT rfl) (pe_ix (ixL rfl) (pv 0) (pv 2) (fun _ _ => rfl)) pe_int (fun _ _ => rfl))))))), ?_⟩
  refine ⟨_, rfl, _, rfl, v, l, n, rfl, hd, isProg_pos hP, fun H1 s1 => ?_⟩
  cases e : firstAt l n with
  | none =>
    have e2 : led l n = none := by unfold led; rw [e]; rfl
    rw [e2] at q
    exact ⟨_, rfl, rfl, _, rfl, iteT (q H1 s1)⟩
  | some i =>
    have hi := firstAt_lt e
    have e2 : led l n = some (n / (l[i]).2 * (l[i]).1) := by
      unfold led
      rw [e, Option.map_some, unAt_eq hi, upAt_eq hi]
    rw [e2] at q
    obtain ⟨a, xs, rfl, hs, ha, hlen⟩ := prog_at (same_dp s1 hd)
    obtain ⟨b, hb, hbs⟩ := prog_get ha hi
    obtain ⟨f1, f2, f3, f4, f5⟩ := isFrac_iff.mp ((isProg_iff.mp hP).2 _ (List.getElem_mem hi))
    refine ⟨_, rfl, rfl, _, rfl, iteF ?_⟩
    refine ⟨_, rfl, _, rfl, _, rfl, a, xs, i, _, rfl, rfl, hs, atIn hb, b, _, 1, _, rfl, rfl, hbs, atI1, n, (l[i]).2, rfl, rfl, ⟨isNum_pos f2, lt_log2 (mil_lt f4) (by decide) (by decide)⟩, ?_⟩
    refine ⟨_, rfl, _, rfl, a, xs, i, _, rfl, rfl, hs, atIn hb, b, _, 0, _, rfl, rfl, hbs, atI0, n / (l[i]).2, (l[i]).1, rfl, rfl, ?_, q H1 s1⟩
    have h1 : n / (l[i]).2 < 2 ^ 30000 := Nat.lt_of_le_of_lt (Nat.div_le_self _ _) hn
    have h2 := lt_log2 (j := 30000) h1 (by decide) (by decide)
    have h3 := lt_log2 (j := 20) (mil_lt f3) (by decide) (by decide)
    omega
/-! ### need_room -/
def spRoom (K : PySem.W.Frag) (C : Addr) : Sp := fun vs H Q E => ∃ n : Nat, vs = [nI n] ∧ 0 < n ∧ (maxN (rooms n) ≤ 400 → ∀ H', Same H H' → Q .non H') ∧ (400 < maxN (rooms n) → ∀ H', Same H H' → E (.ref C) none H')
theorem rooms_ne (n : Nat) : rooms n ≠ [] := fun z => by
  have h := rooms_len n
  rw [z] at h
  cases h
theorem ok_need_room (T : Txt K mg) : Cal P w K mg base (L2N.CX P w) 3 "need_room" ["number"] (spRoom K (ga K "TooGreat")) := by
  have c_parted := ok_parted (P := P) (w := w) (base := base) T
  refine Cal.mkX T.d_need_room T.m_need_room sc_need_room (fun _ _ _ _ _ _ us hl => match us, hl with | [_], _ => rfl) (fun vs H Q E h => ?_) (fun cdv A outer s H vs Q E hr h => ?_)
  · obtain ⟨n, rfl, _⟩ := h
    rfl
  obtain ⟨n, rfl, hn, q1, q2⟩ := h
  refine ⟨_, (pss_one (ps_if (PW.pt (pw_and (pt_cmpR opN_gt (pe_op opN_div (pe_op opN_div (pv 0) (pe_op opN_pow pe_int pe_int)) (pe_op opN_pow pe_int pe_int)) pe_int (nomark _)) (pw_and1 (pt_cmpR opN_gt (pe_callB (crMaxT rfl rfl (hu_of hr)) (by rfl) T.b_max boot_max (pa_cons (pe_ix (ixT rfl) (pe_cal c_parted (hr.mono (by decide)) (by rfl) pass0 (pa_cons (pv 0) pa_nil)) pe_int (fun _ _ => rfl)) pa_nil)) (pe_glob (v := .int 400) (by rfl) T.c_MOST_ROOM.choose_spec ⟨_, rfl⟩) (nomark _))))) (pss_one (L2N.ps_raise rfl (L2N.takes_of rfl rfl rfl rfl) (L2N.pmk_own PySem.F.excBase_ValueError T.x_TooGreat.1 T.m_TooGreat T.x_TooGreat.2.1 (raises_own T.x_TooGreat.2.2.1 T.x_TooGreat.2.2.2) (by rfl)))) pss_nil)), ?_⟩
  have hT : ((10 : Nat) ^ 60).log2 < 9000 := by decide +kernel
  have hp : 0 < (10 : Nat) ^ 60 := by decide +kernel
  generalize hB : (10 : Nat) ^ 60 = B at hT hp
  refine ⟨_, rfl, 10, 60, rfl, rfl, ⟨by decide, by decide⟩, n, B, rfl, congrArg nI hB, ⟨hp, hT⟩, 10, 60, rfl, rfl, ⟨by decide, by decide⟩, n / B, B, rfl, congrArg nI hB, ⟨hp, hT⟩, n / B / B, 0, rfl, rfl, _, rfl, ?_⟩
  by_cases hg : 0 < n / B / B
  · rw [decide_eq_true hg]
    refine iteT ⟨_, rfl, n, rfl, hn, fun p t H1 s1 ht hp => ?_⟩
    refine ⟨p, _, 0, _, rfl, rfl, SqT.of hp, atI0, t, rooms n, rfl, SqT.of ht, rooms_ne n, maxN (rooms n), 400, rfl, rfl, _, rfl, ?_⟩
    by_cases hm : 400 < maxN (rooms n)
    · rw [decide_eq_true hm]
      exact iteT (q2 hm H1 s1)
    · rw [decide_eq_false hm]
      exact iteF (q1 (by omega) H1 s1)
  · rw [decide_eq_false hg]
    refine iteF (iteF (q1 ?_ H (Same.refl H)))
    rcases Nat.lt_or_ge 400 (maxN (rooms n)) with h | h
    · have z := great hn (maxN_mem (rooms_ne n)) h
      rw [hB] at z
      exact absurd z hg
    · exact h
/-! ### look -/
def spLook (K : PySem.W.Frag) : Sp := fun vs H Q E => ∃ (v u : V) (d e : PyData), vs = [v, u] ∧ Dp K H v d ∧ Dp K H u e ∧ (isProgD d = true → isNumD e = true → ∀ H', Same H H' → Q .non H') ∧
  (isProgD d = false → ∀ H', Same H H' → E (.ref (ga K "BadProgram")) none H') ∧ (isProgD d = true → isNumD e = false → ∀ H', Same H H' → E (.ref (ga K "BadNumber")) none H')
theorem ok_look (T : Txt K mg) : Cal P w K mg base (L2N.CX P w) 6 "look" ["program", "number"] (spLook K) := by
  have c_need_program := ok_need_program (P := P) (w := w) (base := base) T
  have c_need_number := ok_need_number (P := P) (w := w) (base := base) T
  refine Cal.mkX T.d_look T.m_look sc_look (fun _ _ _ _ _ _ us hl => match us, hl with | [_, _], _ => rfl) (fun vs H Q E h => ?_) (fun cdv A outer s H vs Q E hr h => ?_)
  · obtain ⟨v, u, d, e, rfl, _⟩ := h
    rfl
  obtain ⟨v, u, d, e, rfl, hd, he, q1, q2, q3⟩ := h
  refine ⟨_, (pss_cons (ps_expr (pe_cal c_need_program (hr.mono (by decide)) (by rfl) (L2N.passes_call (L2N.takes_of rfl rfl rfl rfl) (fun _ _ _ _ h => h)) (pa_cons (pv 0) pa_nil)))
      (pss_one (ps_expr (pe_cal c_need_number (hr.mono (by decide)) (by rfl) (L2N.passes_call (L2N.takes_of rfl rfl rfl rfl) (fun _ _ _ _ h => h)) (pa_cons (pv 1) pa_nil))))), ?_⟩
  refine ⟨_, rfl, v, d, rfl, hd, fun hp H1 s1 => ?_, fun hp H1 s1 => q2 hp H1 s1⟩
  exact ⟨_, rfl, u, e, rfl, same_dp s1 he, fun hn H2 s2 => q1 hp hn H2 (s1.trans s2), fun hn H2 s2 => q3 hp hn H2 (s1.trans s2)⟩
/-! ### step -/
def isGreat (o : Option Nat) : Bool := match o with
  | some m => decide (400 < maxN (rooms m))
  | none => false
def spStep (K : PySem.W.Frag) : Sp := fun vs H Q E => ∃ (v u : V) (d e : PyData), vs = [v, u] ∧ Dp K H v d ∧ Dp K H u e ∧
  (isProgD d = false → ∀ H', Same H H' → E (.ref (ga K "BadProgram")) none H') ∧ (isProgD d = true → isNumD e = false → ∀ H', Same H H' → E (.ref (ga K "BadNumber")) none H') ∧
  (∀ (l : Prog) (n : Nat), d = progD l → e = nD n → isProg l = true → isNum n = true → (isGreat (led l n) = false → ∀ H', Same H H' → Q (optV (led l n)) H') ∧ (isGreat (led l n) = true → ∀ H', Same H H' → E (.ref (ga K "TooGreat")) none H'))
theorem led_pos {l : Prog} {n m : Nat} (hP : isProg l = true) (hn : 0 < n) (h : led l n = some m) : 0 < m := by
  unfold led at h
  obtain ⟨i, hi, rfl⟩ := Option.map_eq_some_iff.mp h
  obtain ⟨hlt, h0, _⟩ := firstAt_is hi
  obtain ⟨f1, f2, f3, f4, f5⟩ := isFrac_iff.mp ((isProg_iff.mp hP).2 _ (List.getElem_mem hlt))
  rw [unAt_eq hlt, upAt_eq hlt]
  exact Nat.mul_pos (Nat.div_pos (Nat.le_of_dvd hn (Nat.dvd_of_mod_eq_zero h0)) (isNum_pos f2)) (isNum_pos f1)
theorem num_lt {n : Nat} (h : isNum n = true) : n < 2 ^ 30000 := Nat.lt_trans (isNum_lt h) (Nat.pow_lt_pow_right (by decide) (by decide))
theorem ok_step (T : Txt K mg) : Cal P w K mg base (L2N.CX P w) 7 "step" ["program", "number"] (spStep K) := by
  have c_look := ok_look (P := P) (w := w) (base := base) T
  have c_led := ok_led (P := P) (w := w) (base := base) T
  have c_need_room := ok_need_room (P := P) (w := w) (base := base) T
  refine Cal.mkX T.d_step T.m_step sc_step (fun _ _ _ _ _ _ us hl => match us, hl with | [_, _], _ => rfl) (fun vs H Q E h => ?_) (fun cdv A outer s H vs Q E hr h => ?_)
  · obtain ⟨v, u, d, e, rfl, _⟩ := h
    rfl
  obtain ⟨v, u, d, e, rfl, hd, he, q1, q2, q3⟩ := h
  refine ⟨_, (pss_cons (ps_expr (pe_cal c_look (hr.mono (by decide)) (by rfl) (L2N.passes_call (L2N.takes_of rfl rfl rfl rfl) (fun _ _ _ _ h => h)) (pa_cons (pv 0) (pa_cons (pv 1) pa_nil))))
      (pss_cons (ps_set (i := 2) sc_step.nd rfl (.inl rfl) (pe_cal c_led (hr.mono (by decide)) (by rfl) pass0 (pa_cons (pv 0) (pa_cons (pv 1) pa_nil))))
      (pss_cons (ps_if (pt_cmpR op_notN (pv 2) pe_non (nomark _)) (pss_one (ps_expr (pe_cal c_need_room (hr.mono (by decide)) (by rfl) (L2N.passes_call (L2N.takes_of rfl rfl rfl rfl) (fun _ _ _ _ h => h)) (pa_cons (pv 2) pa_nil)))) pss_nil)
      (pss_one (ps_ret (pv 2)))))), ?_⟩
  refine ⟨_, rfl, _, rfl, v, u, d, e, rfl, hd, he, fun hp hn H1 s1 => ?_, q1, q2⟩
  obtain ⟨l, rfl, hP⟩ := isProgD_is hp
  obtain ⟨n, rfl, hN⟩ := isNumD_is hn
  cases he
  obtain ⟨q4, q5⟩ := q3 l n rfl rfl hP hN
  refine ⟨_, rfl, _, rfl, v, l, n, rfl, same_dp s1 hd, hP, num_lt hN, fun H2 s2 => ?_⟩
  cases hl : led l n with
  | none =>
    rw [hl] at q4
    exact ⟨_, rfl, rfl, _, rfl, iteF ⟨_, rfl, q4 rfl H2 (s1.trans s2)⟩⟩
  | some m =>
    rw [hl] at q4 q5
    refine ⟨_, rfl, rfl, _, rfl, iteT ⟨_, rfl, m, rfl, led_pos hP (isNum_pos hN) hl, fun hm H3 s3 => ?_, fun hm H3 s3 => ?_⟩⟩
    · exact ⟨_, rfl, q4 (decide_eq_false (by omega)) H3 ((s1.trans s2).trans s3)⟩
    · exact q5 (decide_eq_true hm) H3 ((s1.trans s2).trans s3)
end
end Fr
namespace Fr
open PySem PySem.Spec PyProof.Rows L2
section
variable {P : Program} {w : World} {K : PySem.W.Frag} {mg : Str → Option Value} {base : Heap}
/-! ### idle -/
def spIdle (K : PySem.W.Frag) : Sp := fun vs H Q E => ∃ (v : V) (d : PyData), vs = [v] ∧ Dp K H v d ∧
  (isProgD d = false → ∀ H', Same H H' → E (.ref (ga K "BadProgram")) none H') ∧
  (∀ l : Prog, d = progD l → isProg l = true → ∀ p H', H p = none → Same H H' → H' p = some (.lst ((idleOf l).map nI)) → Q (.ref p) H')
theorem idle_gath (l : Prog) : gath (fun i => if isIdle l i = true then some (nD i) else none) l.length = (idleOf l).map nD := by
  unfold gath idleOf
  rw [← List.filterMap_eq_filter, List.map_filterMap]
  congr 1
  funext i
  unfold Option.guard
  show (if isIdle l i = true then some (nD i) else none) = Option.map nD (if isIdle l i = true then some i else none)
  cases isIdle l i <;> rfl
theorem mod_self_fit {l : Prog} {i : Nat} (hi : i < l.length) : ∃ j, firstAt l (unAt l i) = some j := by
  cases h : firstAt l (unAt l i) with
  | some j => exact ⟨j, rfl⟩
  | none =>
    unfold firstAt at h
    rw [List.findIdx?_eq_none_iff] at h
    have := h _ (List.getElem_mem hi)
    rw [unAt_eq hi] at this
    simp at this
theorem ok_idle (T : Txt K mg) : Cal P w K mg base (L2N.CX P w) 6 "idle" ["program"] (spIdle K) := by
  have c_need_program := ok_need_program (P := P) (w := w) (base := base) T
  have c_first_at := ok_first_at (P := P) (w := w) (base := base) T
  refine Cal.mkX T.d_idle T.m_idle sc_idle (fun _ _ _ _ _ _ us hl => match us, hl with | [_], _ => rfl) (fun vs H Q E h => ?_) (fun cdv A outer s H vs Q E hr h => ?_)
  · obtain ⟨v, d, rfl, _⟩ := h
    rfl
  obtain ⟨v, d, rfl, hd, q1, q2⟩ := h
  refine ⟨_, (pss_cons (ps_expr (pe_cal c_need_program (hr.mono (by decide)) (by rfl) (L2N.passes_call (L2N.takes_of rfl rfl rfl rfl) (fun _ _ _ _ h => h)) (pa_cons (pv 0) pa_nil)))
      (pss_one (ps_ret (pe_lc (own := [("place", 1)]) rfl sc_idle.nd (pi_range1 (by rfl) T.b_range (pa_cons (pe_callB (lenS rfl) (by rfl) T.b_len PySem.boot_len (pa_cons (pv 0) pa_nil)) pa_nil)) (blkOk_by (own := [("place", 1)]) (N := ["program", "place"]) (sc := defScope s_idle) (by decide +kernel)) (fun _ _ _ _ _ => (pg_name (i := 1) sc_idle.nd rfl (.inl rfl))) (fun _ _ _ _ _ => (pts_one (pt_cmpR opN_ne (pe_cal c_first_at (hr.mono (by decide)) (by rfl) pass0 (pa_cons (pv 0) (pa_cons (pe_ix (ixT rfl) (pe_ix (ixL rfl) (pv 0) (pv 1) (fun _ _ => rfl)) pe_int (fun _ _ => rfl)) pa_nil))) (pv 1) (nomark _)))) (fun _ _ _ _ _ => (pv 1)))))), ?_⟩
  refine ⟨_, rfl, v, d, rfl, hd, fun hp H1 s1 => ?_, q1⟩
  obtain ⟨l, rfl, hP⟩ := isProgD_is hp
  have q2 := q2 l rfl hP
  obtain ⟨a, xs, rfl, hs, ha, hlen⟩ := prog_at (same_dp s1 hd)
  have hl16 := (isProg_iff.mp hP).1
  refine ⟨_, rfl, a, xs, rfl, .inl hs, xs.length, rfl, by omega, by omega, fun D hD => ?_⟩
  have en : ((xs.length : Nat) : Int).toNat = l.length := by omega
  rw [en]
  refine lc_dp (K := K) walk_nats hD (by omega) (fun _ _ => trivial) (fun i => if isIdle l i = true then some (nD i) else none) ?_ ?_ ?_
  · intro i d e
    split at e
    · cases e
      rfl
    · cases e
  · rintro i x H' H'' A B hi s' ⟨rfl, rfl⟩ hA hB
    obtain ⟨b, hb, hbs⟩ := prog_get (same_dps s' ha) hi
    obtain ⟨j, hj⟩ := mod_self_fit hi
    refine ⟨rfl, _, rfl, _, rfl, _, rfl, a, xs, i, _, rfl, rfl, s'.seq hs, atIn hb, b, _, 1, _, rfl, rfl, hbs, atI1, _, l, (l[i]).2, rfl, same_dp (s1.trans s') hd, isProg_pos hP, fun H3 s3 => ?_⟩
    have hj2 := hj
    rw [unAt_eq hi] at hj2
    rw [hj2]
    refine ⟨_, rfl, j, i, rfl, rfl, _, rfl, ?_⟩
    have ei : isIdle l i = !decide (j = i) := by
      unfold isIdle
      rw [hj]
      congr 1
      simp
    cases hd2 : decide (j = i) with
    | true =>
      rw [hd2] at ei
      exact iteF (hB (by rw [ei]; rfl) H3 s3)
    | false =>
      rw [hd2] at ei
      exact iteT ⟨_, rfl, hA _ _ _ (by rw [ei]; rfl) s3 (.int _)⟩
  · intro H' ys s' hD' hA
    rw [idle_gath] at hA
    rw [dps_nats hA] at hD'
    exact q2 D H' (s1.free hD) (s1.trans s') hD'
/-! ### lean -/
def spLean (K : PySem.W.Frag) : Sp := fun vs H Q E => ∃ (v : V) (d : PyData), vs = [v] ∧ Dp K H v d ∧
  (isProgD d = false → ∀ H', Same H H' → E (.ref (ga K "BadProgram")) none H') ∧
  (∀ l : Prog, d = progD l → isProg l = true → ∀ p H', H p = none → Same H H' → Dp K H' (.ref p) (progD (leanOf l)) → (∃ ys, H' p = some (.lst ys)) → Q (.ref p) H')
theorem lean_gath (l : Prog) : gath (fun i => l[i]?.bind fun p => if i ∈ idleOf l then none else some (fracD p)) l.length = (leanOf l).map fracD := by
  rw [gath_mapI l fun i p => if i ∈ idleOf l then none else some (fracD p)]
  unfold leanOf
  rw [List.map_filterMap]
  congr 1
  funext p
  by_cases h : p.2 ∈ idleOf l
  · rw [if_pos h, if_pos h]; rfl
  · rw [if_neg h, if_neg h]; rfl
theorem inV_nat (i : Nat) : ∀ ns : List Nat, inV (nI i) (ns.map nI) = decide (i ∈ ns)
  | [] => rfl
  | n :: ns => by
    have ih := inV_nat i ns
    unfold inV at ih ⊢
    rw [List.map_cons, List.any_cons, ih]
    have e : eqV (nI n) (nI i) = decide (n = i) := by
      show ((n : Int) == (i : Int)) = decide (n = i)
      rw [Bool.eq_iff_iff]
      simp
      omega
    rw [e, Bool.eq_iff_iff]
    simp only [Bool.or_eq_true, decide_eq_true_eq, List.mem_cons]
    constructor
    · rintro (h | h)
      · exact .inl h.symm
      · exact .inr h
    · rintro (h | h)
      · exact .inl h.symm
      · exact .inr h
theorem flat_nats : ∀ ns : List Nat, (ns.map nI).all flatV = true
  | [] => rfl
  | n :: ns => by
    rw [List.map_cons, List.all_cons, flat_nats ns]
    rfl
theorem ok_lean (T : Txt K mg) : Cal P w K mg base (L2N.CX P w) 7 "lean" ["program"] (spLean K) := by
  have c_need_program := ok_need_program (P := P) (w := w) (base := base) T
  have c_idle := ok_idle (P := P) (w := w) (base := base) T
  refine Cal.mkX T.d_lean T.m_lean sc_lean (fun _ _ _ _ _ _ us hl => match us, hl with | [_], _ => rfl) (fun vs H Q E h => ?_) (fun cdv A outer s H vs Q E hr h => ?_)
  · obtain ⟨v, d, rfl, _⟩ := h
    rfl
  obtain ⟨v, d, rfl, hd, q1, q2⟩ := h
  refine ⟨_, (pss_cons (ps_expr (pe_cal c_need_program (hr.mono (by decide)) (by rfl) (L2N.passes_call (L2N.takes_of rfl rfl rfl rfl) (fun _ _ _ _ h => h)) (pa_cons (pv 0) pa_nil)))
      (pss_cons (ps_set (i := 1) sc_lean.nd rfl (.inr rfl) (pe_cal c_idle (hr.mono (by decide)) (by rfl) (L2N.passes_call (L2N.takes_of rfl rfl rfl rfl) (fun _ _ _ _ h => h)) (pa_cons (pv 0) pa_nil)))
      (pss_one (ps_ret (pe_lc (own := [("place", 2), ("fraction", 3)]) rfl sc_lean.nd (piE rfl (by rfl) T.b_enumerate (pa_cons (pv 0) pa_nil)) (blkOk_by (own := [("place", 2), ("fraction", 3)]) (N := ["program", "out", "place", "fraction"]) (sc := defScope s_lean) (by decide +kernel)) (fun _ _ _ _ _ => (pgT (n := 2) rfl rfl (pgs_cons (pg_name (i := 2) sc_lean.nd rfl (.inl rfl)) (pgs_cons (pg_name (i := 3) sc_lean.nd rfl (.inl rfl)) pgs_nil)))) (fun _ _ _ _ _ => (pts_one (pt_cmpR (ninS rfl) (pv 2) (pv 1) (by rfl)))) (fun _ _ _ _ _ => (pv 3))))))), ?_⟩
  refine ⟨_, rfl, v, d, rfl, hd, fun hp H1 s1 => ?_, q1⟩
  obtain ⟨l, rfl, hP⟩ := isProgD_is hp
  have q2 := q2 l rfl hP
  refine ⟨_, rfl, v, progD l, rfl, same_dp s1 hd, (fun hn => by rw [hp] at hn; cases hn), fun l' el hP' o H2 no s2 ho => ?_⟩
  have el : l' = l := by
    have z : (l'.map fracD) = l.map fracD := (PyData.list.inj el).symm
    have inj : ∀ x y : Nat × Nat, fracD x = fracD y → x = y := by
      intro x y h
      have h1 := PyData.tuple.inj h
      injection h1 with h2 h3
      injection h3 with h4 h5
      have h6 := PyData.int.inj h2
      have h7 := PyData.int.inj h4
      exact Prod.ext (by omega) (by omega)
    exact (List.map_inj_right inj).mp z
  subst el
  obtain ⟨a, xs, rfl, hs, ha, hlen⟩ := prog_at (same_dp (s1.trans s2) hd)
  have hl16 := (isProg_iff.mp hP).1
  refine ⟨_, rfl, a, xs, rfl, hs, fun D hD => ?_⟩
  refine lc_dp (K := K) walk_enum hD (by omega) (fun H' s' => s'.seq hs) (fun i => l'[i]?.bind fun p => if i ∈ idleOf l' then none else some (fracD p)) ?_ ?_ ?_
  · intro i d e
    obtain ⟨p, _, e⟩ := Option.bind_eq_some_iff.mp e
    split at e
    · cases e
    · cases e
      exact noL_frac p
  · rintro i x H' H'' A B hi s' ⟨T', x1, x2, rfl, nT, rfl, e1, e2⟩ hA hB
    have e1 : x1 = nI i := (Option.some.inj e1).symm
    subst e1
    have sT : Same H' (upd H' T' (.tup [nI i, x2])) := same_new nT
    obtain ⟨hi', b, rfl, hb2, hdp⟩ := prog_item (same_dps (s'.trans sT) ha) e2
    have hg : l'[i]? = some l'[i] := List.getElem?_eq_getElem hi'
    refine ⟨T', _, rfl, SqT.of upd_same, rfl, _, _, rfl, _, _, rfl, rfl, rfl, ?_⟩
    refine ⟨_, rfl, _, rfl, o, _, rfl, .inl (SqL.of ((s'.trans sT) _ _ ho)), rfl, flat_nats _, _, rfl, ?_⟩
    rw [inV_nat]
    by_cases hin : i ∈ idleOf l'
    · rw [decide_eq_true hin]
      exact iteF (hB (by rw [hg]; show (if i ∈ idleOf l' then none else _) = none; rw [if_pos hin]) _ sT)
    · rw [decide_eq_false hin]
      exact iteT ⟨_, rfl, hA _ _ _ (by rw [hg]; show (if i ∈ idleOf l' then none else _) = some (fracD l'[i]); rw [if_neg hin]) sT hdp⟩
  · intro H' ys s' hD' hA
    rw [hlen, lean_gath] at hA
    exact q2 D H' (s1.free (s2.free hD)) ((s1.trans s2).trans s') (.lst (SqL.of hD') hA) ⟨ys, hD'⟩
end
end Fr
namespace Fr
open PySem PySem.Spec PyProof.Rows L2
section
variable {P : Program} {w : World} {K : PySem.W.Frag} {mg : Str → Option Value} {base : Heap}
theorem lay_ints : ∀ ns : List Int, PyData.canLayAll0 (ns.map PyData.int) = true
  | [] => by simp [PyData.canLayAll0]
  | n :: ns => by simp [PyData.canLayAll0, PyData.canLay0, lay_ints ns]
theorem shaped_ints (ns : List Int) : SeqAt.shaped (.list (ns.map PyData.int)) = true := by
  unfold SeqAt.shaped
  simp [PyData.canLay0, PyData.depth, lay_ints, depth_ints]
/-! ### _law_cell -/
def spCellL (K : PySem.W.Frag) : Sp := fun vs H Q _ => ∃ (a : Addr) (k : Nat) (ns : List Int), vs = [.ref a, nI k] ∧ SqL K H a (ns.map V.int) ∧ ns.length ≤ 63 ∧ k ≤ 1000 ∧ ∀ (c : Int) H', Same H H' → Q (.int c) H'
theorem ok__law_cell (T : Txt K mg) : Cal P w K mg base L2.CX0 1 "_law_cell" ["script", "k"] (spCellL K) := by
  refine Cal.mk0 T.d__law_cell T.m__law_cell sc__law_cell (fun _ _ _ _ _ _ us hl => match us, hl with | [_, _], _ => rfl) (fun vs H Q E h => ?_) (fun cdv A outer s H vs Q E hr h => ?_)
  · obtain ⟨a, k, ns, rfl, _⟩ := h
    rfl
  obtain ⟨a, k, ns, rfl, hs, hl, hk, q⟩ := h
  refine ⟨_, (pss_cons (ps_if (pt_cmpR (eqD rfl hr.units) (pv 0) (pe_lst pa_nil) (nomark _)) (pss_one (ps_ret (pe_op opN_mul (pv 1) pe_int))) pss_nil)
      (pss_one (ps_ret (pe_op op_add (pe_ix (ixL rfl) (pv 0) (pe_op opN_mod (pv 1) (pe_callB (lenS rfl) (by rfl) T.b_len PySem.boot_len (pa_cons (pv 0) pa_nil))) (fun _ _ => rfl)) (pe_op opN_mul (pe_op opN_div (pv 1) (pe_callB (lenS rfl) (by rfl) T.b_len PySem.boot_len (pa_cons (pv 0) pa_nil))) pe_int))))), ?_⟩
  have hk2 : k.log2 < 20 := lt_log2 (k := 20) (by omega) (by decide) (by decide)
  refine ⟨_, rfl, Nat.zero_le _, fun p np => ?_⟩
  have s1 : Same H (upd H p (.lst [])) := same_new np
  refine ⟨.list (ns.map PyData.int), .list [], .lst (s1.seq hs) (dps_ints ns), .lst (SqL.of upd_same) .nil, shaped_ints ns, shaped_ints [], _, rfl, ?_⟩
  cases ns with
  | nil =>
    refine iteT ⟨_, rfl, k, 7919, rfl, rfl, ?_, q _ _ s1⟩
    have : (7919 : Nat).log2 < 20 := by decide
    omega
  | cons n ns =>
    have hlen : ((n :: ns).map V.int).length = ns.length + 1 := by simp
    refine iteF ?_
    have hm : k % (ns.length + 1) < ((n :: ns).map V.int).length := by rw [hlen]; exact Nat.mod_lt _ (by omega)
    have hg : ((n :: ns).map V.int)[k % (ns.length + 1)]? = some (.int ((n :: ns)[k % (ns.length + 1)]'(by simpa using hm))) := by
      rw [List.getElem?_map, List.getElem?_eq_getElem (by simpa using hm)]
      rfl
    simp only [List.length_cons] at hl
    have h3 : (k / (ns.length + 1)).log2 < 20 := lt_log2 (k := 20) (Nat.lt_of_le_of_lt (Nat.div_le_self _ _) (by omega)) (by decide) (by decide)
    have h4 : (104729 : Nat).log2 < 20 := by decide
    refine ⟨_, rfl, _, rfl, _, rfl, a, _, rfl, .inl (s1.seq hs), k, ns.length + 1, rfl, by rw [hlen], by omega, a, _, _, _, rfl, rfl, s1.seq hs, atIn hg, ?_⟩
    refine ⟨_, rfl, _, rfl, a, _, rfl, .inl (s1.seq hs), k, ns.length + 1, rfl, by rw [hlen], ⟨by omega, lt_log2 (k := 20) (by omega) (by decide) (by decide)⟩, _, 104729, rfl, rfl, by omega, _, _, rfl, rfl, q _ _ s1⟩
/-! ### _law_drawn -/
def spDrawn : Sp := fun vs H Q _ => ∃ (c : Int) (k : Nat), vs = [.int c, nI k] ∧ k ≤ 100000 ∧ ∀ d : Nat, d < 2 ^ 129 → Q (nI d) H
theorem ok__law_drawn (T : Txt K mg) : Cal P w K mg base L2.CX0 1 "_law_drawn" ["cell", "k"] spDrawn := by
  refine Cal.mk0 T.d__law_drawn T.m__law_drawn sc__law_drawn (fun _ _ _ _ _ _ us hl => match us, hl with | [_, _], _ => rfl) (fun vs H Q E h => ?_) (fun cdv A outer s H vs Q E hr h => ?_)
  · obtain ⟨c, k, rfl, _⟩ := h
    rfl
  obtain ⟨c, k, rfl, hk, q⟩ := h
  refine ⟨_, (pss_cons (ps_set (i := 2) sc__law_drawn.nd rfl (.inl rfl) (pe_op op_mod (pe_op op_add (pe_op op_mul (pv 0) pe_int) (pe_op opN_mul (pe_op opN_add (pv 1) pe_int) pe_int)) pe_int))
      (pss_cons (ps_set (i := 2) sc__law_drawn.nd rfl (.inl rfl) (pe_op opN_mod (pe_op opN_mul (pv 2) (pv 2)) pe_int))
      (pss_cons (ps_set (i := 2) sc__law_drawn.nd rfl (.inl rfl) (pe_op opN_mul (pe_op opN_mul (pe_op opN_add (pe_op opN_mod (pv 2) pe_int) pe_int) (pe_op opN_add (pe_op opN_div (pv 2) pe_int) pe_int)) (pv 2)))
      (pss_one (ps_ret (pe_op opN_mod (pv 2) pe_int)))))), ?_⟩
  have hk2 : (k + 1).log2 < 20 := lt_log2 (k := 20) (by omega) (by decide) (by decide)
  have hc2 : (1442695040888963407 : Nat).log2 < 64 := by decide +kernel
  refine ⟨_, rfl, c, 6364136223846793005, rfl, rfl, .inr ⟨by decide, by decide⟩, _, rfl, k, 1, rfl, rfl, k + 1, 1442695040888963407, rfl, rfl, by omega, _, _, rfl, rfl, _, 340282366920938463463374607431768211507, rfl, rfl, by omega, ?_⟩
  obtain ⟨m, hm, hm2⟩ : ∃ m : Nat, (c * 6364136223846793005 + (((k + 1) * 1442695040888963407 : Nat) : Int)) % 340282366920938463463374607431768211507 = (m : Int) ∧ m < 340282366920938463463374607431768211507 := by
    have h1 := Int.emod_nonneg (c * 6364136223846793005 + (((k + 1) * 1442695040888963407 : Nat) : Int)) (b := 340282366920938463463374607431768211507) (by decide)
    have h2 := Int.emod_lt_of_pos (c * 6364136223846793005 + (((k + 1) * 1442695040888963407 : Nat) : Int)) (b := 340282366920938463463374607431768211507) (by decide)
    generalize (c * 6364136223846793005 + (((k + 1) * 1442695040888963407 : Nat) : Int)) % 340282366920938463463374607431768211507 = z at h1 h2 ⊢
    exact ⟨z.toNat, (Int.toNat_of_nonneg h1).symm, by omega⟩
  have em : V.int ((c * 6364136223846793005 + (((k + 1) * 1442695040888963407 : Nat) : Int)) % 340282366920938463463374607431768211507) = nI m := by rw [hm]
  have l1 : m.log2 < 129 := lt_log2 (k := 129) (Nat.lt_trans hm2 (by decide +kernel)) (by decide) (by decide)
  have h3 : m * m % 340282366920938463463374607431768211297 < 340282366920938463463374607431768211297 := Nat.mod_lt _ (by decide)
  generalize hx : m * m % 340282366920938463463374607431768211297 = x at h3
  have l2 : x.log2 < 129 := lt_log2 (k := 129) (Nat.lt_trans h3 (by decide +kernel)) (by decide) (by decide)
  have h4 : x % 18446744073709551557 + 1 < 2 ^ 65 := by
    have := Nat.mod_lt x (y := 18446744073709551557) (by decide)
    exact Nat.lt_of_lt_of_le (Nat.succ_lt_succ this) (by decide +kernel)
  have h5 : x / 18446744073709551557 + 1 < 2 ^ 65 := by
    have : x / 18446744073709551557 < 2 ^ 64 + 200 := by
      rw [Nat.div_lt_iff_lt_mul (by decide)]
      exact Nat.lt_trans h3 (by decide +kernel)
    exact Nat.lt_of_lt_of_le (Nat.succ_lt_succ this) (by decide +kernel)
  have l4 := lt_log2 (j := 65) h4 (by decide) (by decide)
  have l5 := lt_log2 (j := 65) h5 (by decide) (by decide)
  have l6 : ((x % 18446744073709551557 + 1) * (x / 18446744073709551557 + 1)).log2 < 130 := lt_log2 (k := 130) (by
    have := Nat.mul_lt_mul'' h4 h5
    rw [← Nat.pow_add] at this
    exact this) (by decide) (by decide)
  refine ⟨nI m, congrArg some (congrArg some em), nI m, congrArg some (congrArg some em), m, m, rfl, rfl, by omega, _, 340282366920938463463374607431768211297, rfl, rfl, by omega, ?_⟩
  have ex : V.int ((m * m % 340282366920938463463374607431768211297 : Nat) : Int) = nI x := by rw [hx]
  refine ⟨nI x, congrArg some (congrArg some ex), x, 18446744073709551557, rfl, rfl, by omega, _, 1, rfl, rfl, nI x, congrArg some (congrArg some ex), x, 18446744073709551557, rfl, rfl, ⟨by decide, by decide +kernel⟩, _, 1, rfl, rfl, _, _, rfl, rfl, by omega, nI x, congrArg some (congrArg some ex), _, x, rfl, rfl, by omega, ?_⟩
  refine ⟨_, rfl, _, 340282366920938463463374607431768211507, rfl, rfl, by omega, q _ ?_⟩
  exact Nat.lt_trans (Nat.mod_lt _ (by decide)) (by decide +kernel)
/-! ### _law_primes -/
def spPrimes : Sp := fun vs H Q _ => vs = [] ∧ ∀ p, H p = none → Q (.ref p) (upd H p (.lst (primes.map nI)))
theorem ok__law_primes (T : Txt K mg) : Cal P w K mg base L2.CX0 1 "_law_primes" [] spPrimes := by
  refine Cal.mk0 T.d__law_primes T.m__law_primes sc__law_primes (fun _ _ _ _ _ _ us hl => match us, hl with | [], _ => rfl) (fun vs H Q E h => ?_) (fun cdv A outer s H vs Q E hr h => ?_)
  · obtain ⟨rfl, _⟩ := h
    rfl
  obtain ⟨rfl, q⟩ := h
  refine ⟨_, (pss_one (ps_ret (pe_lst (pa_cons pe_int (pa_cons pe_int (pa_cons pe_int (pa_cons pe_int (pa_cons pe_int (pa_cons pe_int (pa_cons pe_int (pa_cons pe_int (pa_cons pe_int (pa_cons pe_int (pa_cons pe_int (pa_cons pe_int pa_nil))))))))))))))), ?_⟩
  exact ⟨(by show 12 ≤ sizeLine; decide), fun p np => q p np⟩
/-! ### _law_some -/
def spSome : Sp := fun vs H Q _ => ∃ m k b : Nat, vs = [nI m, nI k, nI b] ∧ 1 ≤ k ∧ k ≤ 12 ∧ b ≤ 50 ∧ ∀ n H', SomeN k b n → Same H H' → Q (nI n) H'
theorem ok__law_some (T : Txt K mg) : Cal P w K mg base L2.CX0 2 "_law_some" ["more", "primes", "most"] spSome := by
  have c__law_primes := ok__law_primes (P := P) (w := w) (base := base) T
  have c__law_drawn := ok__law_drawn (P := P) (w := w) (base := base) T
  refine Cal.mk0 T.d__law_some T.m__law_some sc__law_some (fun _ _ _ _ _ _ us hl => match us, hl with | [_, _, _], _ => rfl) (fun vs H Q E h => ?_) (fun cdv A outer s H vs Q E hr h => ?_)
  · obtain ⟨m, k, b, rfl, _⟩ := h
    rfl
  obtain ⟨m, k, b, rfl, hk1, hk2, hb, q⟩ := h
  refine ⟨_, (pss_cons (ps_set (i := 3) sc__law_some.nd rfl (.inl rfl) pe_int)
      (pss_cons (ps_for PassesOwn.never rfl (pi_range1 (by rfl) T.b_range (pa_cons (pe_op opN_mod (pv 0) (pe_op opN_add (pv 2) pe_int)) pa_nil)) (pg_name (i := 4) sc__law_some.nd rfl (.inl rfl)) (pss_one (ps_set (i := 3) sc__law_some.nd rfl (.inl rfl) (pe_op opN_mul (pv 3) (pe_ix (ixL rfl) (pe_cal0 c__law_primes (hr.mono (by decide)) (by rfl) pass0) (pe_op opN_mod (pe_op opN_div (pe_cal c__law_drawn (hr.mono (by decide)) (by rfl) pass0 (pa_cons (pv 0) (pa_cons (pv 4) pa_nil))) pe_int) (pv 1)) (fun _ _ => rfl))))))
      (pss_one (ps_ret (pv 3))))), ?_⟩
  have hmod : m % (b + 1) < b + 1 := Nat.mod_lt _ (by omega)
  refine ⟨_, rfl, _, rfl, b, 1, rfl, rfl, m, b + 1, rfl, rfl, by omega, ((m % (b + 1) : Nat) : Int), rfl, by omega, by omega, ?_⟩
  have en : ((m % (b + 1) : Nat) : Int).toNat = m % (b + 1) := by omega
  rw [en]
  refine for_it walk_nats (fun i σ H3 => (∃ as y, σ = [some (nI m), some (nI k), some (nI b), some (nI (make as)), y] ∧ as.length = 12 ∧ as.sum = i ∧ ∀ j, k ≤ j → j < 12 → as[j]? = some 0) ∧ Same H H3) ?_ (fun _ _ _ _ _ => trivial) ?_ ?_
  · refine ⟨⟨List.replicate 12 0, none, ?_, by decide, by decide, fun j _ hj => ?_⟩, Same.refl H⟩
    · rw [make_zero]
      rfl
    · rw [List.getElem?_replicate, if_pos hj]
  · rintro i x σ H3 H4 hi ⟨⟨as, y, rfl, hl, hsum, hz⟩, sm⟩ ⟨rfl, rfl⟩
    refine ⟨_, rfl, rfl, fun p np => ⟨_, rfl, _, rfl, (m : Int), i, rfl, by omega, fun d _ => ?_⟩⟩
    have hdk : d / 8 % k < k := Nat.mod_lt _ (by omega)
    have h12 : d / 8 % k < 12 := by omega
    refine ⟨d, 8, rfl, rfl, ⟨by decide, by decide⟩, _, rfl, d / 8, k, rfl, rfl, by omega, ?_⟩
    obtain ⟨ix, hix⟩ : ∃ ix, d / 8 % k = ix := ⟨_, rfl⟩
    rw [hix] at hdk h12
    have hp : primes[ix]? = some (primes[ix]'(by exact h12)) := List.getElem?_eq_getElem (by exact h12)
    have hpm : (primes.map nI)[ix]? = some (nI (primes[ix]'(by exact h12))) := by
      rw [List.getElem?_map, hp]
      rfl
    have ha : as[ix]? = some (as[ix]'(by omega)) := List.getElem?_eq_getElem (by omega)
    have hpl : primes[ix]'(by exact h12) < 2 ^ 6 := primes_small _ (List.getElem_mem _)
    have hml : make as < 2 ^ 301 := Nat.lt_of_le_of_lt (make_le as) (Nat.pow_lt_pow_right (by decide) (by omega))
    have l1 := lt_log2 (j := 6) hpl (by decide) (by decide)
    have l2 := lt_log2 (j := 301) hml (by decide) (by decide)
    refine ⟨p, _, ix, _, rfl, congrArg nI hix, SqL.of upd_same, atIn hpm, make as, primes[ix]'(by exact h12), rfl, rfl, by omega, ⟨as.set ix (as[ix]'(by omega) + 1), some (nI i), ?_, by rw [List.length_set]; exact hl, by rw [sum_set1 ha, hsum], fun j hj1 hj2 => ?_⟩, sm.trans (same_new np)⟩
    · rw [make_set hp ha]
      rfl
    · rw [List.getElem?_set_ne (by omega)]
      exact hz j hj1 hj2
  · rintro σ H3 ⟨⟨as, y, rfl, hl, hsum, hz⟩, sm⟩
    exact ⟨_, rfl, q _ H3 ⟨as, hl, rfl, by omega, hz⟩ sm⟩
end
end Fr
namespace Fr
open PySem PySem.Spec PyProof.Rows L2
section
variable {P : Program} {w : World} {K : PySem.W.Frag} {mg : Str → Option Value} {base : Heap}
/-! ### _law_fraction -/
def spFraction : Sp := fun vs H Q _ => ∃ m k : Nat, vs = [nI m, nI k] ∧ 1 ≤ k ∧ k ≤ 12 ∧ ∀ (f : Nat × Nat) (p : Addr) H', FracN k f → H p = none → Same H H' → H' p = some (.tup [nI f.1, nI f.2]) → Q (.ref p) H'
/-- rooms ahead of place i have nothing in common -/
structure Apart (k b c i : Nat) (as bs : List Nat) : Prop where
  la : as.length = 12
  lb : bs.length = 12
  sa : as.sum ≤ b
  sb : bs.sum ≤ c
  za : ∀ j, k ≤ j → j < 12 → as[j]? = some 0
  zb : ∀ j, k ≤ j → j < 12 → bs[j]? = some 0
  ap : ∀ j, j < i → as[j]? = some 0 ∨ bs[j]? = some 0
theorem set_zero {as : List Nat} {i j a : Nat} (h : as[j]? = some 0) (ha : as[i]? = some (a + 1)) : (as.set i a)[j]? = some 0 := by
  by_cases e : j = i
  · subst e
    rw [h] at ha
    cases ha
  · rw [List.getElem?_set_ne (Ne.symm e)]
    exact h
theorem Apart.down {k b c i a d : Nat} {as bs : List Nat} (h : Apart k b c i as bs) (ha : as[i]? = some (a + 1)) (hb : bs[i]? = some (d + 1)) : Apart k b c i (as.set i a) (bs.set i d) where
  la := by rw [List.length_set]; exact h.la
  lb := by rw [List.length_set]; exact h.lb
  sa := by have := sum_dec ha; have := h.sa; omega
  sb := by have := sum_dec hb; have := h.sb; omega
  za := fun j h1 h2 => set_zero (h.za j h1 h2) ha
  zb := fun j h1 h2 => set_zero (h.zb j h1 h2) hb
  ap := fun j hj => (h.ap j hj).elim (fun z => .inl (set_zero z ha)) fun z => .inr (set_zero z hb)
theorem Apart.up {k b c i : Nat} {as bs : List Nat} (h : Apart k b c i as bs) (hz : as[i]? = some 0 ∨ bs[i]? = some 0) : Apart k b c (i + 1) as bs where
  la := h.la
  lb := h.lb
  sa := h.sa
  sb := h.sb
  za := h.za
  zb := h.zb
  ap := fun j hj => by
    by_cases e : j = i
    · subst e
      exact hz
    · exact h.ap j (by omega)
theorem prime_log {p : Nat} (h : p ∈ primes) : p.log2 < 9000 := lt_log2 (k := 6) (primes_small p h) (by decide) (by decide)
theorem ok__law_fraction (T : Txt K mg) : Cal P w K mg base L2.CX0 3 "_law_fraction" ["more", "primes"] spFraction := by
  have c__law_primes := ok__law_primes (P := P) (w := w) (base := base) T
  have c__law_drawn := ok__law_drawn (P := P) (w := w) (base := base) T
  have c__law_some := ok__law_some (P := P) (w := w) (base := base) T
  refine Cal.mk0 T.d__law_fraction T.m__law_fraction sc__law_fraction (fun _ _ _ _ _ _ us hl => match us, hl with | [_, _], _ => rfl) (fun vs H Q E h => ?_) (fun cdv A outer s H vs Q E hr h => ?_)
  · obtain ⟨m, k, rfl, _⟩ := h
    rfl
  obtain ⟨m, k, rfl, hk1, hk2, q⟩ := h
  refine ⟨_, (pss_cons (ps_par (i := 2) (j := 3) (by rfl) sc__law_fraction.nd rfl rfl (by decide) rfl rfl (pa_cons (pe_cal c__law_some (hr.mono (by decide)) (by rfl) pass0 (pa_cons (pe_cal c__law_drawn (hr.mono (by decide)) (by rfl) pass0 (pa_cons (pv 0) (pa_cons pe_int pa_nil))) (pa_cons (pv 1) (pa_cons pe_int pa_nil)))) (pa_cons (pe_cal c__law_some (hr.mono (by decide)) (by rfl) pass0 (pa_cons (pe_cal c__law_drawn (hr.mono (by decide)) (by rfl) pass0 (pa_cons (pv 0) (pa_cons pe_int pa_nil))) (pa_cons (pv 1) (pa_cons pe_int pa_nil)))) pa_nil)) (by rfl))
      (pss_cons (ps_for PassesOwn.never rfl (piL rfl (pe_cal0 c__law_primes (hr.mono (by decide)) (by rfl) pass0)) (pg_name (i := 4) sc__law_fraction.nd rfl (.inl rfl)) (pss_one (ps_while PassesOwn.never (PW.pt (pw_and (pt_cmpR opN_eq (pe_op opN_mod (pv 2) (pv 4)) pe_int (nomark _)) (pw_and1 (pt_cmpR opN_eq (pe_op opN_mod (pv 3) (pv 4)) pe_int (nomark _))))) (pss_one (ps_par (i := 2) (j := 3) (by rfl) sc__law_fraction.nd rfl rfl (by decide) rfl rfl (pa_cons (pe_op opN_div (pv 2) (pv 4)) (pa_cons (pe_op opN_div (pv 3) (pv 4)) pa_nil)) (by rfl))))))
      (pss_one (ps_ret (pe_tup (pa_cons (pv 2) (pa_cons (pv 3) pa_nil))))))), ?_⟩
  refine ⟨_, rfl, m, 1, rfl, by decide, fun d1 _ => ⟨_, rfl, d1, k, 2, rfl, hk1, hk2, by decide, fun t H1 ht s1 => ?_⟩⟩
  refine ⟨_, rfl, m, 2, rfl, by decide, fun d2 _ => ⟨_, rfl, d2, k, 3, rfl, hk1, hk2, by decide, fun u H2 hu s2 => ⟨_, _, rfl, ?_⟩⟩⟩
  obtain ⟨as0, la, rfl, sa, za⟩ := ht
  obtain ⟨bs0, lb, rfl, sb, zb⟩ := hu
  have A0 : Apart k 2 3 0 as0 bs0 := ⟨la, lb, sa, sb, za, zb, fun j hj => absurd hj (by omega)⟩
  refine ⟨rfl, fun o no => ⟨o, rfl, ⟨_, SqL.of upd_same⟩, ?_⟩⟩
  refine for_it (walk_list (xs := primes.map nI)) (fun i σ H3 => (∃ as bs y, σ = [some (nI m), some (nI k), some (nI (make as)), some (nI (make bs)), y] ∧ Apart k 2 3 i as bs) ∧ H3 o = some (.lst (primes.map nI)) ∧ Same H H3) ⟨⟨as0, bs0, none, rfl, A0⟩, upd_same, (s1.trans s2).trans (same_new no)⟩ (fun i σ H3 _ p => SqL.of p.2.1) ?_ ?_
  · rintro i x σ H3 H4 hi ⟨⟨as, bs, y, rfl, hA⟩, ho, sm⟩ ⟨rfl, hx⟩
    rw [List.getElem?_map] at hx
    obtain ⟨p, hp, rfl⟩ := Option.map_eq_some_iff.mp hx
    have hpm : p ∈ primes := List.mem_of_getElem? hp
    have hp2 : 2 ≤ p := primes_two p hpm
    have hi12 : i < 12 := (List.getElem?_eq_some_iff.mp hp).1
    refine ⟨fun μ σ H5 => ∃ as bs, σ = [some (nI m), some (nI k), some (nI (make as)), some (nI (make bs)), some (nI p)] ∧ H5 = H4 ∧ Apart k 2 3 i as bs ∧ μ = as.sum, ⟨_, as, bs, rfl, rfl, hA, rfl⟩, ?_⟩
    rintro μ σ H5 ⟨as, bs, rfl, rfl, hA, rfl⟩
    have ga : as[i]? = some (as[i]'(by rw [hA.la]; exact hi12)) := List.getElem?_eq_getElem _
    have gb : bs[i]? = some (bs[i]'(by rw [hA.lb]; exact hi12)) := List.getElem?_eq_getElem _
    generalize as[i]'(by rw [hA.la]; exact hi12) = a at ga
    generalize bs[i]'(by rw [hA.lb]; exact hi12) = b at gb
    refine ⟨_, rfl, _, rfl, make as, p, rfl, rfl, by omega, _, 0, rfl, rfl, _, rfl, ?_⟩
    have out : (as[i]? = some 0 ∨ bs[i]? = some 0) → ∃ as' bs' y, [some (nI m), some (nI k), some (nI (make as)), some (nI (make bs)), some (nI p)] = [some (nI m), some (nI k), some (nI (make as')), some (nI (make bs')), y] ∧ Apart k 2 3 (i + 1) as' bs' := fun hz => ⟨as, bs, _, rfl, hA.up hz⟩
    by_cases h1 : make as % p = 0
    · rw [decide_eq_true h1]
      refine iteT ⟨_, rfl, _, rfl, make bs, p, rfl, rfl, by omega, _, 0, rfl, rfl, _, rfl, ?_⟩
      by_cases h2 : make bs % p = 0
      · rw [decide_eq_true h2]
        have a0 := (make_mod hA.la hp ga).mp h1
        have b0 := (make_mod hA.lb hp gb).mp h2
        obtain ⟨a', rfl⟩ : ∃ a', a = a' + 1 := ⟨a - 1, by omega⟩
        obtain ⟨b', rfl⟩ : ∃ b', b = b' + 1 := ⟨b - 1, by omega⟩
        refine iteT ⟨fun σ' H' => σ' = [some (nI m), some (nI k), some (nI (make (as.set i a'))), some (nI (make (bs.set i b'))), some (nI p)] ∧ H' = H5, ?_, ?_⟩
        · rintro σ' H' ⟨h3, h4⟩
          exact ⟨_, by have := sum_dec ga; omega, _, _, h3, h4, hA.down ga gb, rfl⟩
        · refine ⟨_, rfl, _, rfl, make as, p, rfl, rfl, ⟨by omega, prime_log hpm⟩, _, rfl, _, rfl, make bs, p, rfl, rfl, ⟨by omega, prime_log hpm⟩, _, _, rfl, ?_⟩
          refine ⟨?_, rfl⟩
          rw [← make_div hp ga, ← make_div hp gb]
          rfl
      · rw [decide_eq_false h2]
        refine iteF ⟨out (.inr ?_), ho, sm⟩
        rcases Nat.eq_zero_or_pos b with z | z
        · rw [gb, z]
        · exact absurd ((make_mod hA.lb hp gb).mpr z) h2
    · rw [decide_eq_false h1]
      refine iteF (iteF ⟨out (.inl ?_), ho, sm⟩)
      rcases Nat.eq_zero_or_pos a with z | z
      · rw [ga, z]
      · exact absurd ((make_mod hA.la hp ga).mpr z) h1
  · rintro σ H3 ⟨⟨as, bs, y, rfl, hA⟩, ho, sm⟩
    refine ⟨_, rfl, _, rfl, (by show 2 ≤ sizeLine; decide), fun p np => ?_⟩
    refine q (make as, make bs) p _ ⟨⟨as, hA.la, rfl, hA.sa, hA.za⟩, ⟨bs, hA.lb, rfl, hA.sb, hA.zb⟩, ?_⟩ (sm.free np) (sm.trans (same_new np)) upd_same
    refine make_cop fun i => ?_
    by_cases hi : i < 12
    · exact (hA.ap i hi).elim .inl fun z => .inr (.inl z)
    · exact .inr (.inr (by omega))
/-! ### _law_program -/
def spProgram (K : PySem.W.Frag) : Sp := fun vs H Q _ => ∃ m k : Nat, vs = [nI m, nI k] ∧ 1 ≤ k ∧ k ≤ 12 ∧ ∀ (l : Prog) (p : Addr) (xs : List V) H', (∀ f ∈ l, FracN k f) → l.length ≤ 6 → H p = none → Same H H' → H' p = some (.lst xs) → DpAll K H' xs (l.map fracD) → Q (.ref p) H'
theorem fracs_of {k : Nat} : ∀ {ds : List PyData}, (∀ d ∈ ds, ∃ f, d = fracD f ∧ FracN k f) → ∃ l : Prog, ds = l.map fracD ∧ ∀ f ∈ l, FracN k f
  | [], _ => ⟨[], rfl, fun f h => (nomatch h)⟩
  | d :: ds, h => by
    obtain ⟨f, rfl, hf⟩ := h d List.mem_cons_self
    obtain ⟨l, rfl, hl⟩ := fracs_of (ds := ds) fun e he => h e (List.mem_cons_of_mem _ he)
    refine ⟨f :: l, rfl, fun g hg => ?_⟩
    rcases List.mem_cons.mp hg with e | e
    · rw [e]
      exact hf
    · exact hl g e
theorem ok__law_program (T : Txt K mg) : Cal P w K mg base L2.CX0 4 "_law_program" ["more", "primes"] (spProgram K) := by
  have c__law_drawn := ok__law_drawn (P := P) (w := w) (base := base) T
  have c__law_fraction := ok__law_fraction (P := P) (w := w) (base := base) T
  refine Cal.mk0 T.d__law_program T.m__law_program sc__law_program (fun _ _ _ _ _ _ us hl => match us, hl with | [_, _], _ => rfl) (fun vs H Q E h => ?_) (fun cdv A outer s H vs Q E hr h => ?_)
  · obtain ⟨m, k, rfl, _⟩ := h
    rfl
  obtain ⟨m, k, rfl, hk1, hk2, q⟩ := h
  refine ⟨_, (pss_cons (ps_setLc (i := 2) (own := [("j", 3)]) rfl sc__law_program.nd rfl rfl (sw_true rfl rfl rfl (by decide +kernel)) (pi_range1 (by rfl) T.b_range (pa_cons (pe_op opN_mod (pv 0) (pe_ix (ixL rfl) (pe_lst (pa_cons pe_int (pa_cons pe_int pa_nil))) (pe_op opN_mod (pe_op opN_div (pv 0) pe_int) pe_int) (fun _ _ => rfl))) pa_nil)) (blkOk_by (own := [("j", 3)]) (N := ["more", "primes", "found", "j", "one"]) (sc := defScope s__law_program) (by decide +kernel)) (fun _ _ _ _ _ => (pg_name (i := 3) sc__law_program.nd rfl (.inl rfl))) (fun _ _ _ _ _ => pts_nil) (fun _ _ _ _ _ => (pe_cal c__law_fraction (hr.mono (by decide)) (by rfl) pass0 (pa_cons (pe_cal c__law_drawn (hr.mono (by decide)) (by rfl) pass0 (pa_cons (pv 0) (pa_cons (pv 3) pa_nil))) (pa_cons (pv 1) pa_nil)))))
      (pss_one (ps_ret (pe_lc (own := [("one", 4)]) rfl sc__law_program.nd (piL rfl (pv 2)) (blkOk_by (own := [("one", 4)]) (N := ["more", "primes", "found", "j", "one"]) (sc := defScope s__law_program) (by decide +kernel)) (fun _ _ _ _ _ => (pg_name (i := 4) sc__law_program.nd rfl (.inl rfl))) (fun _ _ _ _ _ => (pts_one (PW.pt (pw_or (pt_cmpR opN_gt (pe_ix (ixT rfl) (pv 4) pe_int (fun _ _ => rfl)) pe_int (nomark _)) (pw_or1 (pt_cmpR opN_eq (pe_op opN_mod (pe_op opN_div (pv 0) pe_int) pe_int) pe_int (nomark _))))))) (fun _ _ _ _ _ => (pv 4)))))), ?_⟩
  have h8 : (8 : Nat).log2 < 9000 := by decide
  have h64 : (64 : Nat).log2 < 9000 := by decide
  obtain ⟨c, hc, hc0, hc7⟩ : ∃ c : Nat, ([nI 4, nI 7])[m / 8 % 2]? = some (nI c) ∧ 0 < c ∧ c ≤ 7 := by
    have : m / 8 % 2 < 2 := Nat.mod_lt _ (by decide)
    match m / 8 % 2, this with
    | 0, _ => exact ⟨4, rfl, by decide, by decide⟩
    | 1, _ => exact ⟨7, rfl, by decide, by decide⟩
  refine ⟨_, rfl, (by show 2 ≤ sizeLine; decide), fun p4 np4 => ⟨_, rfl, m, 8, rfl, rfl, ⟨by decide, h8⟩, _, 2, rfl, rfl, by omega, p4, _, _, _, rfl, rfl, SqL.of upd_same, atIn hc, m, c, rfl, rfl, hc0, _, rfl, ?_, ?_, ?_⟩⟩
  · omega
  · have := Nat.mod_lt m hc0
    omega
  have s1 : Same H (upd H p4 (.lst [nI 4, nI 7])) := same_new np4
  intro D hD
  have en : (((m % c : Nat) : Int)).toNat = m % c := by omega
  have hmc : m % c ≤ 6 := by have := Nat.mod_lt m hc0; omega
  rw [en]
  refine lc_ex (K := K) walk_nats hD (by omega) (fun _ _ => trivial) (fun d => ∃ f, d = fracD f ∧ FracN k f) (fun d ⟨f, e, _⟩ => by rw [e]; exact noL_frac f) ?_ ?_
  · rintro i x H' H'' A B hi s' ⟨rfl, rfl⟩ hA hB
    refine ⟨rfl, _, rfl, _, rfl, (m : Int), i, rfl, by omega, fun d _ => ⟨_, rfl, d, k, rfl, hk1, hk2, fun f p H4 hf np s4 hp => ?_⟩⟩
    exact hA _ (fracD f) H4 ⟨f, rfl, hf⟩ s4 (.tup (SqT.of hp) (.cons (.int _) (.cons (.int _) .nil)))
  · intro H2 ys ds s2 hD2 hA hS hl
    have s12 := s1.trans s2
    refine ⟨_, rfl, D, rfl, ⟨_, SqL.of hD2⟩, fun D2 nD2 => ?_⟩
    have hyl := dps_len hA
    refine lc_ex (K := K) walk_list nD2 (by omega) (fun H' s' => s'.seq (SqL.of hD2)) (fun d => ∃ f, d = fracD f ∧ FracN k f) (fun d ⟨f, e, _⟩ => by rw [e]; exact noL_frac f) ?_ ?_
    · rintro i x H' H'' A B hi s' ⟨rfl, hx⟩ hA' hB
      obtain ⟨d, hd, hdp⟩ := dps_at2 (same_dps s' hA) hx
      obtain ⟨f, rfl, hf⟩ := hS d (List.mem_of_getElem? hd)
      obtain ⟨b, rfl, hb⟩ := frac_at hdp
      refine ⟨rfl, _, rfl, b, _, 1, _, rfl, rfl, hb, atI1, f.2, 1, rfl, rfl, _, rfl, ?_⟩
      have yes : tVar 4 [some (nI m), some (nI k), some (.ref D), none, some (.ref b)] H'' A := ⟨_, rfl, hA' _ _ _ ⟨f, rfl, hf⟩ (Same.refl _) hdp⟩
      by_cases h1 : 1 < f.2
      · rw [decide_eq_true h1]
        exact iteT (iteT yes)
      · rw [decide_eq_false h1]
        refine iteF ⟨_, rfl, m, 64, rfl, rfl, ⟨by decide, h64⟩, _, 4, rfl, rfl, by omega, _, 0, rfl, rfl, _, rfl, ?_⟩
        exact ite2 (fun _ => yes) (fun _ => hB _ (Same.refl _))
    · intro H3 zs es s3 hD3 hA3 hS3 hl3
      obtain ⟨l, rfl, hlF⟩ := fracs_of hS3
      rw [List.length_map] at hl3
      exact q l D2 zs H3 hlF (by omega) (s12.free nD2) (s12.trans s3) hD3 hA3
/-! ### _law_step -/
def spLawStep (K : PySem.W.Frag) : Sp := fun vs H Q _ => ∃ (v : V) (l : Prog) (n : Nat), vs = [v, nI n] ∧ Dp K H v (progD l) ∧ (∀ p ∈ l, 0 < p.2 ∧ p.1 < 2 ^ 20 ∧ p.2 < 2 ^ 20) ∧ n < 2 ^ 100000 ∧
  (lawStep l n = none → ∀ H', Same H H' → Q .non H') ∧ ∀ i m, lawStep l n = some (i, m) → ∀ p H', H p = none → Same H H' → H' p = some (.tup [nI i, nI m]) → Q (.ref p) H'
theorem lawStep_some {l : Prog} {n i : Nat} (hi : i < l.length) (h : n * (l[i]).1 % (l[i]).2 = 0) (hb : ∀ (j : Nat) (hj : j < l.length), j < i → n * (l[j]).1 % (l[j]).2 ≠ 0) : lawStep l n = some (i, n * (l[i]).1 / (l[i]).2) := by
  unfold lawStep
  have e : (l.findIdx? fun p => decide (n * p.1 % p.2 = 0)) = some i := by
    rw [List.findIdx?_eq_some_iff_getElem]
    refine ⟨hi, by simpa using h, fun j hj => ?_⟩
    have := hb j (by omega) hj
    simpa using this
  rw [e, Option.map_some, unAt_eq hi, upAt_eq hi]
theorem lawStep_none {l : Prog} {n : Nat} (h : ∀ (j : Nat) (hj : j < l.length), n * (l[j]).1 % (l[j]).2 ≠ 0) : lawStep l n = none := by
  unfold lawStep
  have e : (l.findIdx? fun p => decide (n * p.1 % p.2 = 0)) = none := by
    rw [List.findIdx?_eq_none_iff]
    intro p hp
    obtain ⟨j, hj, e⟩ := List.mem_iff_getElem.mp hp
    have := h j hj
    rw [e] at this
    simpa using this
  rw [e]
  rfl
theorem ok__law_step (T : Txt K mg) : Cal P w K mg base L2.CX0 1 "_law_step" ["program", "number"] (spLawStep K) := by
  refine Cal.mk0 T.d__law_step T.m__law_step sc__law_step (fun _ _ _ _ _ _ us hl => match us, hl with | [_, _], _ => rfl) (fun vs H Q E h => ?_) (fun cdv A outer s H vs Q E hr h => ?_)
  · obtain ⟨v, l, n, rfl, _⟩ := h
    rfl
  obtain ⟨v, l, n, rfl, hd, hpos, hn, q1, q2⟩ := h
  obtain ⟨a, xs, rfl, hs, ha, hlen⟩ := prog_at hd
  refine ⟨_, (pss_cons (ps_for PassesOwn.never rfl (piE rfl (by rfl) T.b_enumerate (pa_cons (pv 0) pa_nil)) (pgT (n := 2) rfl rfl (pgs_cons (pg_name (i := 2) sc__law_step.nd rfl (.inl rfl)) (pgs_cons (pgT (n := 2) rfl rfl (pgs_cons (pg_name (i := 3) sc__law_step.nd rfl (.inl rfl)) (pgs_cons (pg_name (i := 4) sc__law_step.nd rfl (.inl rfl)) pgs_nil))) pgs_nil))) (pss_one (ps_if (pt_cmpR opN_eq (pe_op opN_mod (pe_op opN_mul (pv 1) (pv 3)) (pv 4)) pe_int (nomark _)) (pss_one (ps_ret (pe_tup (pa_cons (pv 2) (pa_cons (pe_op opN_div (pe_op opN_mul (pv 1) (pv 3)) (pv 4)) pa_nil))))) pss_nil)))
      (pss_one (ps_ret pe_non))), ?_⟩
  refine ⟨_, rfl, a, xs, rfl, hs, for_it walk_enum (fun i σ H3 => (∃ y2 y3 y4, σ = [some (.ref a), some (nI n), y2, y3, y4]) ∧ Same H H3 ∧ ∀ (j : Nat) (hj : j < l.length), j < i → n * (l[j]).1 % (l[j]).2 ≠ 0) ⟨⟨none, none, none, rfl⟩, Same.refl H, fun j hj h => absurd h (by omega)⟩ (fun i σ H3 _ p => p.2.1.seq hs) ?_ ?_⟩
  · rintro i x σ H3 H4 hi ⟨⟨y2, y3, y4, rfl⟩, sm, hb⟩ ⟨T', x1, x2, rfl, nT, rfl, e1, e2⟩
    have e1 : x1 = nI i := (Option.some.inj e1).symm
    subst e1
    have sT : Same H3 (upd H3 T' (.tup [nI i, x2])) := same_new nT
    obtain ⟨hi', b, rfl, hb2, _⟩ := prog_item (same_dps (sm.trans sT) ha) e2
    obtain ⟨p1, p2, p3⟩ := hpos _ (List.getElem_mem hi')
    have l1 := lt_log2 (j := 20) p2 (by decide) (by decide)
    have l2 := lt_log2 (j := 9000) p3 (by decide) (by decide)
    have l3 := lt_log2 (j := 100000) hn (by decide) (by decide)
    refine ⟨T', _, rfl, SqT.of upd_same, rfl, _, _, rfl, _, _, rfl, ⟨b, _, rfl, hb2, rfl, _, _, rfl, _, _, rfl, rfl, rfl, ?_⟩⟩
    refine ⟨_, rfl, _, rfl, n, (l[i]).1, rfl, rfl, by omega, _, rfl, _, (l[i]).2, rfl, rfl, p1, _, 0, rfl, rfl, _, rfl, ?_⟩
    by_cases hf : n * (l[i]).1 % (l[i]).2 = 0
    · rw [decide_eq_true hf]
      have e := lawStep_some hi' hf fun j hj hji => hb j hj hji
      refine iteT ⟨_, rfl, _, rfl, _, rfl, n, (l[i]).1, rfl, rfl, by omega, _, rfl, _, (l[i]).2, rfl, rfl, ⟨p1, l2⟩, (by show 2 ≤ sizeLine; decide), fun p np => ?_⟩
      exact q2 _ _ e p _ ((sm.trans sT).free np) ((sm.trans sT).trans (same_new np)) upd_same
    · rw [decide_eq_false hf]
      refine iteF ⟨⟨_, _, _, rfl⟩, sm.trans sT, fun j hj hji => ?_⟩
      by_cases hji2 : j = i
      · subst hji2
        exact hf
      · exact hb j hj (by omega)
  · rintro σ H3 ⟨⟨y2, y3, y4, rfl⟩, sm, hb⟩
    exact q1 (lawStep_none fun j hj => hb j hj (by omega)) H3 sm
end
end Fr
namespace Fr
open PySem PySem.Spec PyProof.Rows L2
section
variable {P : Program} {w : World} {K : PySem.W.Frag} {mg : Str → Option Value} {base : Heap}
theorem lay_fracs : ∀ l : Prog, PyData.canLayAll0 (l.map fracD) = true
  | [] => by simp [PyData.canLayAll0]
  | p :: l => by simp [PyData.canLayAll0, PyData.canLay0, fracD, lay_fracs l]
theorem depth_fracs : ∀ l : Prog, PyData.depthAll (l.map fracD) ≤ 2
  | [] => by simp [PyData.depthAll]
  | p :: l => by
    have := depth_fracs l
    simp [PyData.depthAll, PyData.depth, fracD]
    omega
theorem shaped_prog (l : Prog) : SeqAt.shaped (progD l) = true := by
  unfold SeqAt.shaped progD
  have := depth_fracs l
  simp [PyData.canLay0, PyData.depth, lay_fracs]
  omega
theorem shaped_nats (ns : List Nat) : SeqAt.shaped (.list (ns.map nD)) = true := by
  have h := shaped_ints (ns.map fun (a : Nat) => (a : Int))
  rw [List.map_map] at h
  exact h
theorem eqv_nil (ds : List PyData) : PyData.eqv (.list ds) (.list []) = ds.isEmpty := by
  cases ds <;> simp [PyData.eqv, PyData.eqvAll]
/-- the program behind the law's first part -/
structure Made (K : PySem.W.Frag) (l : Prog) (H : Hp) (a : Addr) : Prop where
  ok : isProg l = true
  fr : ∀ p ∈ l, p.1 < 2 ^ 20 ∧ p.2 < 2 ^ 20 ∧ ∃ b, SomeN 12 b p.2 ∧ b ≤ 4
  ex : ∃ xs, H a = some (.lst xs) ∧ DpAll K H xs (l.map fracD)
theorem Made.same {l : Prog} {H H' : Hp} {a : Addr} (h : Made K l H a) (s : Same H H') : Made K l H' a := by
  obtain ⟨xs, h1, h2⟩ := h.ex
  exact ⟨h.ok, h.fr, xs, s _ _ h1, same_dps s h2⟩
theorem Made.dp {l : Prog} {H : Hp} {a : Addr} (h : Made K l H a) : Dp K H (.ref a) (progD l) := by
  obtain ⟨xs, h1, h2⟩ := h.ex
  exact .lst (SqL.of h1) h2
theorem SomeN.mono {k k' b b' n : Nat} (h : SomeN k b n) (hk : k ≤ k') (hb : b ≤ b') : SomeN k' b' n := by
  obtain ⟨as, h1, h2, h3, h4⟩ := h
  exact ⟨as, h1, h2, by omega, fun j hj hj2 => h4 j (by omega) hj2⟩
theorem SomeN.double {k b n : Nat} (h : SomeN k b n) (hk : 1 ≤ k) : SomeN k (b + 1) (n * 2) := by
  obtain ⟨as, h1, h2, h3, h4⟩ := h
  have ha : as[0]? = some (as[0]'(by omega)) := List.getElem?_eq_getElem _
  refine ⟨as.set 0 (as[0]'(by omega) + 1), by rw [List.length_set]; exact h1, ?_, by rw [sum_set1 ha]; omega, fun j hj hj2 => ?_⟩
  · rw [make_set (p := 2) rfl ha, h2]
  · rw [List.getElem?_set_ne (by omega)]
    exact h4 j hj hj2
theorem one_some : SomeN 12 0 1 := ⟨List.replicate 12 0, by decide, make_zero.symm, by decide, fun j _ hj => by rw [List.getElem?_replicate, if_pos hj]⟩
theorem small18 {k b n : Nat} (h : SomeN k b n) (hb : b ≤ 3) : n < 2 ^ 20 := Nat.lt_of_le_of_lt h.le (Nat.pow_lt_pow_right (by decide) (by omega))
theorem fracN_made {k : Nat} {p : Nat × Nat} (h : FracN k p) (hk : k ≤ 12) : p.1 < 2 ^ 20 ∧ p.2 < 2 ^ 20 ∧ ∃ b, SomeN 12 b p.2 ∧ b ≤ 4 :=
  ⟨small18 h.1 (by decide), small18 h.2.1 (by decide), 3, h.2.1.mono hk (Nat.le_refl _), by decide⟩
/-- a fraction of one over a number of up to four primes, or its double -/
theorem one_over {n b : Nat} (h : SomeN 12 b n) (hb : b ≤ 4) (hn : n ≤ 1000000) : isFrac (1, n) = true ∧ (1 : Nat) < 2 ^ 20 ∧ n < 2 ^ 20 ∧ ∃ b, SomeN 12 b n ∧ b ≤ 4 :=
  ⟨isFrac_iff.mpr ⟨one_some.num (by decide), h.num (by omega), (by show 1 ≤ 1000000; decide), hn, Nat.gcd_one_left n⟩, by decide, mil_lt hn, b, h, hb⟩
theorem fracD_inj {x y : Nat × Nat} (h : fracD x = fracD y) : x = y := by
  have h1 := PyData.tuple.inj h
  injection h1 with h2 h3
  injection h3 with h4 h5
  have h6 := PyData.int.inj h2
  have h7 := PyData.int.inj h4
  exact Prod.ext (by omega) (by omega)
theorem progD_inj {l l' : Prog} (h : progD l = progD l') : l = l' := (List.map_inj_right fun _ _ => fracD_inj).mp (PyData.list.inj h)
theorem nD_inj {n m : Nat} (h : nD n = nD m) : n = m := by
  have := PyData.int.inj h
  omega
def spLaw (K : PySem.W.Frag) : Sp := fun vs H Q _ => ∃ (a : Addr) (ns : List Int), vs = [.ref a] ∧ SqL K H a (ns.map V.int) ∧ ns.length ≤ 63 ∧ ∀ H', Q (.bl true) H'
theorem due_gath (l : Prog) (i : Nat) (hi : i < l.length) : (gath (fun j => (l.take i)[j]?.bind fun p => if (l[i]).2 % p.2 = 0 then some (nD 1) else none) (l.take i).length).isEmpty = !dueAt l i := by
  rw [gath_filter (l.take i) fun p => if (l[i]).2 % p.2 = 0 then some (nD 1) else none]
  unfold dueAt
  rw [unAt_eq hi]
  induction l.take i with
  | nil => rfl
  | cons p m ih =>
    rw [List.filterMap_cons, List.any_cons]
    by_cases h : (l[i]).2 % p.2 = 0
    · rw [if_pos h, decide_eq_true h]
      rfl
    · rw [if_neg h, decide_eq_false h, Bool.false_or]
      exact ih
theorem cut_take (xs : List V) (i : Nat) : cutV xs none (some (i : Int)) = xs.take i := by
  unfold cutV
  rw [show HT.sIx xs.length xs.length (some (i : Int)) = min i xs.length from HT.sIx_nat xs.length xs.length i, HT.sIx_none]
  rw [List.drop_zero, Nat.sub_zero]
  rcases Nat.le_total i xs.length with h | h
  · rw [Nat.min_eq_left h]
  · rw [Nat.min_eq_right h, List.take_length, List.take_of_length_le h]
theorem filter_range_succ (f : Nat → Bool) (i : Nat) : (List.range (i + 1)).filter f = (List.range i).filter f ++ (if f i = true then [i] else []) := by
  rw [List.range_succ, List.filter_append, List.filter_cons]
  cases f i <;> rfl
theorem led_small {l : Prog} {n m : Nat} {H : Hp} {a : Addr} (hM : Made K l H a) (hn : n < 2 ^ 40) (h : led l n = some m) : m < 2 ^ 60 := by
  unfold led at h
  obtain ⟨i, hi, rfl⟩ := Option.map_eq_some_iff.mp h
  have hlt := firstAt_lt hi
  rw [unAt_eq hlt, upAt_eq hlt]
  have h1 := (hM.fr _ (List.getElem_mem hlt)).1
  have h2 : n / (l[i]).2 < 2 ^ 40 := Nat.lt_of_le_of_lt (Nat.div_le_self _ _) hn
  have := Nat.mul_lt_mul'' h2 h1
  rw [← Nat.pow_add] at this
  exact this
theorem not_great {m : Nat} (h0 : 0 < m) (h : m < 2 ^ 60) : isGreat (some m) = false := by
  unfold isGreat
  have := room_lt h0 h (maxN_mem (rooms_ne m))
  exact decide_eq_false (by omega)
theorem ok_law (T : Txt K mg) : Cal P w K mg base L2.CX0 9 "law" ["script"] (spLaw K) := by
  have c__law_cell := ok__law_cell (P := P) (w := w) (base := base) T
  have c__law_drawn := ok__law_drawn (P := P) (w := w) (base := base) T
  have c__law_program := ok__law_program (P := P) (w := w) (base := base) T
  have c__law_some := ok__law_some (P := P) (w := w) (base := base) T
  have c__law_step := ok__law_step (P := P) (w := w) (base := base) T
  have c_idle := ok_idle (P := P) (w := w) (base := base) T
  have c_lean := ok_lean (P := P) (w := w) (base := base) T
  have c_step := ok_step (P := P) (w := w) (base := base) T
  refine Cal.mk0 T.d_law T.m_law sc_law (fun _ _ _ _ _ _ us hl => match us, hl with | [_], _ => rfl) (fun vs H Q E h => ?_) (fun cdv A outer s H vs Q E hr h => ?_)
  · obtain ⟨a, ns, rfl, _⟩ := h
    rfl
  obtain ⟨sc, ns, rfl, hS, hlen, q⟩ := h
  refine ⟨_, (pss_cons (ps_for PassesOwn.never rfl (pi_range1 (by rfl) T.b_range (pa_cons (pe_callB (max2N rfl) (by rfl) T.b_max boot_max (pa_cons pe_int (pa_cons (pe_callB (min2N rfl) (by rfl) T.b_min boot_min (pa_cons pe_int (pa_cons (pe_callB (lenS rfl) (by rfl) T.b_len PySem.boot_len (pa_cons (pv 0) pa_nil)) pa_nil))) pa_nil))) pa_nil)) (pg_name (i := 1) sc_law.nd rfl (.inl rfl)) (pss_cons (ps_set (i := 2) sc_law.nd rfl (.inl rfl) (pe_cal c__law_drawn (hr.mono (by decide)) (by rfl) pass0 (pa_cons (pe_cal c__law_cell (hr.mono (by decide)) (by rfl) pass0 (pa_cons (pv 0) (pa_cons (pv 1) pa_nil))) (pa_cons (pv 1) pa_nil))))
      (pss_cons (ps_set (i := 3) sc_law.nd rfl (.inl rfl) (pe_cal c__law_program (hr.mono (by decide)) (by rfl) pass0 (pa_cons (pe_op opN_div (pv 2) pe_int) (pa_cons (pe_op opN_add pe_int (pe_op opN_mod (pv 2) pe_int)) pa_nil))))
      (C8.pss_cut (ps_if (PW.pt (pw_and (pt_cmpR (neD rfl hr.units) (pv 3) (pe_lst pa_nil) (nomark _)) (pw_and1 (pt_cmpR opN_eq (pe_op opN_mod (pe_op opN_div (pv 2) pe_int) pe_int) pe_int (nomark _))))) (pss_cons (ps_asg (pe_ix (ixL rfl) (pv 3) pe_int (fun _ _ => rfl)) (pgT (n := 2) rfl rfl (pgs_cons (pg_name (i := 4) sc_law.nd rfl (.inl rfl)) (pgs_cons (pg_name (i := 5) sc_law.nd rfl (.inr rfl)) pgs_nil))))
      (pss_one (ps_set (i := 3) sc_law.nd rfl (.inl rfl) (pe_op op_cat (pv 3) (pe_lst (pa_cons (pe_ifExp (pt_cmpR opN_ne (pe_op opN_mod (pv 4) pe_int) pe_int (nomark _)) (pe_tup (pa_cons pe_int (pa_cons (pe_op opN_mul (pv 5) pe_int) pa_nil))) (pe_tup (pa_cons pe_int (pa_cons (pv 5) pa_nil)))) pa_nil)))))) pss_nil)
      (pss_cons (ps_set (i := 6) sc_law.nd rfl (.inr rfl) (pe_lst pa_nil))
      (pss_cons (ps_for PassesOwn.never rfl (piE rfl (by rfl) T.b_enumerate (pa_cons (pv 3) pa_nil)) (pgT (n := 2) rfl rfl (pgs_cons (pg_name (i := 7) sc_law.nd rfl (.inl rfl)) (pgs_cons (pgT (n := 2) rfl rfl (pgs_cons (pg_name (i := 4) sc_law.nd rfl (.inl rfl)) (pgs_cons (pg_name (i := 5) sc_law.nd rfl (.inr rfl)) pgs_nil))) pgs_nil))) (pss_one (ps_if (pt_cmpR (neD rfl hr.units) (pe_lc (own := [("one", 12)]) rfl sc_law.nd (piL rfl (pe_slice (slL rfl) (pv 3) po_none (po_some (pv 7)))) (blkOk_by (own := [("one", 12)]) (N := ["script", "k", "more", "program", "top", "under", "due", "place", "rest", "kept", "j", "number", "one", "first"]) (sc := defScope s_law) (by decide +kernel)) (fun _ _ _ _ _ => (pg_name (i := 12) sc_law.nd rfl (.inl rfl))) (fun _ _ _ _ _ => (pts_one (pt_cmpR opN_eq (pe_op opN_mod (pv 5) (pe_ix (ixT rfl) (pv 12) pe_int (fun _ _ => rfl))) pe_int (nomark _)))) (fun _ _ _ _ _ => pe_int)) (pe_lst pa_nil) (nomark _)) (pss_one (ps_expr (bm rfl PySem.F.plainAttrs_list PySem.F.slot_list_append PySem.F.type_list_append mt_append (pv 6) (pa_cons (pv 7) pa_nil)))) pss_nil)))
      (pss_cons (ps_if (pt_cmpR (neD rfl hr.units) (pe_cal c_idle (hr.mono (by decide)) (by rfl) passN (pa_cons (pv 3) pa_nil)) (pv 6) (nomark _)) (pss_one (ps_ret pe_bl)) pss_nil)
      (pss_cons (ps_set (i := 8) sc_law.nd rfl (.inl rfl) (pe_cal c_lean (hr.mono (by decide)) (by rfl) passN (pa_cons (pv 3) pa_nil)))
      (pss_cons (ps_setLc (i := 9) (own := [("place", 7), ("one", 12)]) rfl sc_law.nd rfl rfl (sw_true rfl rfl rfl (by decide +kernel)) (piE rfl (by rfl) T.b_enumerate (pa_cons (pv 3) pa_nil)) (blkOk_by (own := [("place", 7), ("one", 12)]) (N := ["script", "k", "more", "program", "top", "under", "due", "place", "rest", "kept", "j", "number", "one", "first"]) (sc := defScope s_law) (by decide +kernel)) (fun _ _ _ _ _ => (pgT (n := 2) rfl rfl (pgs_cons (pg_name (i := 7) sc_law.nd rfl (.inl rfl)) (pgs_cons (pg_name (i := 12) sc_law.nd rfl (.inl rfl)) pgs_nil)))) (fun _ _ _ _ _ => (pts_one (pt_cmpR (ninS rfl) (pv 7) (pv 6) (by rfl)))) (fun _ _ _ _ _ => (pv 12)))
      (pss_cons (ps_if (PW.pt (pw_or (pt_cmpR (neD rfl hr.units) (pv 8) (pv 9) (nomark _)) (pw_or1 (pt_cmpR (neD rfl hr.units) (pe_cal c_idle (hr.mono (by decide)) (by rfl) passN (pa_cons (pv 8) pa_nil)) (pe_lst pa_nil) (nomark _))))) (pss_one (ps_ret pe_bl)) pss_nil)
      (pss_cons (ps_for PassesOwn.never rfl (pi_range1 (by rfl) T.b_range (pa_cons pe_int pa_nil)) (pg_name (i := 10) sc_law.nd rfl (.inl rfl)) (pss_cons (ps_set (i := 11) sc_law.nd rfl (.inl rfl) (pe_cal c__law_some (hr.mono (by decide)) (by rfl) pass0 (pa_cons (pe_cal c__law_drawn (hr.mono (by decide)) (by rfl) pass0 (pa_cons (pv 2) (pa_cons (pe_op opN_add pe_int (pv 10)) pa_nil))) (pa_cons pe_int (pa_cons pe_int pa_nil)))))
      (pss_cons (ps_set (i := 12) sc_law.nd rfl (.inl rfl) (pe_cal c__law_step (hr.mono (by decide)) (by rfl) pass0 (pa_cons (pv 3) (pa_cons (pv 11) pa_nil))))
      (pss_one (ps_if (pt_cmpR op_ne (pe_cal c_step (hr.mono (by decide)) (by rfl) passN (pa_cons (pv 8) (pa_cons (pv 11) pa_nil))) (pe_ifExp (pt_cmpR op_isN (pv 12) pe_non (nomark _)) pe_non (pe_ix (ixT rfl) (pv 12) pe_int (fun _ _ => rfl))) (nomark _)) (pss_one (ps_ret pe_bl)) pss_nil)))))
      (pss_one (ps_for PassesOwn.never rfl (piE rfl (by rfl) T.b_enumerate (pa_cons (pv 3) pa_nil)) (pgT (n := 2) rfl rfl (pgs_cons (pg_name (i := 7) sc_law.nd rfl (.inl rfl)) (pgs_cons (pgT (n := 2) rfl rfl (pgs_cons (pg_name (i := 4) sc_law.nd rfl (.inl rfl)) (pgs_cons (pg_name (i := 5) sc_law.nd rfl (.inr rfl)) pgs_nil))) pgs_nil))) (pss_cons (ps_set (i := 13) sc_law.nd rfl (.inl rfl) (pe_ix (ixT rfl) (pe_cal c__law_step (hr.mono (by decide)) (by rfl) pass0 (pa_cons (pv 3) (pa_cons (pv 5) pa_nil))) pe_int (fun _ _ => rfl)))
      (pss_one (ps_if (pt_cmpR op_ne (pe_cmpR opN_ne (pv 13) (pv 7) (nomark _)) (pe_cmpR (inS rfl) (pv 7) (pv 6) (by rfl)) (nomark _)) (pss_one (ps_ret pe_bl)) pss_nil))))))))))))))))
      (pss_one (ps_ret pe_bl))), ?_⟩
  have h64 : (64 : Nat).log2 < 9000 := by decide
  have h8 : (8 : Nat).log2 < 9000 := by decide
  refine ⟨_, rfl, sc, _, rfl, .inl hS, 4, _, rfl, 1, _, rfl, _, rfl, by omega, by omega, ?_⟩
  generalize hT : ((max 1 (min 4 (ns.map V.int).length) : Nat) : Int).toNat = turns
  have hturn : turns ≤ 4 := by omega
  refine for_it walk_nats (fun i σ H3 => (∃ r, σ = some (.ref sc) :: r ∧ r.length = 13) ∧ Same H H3) ⟨⟨_, rfl, rfl⟩, Same.refl H⟩ (fun _ _ _ _ _ => trivial) ?_ (fun σ H3 _ => q H3)
  rintro k x σ H0 H4 hk ⟨⟨r, rfl, hrl⟩, sm0⟩ ⟨rfl, rfl⟩
  obtain ⟨y1, y2, y3, y4, y5, y6, y7, y8, y9, y10, y11, y12, y13, rfl⟩ : ∃ y1 y2 y3 y4 y5 y6 y7 y8 y9 y10 y11 y12 y13, r = [y1, y2, y3, y4, y5, y6, y7, y8, y9, y10, y11, y12, y13] := by
    match r, hrl with
    | [y1, y2, y3, y4, y5, y6, y7, y8, y9, y10, y11, y12, y13], _ => exact ⟨y1, y2, y3, y4, y5, y6, y7, y8, y9, y10, y11, y12, y13, rfl⟩
  -- more
  refine ⟨_, rfl, _, rfl, sc, k, ns, rfl, sm0.seq hS, hlen, by omega, fun c H1 s1 => ⟨_, rfl, c, k, rfl, by omega, fun more _ => ?_⟩⟩
  -- program
  have hk3 : more % 3 < 3 := Nat.mod_lt _ (by decide)
  refine ⟨_, rfl, more, 64, rfl, rfl, ⟨by decide, h64⟩, _, rfl, more, 3, rfl, rfl, by omega, 2, more % 3, rfl, rfl, more / 64, 2 + more % 3, rfl, by omega, by omega, fun l0 pa xs0 H2 hl0 hl6 np s2 hp hdp => ?_⟩
  have sm2 : Same H H2 := (sm0.trans s1).trans s2
  have hP0 : isProg l0 = true := fracs_prog hl0 (by omega)
  have M0 : Made K l0 H2 pa := ⟨hP0, fun p hp => fracN_made (hl0 p hp) (by omega), xs0, hp, hdp⟩
  refine ⟨fun σ H3 => ∃ (l : Prog) (a : Addr) (t u : Option V), Made K l H3 a ∧ l.length ≤ 7 ∧ Same H H3 ∧ σ = [some (.ref sc), some (nI k), some (nI more), some (.ref a), t, u, y6, y7, y8, y9, y10, y11, y12, y13], ?_, ?_⟩
  · -- if program != [] and more // 8 % 2 == 0
    refine ⟨_, rfl, Nat.zero_le _, fun p1 np1 => ?_⟩
    have s3 : Same H2 (upd H2 p1 (.lst [])) := same_new np1
    refine ⟨progD l0, .list [], same_dp s3 M0.dp, .lst (SqL.of upd_same) .nil, shaped_prog l0, shaped_ints [], _, rfl, ?_⟩
    have stay : ∃ (l : Prog) (a : Addr) (t u : Option V), Made K l (upd H2 p1 (.lst [])) a ∧ l.length ≤ 7 ∧ Same H (upd H2 p1 (.lst [])) ∧ [some (.ref sc), some (nI k), some (nI more), some (.ref pa), y4, y5, y6, y7, y8, y9, y10, y11, y12, y13] = [some (.ref sc), some (nI k), some (nI more), some (.ref a), t, u, y6, y7, y8, y9, y10, y11, y12, y13] :=
      ⟨l0, pa, y4, y5, M0.same s3, by omega, sm2.trans s3, rfl⟩
    cases l0 with
    | nil => exact iteF (iteF stay)
    | cons f0 l0 =>
      refine iteT ⟨_, rfl, more, 8, rfl, rfl, ⟨by decide, h8⟩, _, 2, rfl, rfl, by omega, _, 0, rfl, rfl, _, rfl, ite2 (fun _ => ?_) (fun _ => stay)⟩
      obtain ⟨xs, hx, hxd⟩ := (M0.same s3).ex
      obtain ⟨b, hb, hbs⟩ := prog_get hxd (i := 0) (by simp)
      refine ⟨_, rfl, pa, xs, 0, _, rfl, rfl, SqL.of hx, atIn (i := 0) hb, b, _, rfl, hbs, rfl, _, _, rfl, _, _, rfl, rfl, ?_⟩
      -- program + [..]
      have hf0 := hl0 f0 List.mem_cons_self
      have hk12 : 2 + more % 3 ≤ 12 := by omega
      have fin : ∀ (n c : Nat) (H3 : Hp) (ta : Addr), Same (upd H2 p1 (.lst [])) H3 → SomeN 12 c n → c ≤ 4 → n ≤ 1000000 → H3 ta = some (.tup [nI 1, nI n]) → ∀ o, H3 o = none → ∀ z, (upd H3 o (.lst [.ref ta])) z = none →
          ∃ (l : Prog) (a : Addr) (t u : Option V), Made K l (upd (upd H3 o (.lst [.ref ta])) z (.lst (xs ++ [.ref ta]))) a ∧ l.length ≤ 7 ∧ Same H (upd (upd H3 o (.lst [.ref ta])) z (.lst (xs ++ [.ref ta]))) ∧
            [some (.ref sc), some (nI k), some (nI more), some (.ref z), some (nI f0.1), some (nI f0.2), y6, y7, y8, y9, y10, y11, y12, y13] = [some (.ref sc), some (nI k), some (nI more), some (.ref a), t, u, y6, y7, y8, y9, y10, y11, y12, y13] := by
        intro n c H3 ta s4 hsn hc hn ht o no z nz
        obtain ⟨g1, g2, g3, g4⟩ := one_over hsn hc hn
        have s5 : Same H3 (upd (upd H3 o (.lst [.ref ta])) z (.lst (xs ++ [.ref ta]))) := (same_new no).trans (same_new nz)
        refine ⟨f0 :: l0 ++ [(1, n)], z, _, _, ⟨?_, ?_, _, upd_same, ?_⟩, ?_, ((sm2.trans s3).trans s4).trans s5, rfl⟩
        · refine isProg_iff.mpr ⟨?_, fun p hp => ?_⟩
          · rw [List.length_append]
            show (f0 :: l0).length + 1 ≤ 16
            omega
          · rcases List.mem_append.mp hp with z | z
            · exact (hl0 p z).frac
            · have e : p = (1, n) := by simpa using z
              rw [e]
              exact g1
        · intro p hp
          rcases List.mem_append.mp hp with z | z
          · exact M0.fr p z
          · have e : p = (1, n) := by simpa using z
            rw [e]
            exact ⟨g2, g3, g4⟩
        · rw [List.map_append]
          exact dps_app (same_dps (s4.trans s5) hxd) (.cons (.tup (SqT.of (s5 _ _ ht)) (.cons (.int _) (.cons (.int _) .nil))) .nil)
        · rw [List.length_append]
          show (f0 :: l0).length + 1 ≤ 7
          omega
      have hu3 := hf0.2.1
      have hu18 : f0.2 ≤ 262144 := Nat.le_trans hu3.le (by decide)
      refine ⟨_, rfl, _, rfl, f0.1, 2, rfl, rfl, by omega, _, 0, rfl, rfl, _, rfl, ?_⟩
      have hxl : xs.length ≤ 6 := by
        have h1 := dps_len hxd
        rw [List.length_map] at h1
        omega
      cases hodd : decide (f0.1 % 2 = 0) with
      | true =>
        refine iteF ⟨_, rfl, (by show 2 ≤ sizeLine; decide), fun t nt => ⟨(by show 1 ≤ sizeLine; decide), fun o no => ?_⟩⟩
        refine ⟨pa, o, xs, _, rfl, rfl, ?_, upd_same, ?_, fun z nz => fin f0.2 3 _ t (same_new nt) (hu3.mono hk12 (Nat.le_refl _)) (by decide) (by omega) upd_same o no z nz⟩
        · exact (same_new no) _ _ ((same_new nt) _ _ hx)
        · exact Nat.le_trans (show xs.length + 1 ≤ 7 by omega) (by decide)
      | false =>
        have l1 : f0.2.log2 < 20 := lt_log2 (k := 20) (by omega) (by decide) (by decide)
        have l2 : (2 : Nat).log2 < 20 := by decide
        refine iteT ⟨_, rfl, f0.2, 2, rfl, rfl, by omega, (by show 2 ≤ sizeLine; decide), fun t nt => ⟨(by show 1 ≤ sizeLine; decide), fun o no => ?_⟩⟩
        refine ⟨pa, o, xs, _, rfl, rfl, ?_, upd_same, ?_, fun z nz => fin (f0.2 * 2) 4 _ t (same_new nt) ((hu3.double (by omega)).mono hk12 (Nat.le_refl _)) (by decide) (by omega) upd_same o no z nz⟩
        · exact (same_new no) _ _ ((same_new nt) _ _ hx)
        · exact Nat.le_trans (show xs.length + 1 ≤ 7 by omega) (by decide)
  -- behind it
  rintro σ H3 ⟨l, a, t, u, hM, hl7, sm3, rfl⟩
  refine ⟨Nat.zero_le _, fun du ndu => ?_⟩
  have s4 : Same H3 (upd H3 du (.lst [])) := same_new ndu
  obtain ⟨xs, hx, hxd⟩ := hM.ex
  have hxl : xs.length = l.length := by rw [dps_len hxd, List.length_map]
  have hdua : a ≠ du := ne_of_none hx ndu
  refine ⟨_, rfl, a, xs, rfl, s4.seq (SqL.of hx), for_it walk_enum (fun i σ H5 => (∃ t u pl, σ = [some (.ref sc), some (nI k), some (nI more), some (.ref a), t, u, some (.ref du), pl, y8, y9, y10, y11, y12, y13]) ∧ Same H3 H5 ∧ H5 du = some (.lst (((List.range i).filter (dueAt l)).map nI))) ⟨⟨_, _, _, rfl⟩, s4, upd_same⟩ (fun i σ H5 _ p => p.2.1.seq (SqL.of hx)) ?_ ?_⟩
  · rintro i x σ H5 H6 hi ⟨⟨t, u, pl, rfl⟩, sm, hdu⟩ ⟨T', x1, x2, rfl, nT, rfl, e1, e2⟩
    have e1 : x1 = nI i := (Option.some.inj e1).symm
    subst e1
    have sT : Same H5 (upd H5 T' (.tup [nI i, x2])) := same_new nT
    obtain ⟨hi', b, rfl, hb2, _⟩ := prog_item (same_dps (sm.trans sT) hxd) e2
    refine ⟨T', _, rfl, SqT.of upd_same, rfl, _, _, rfl, _, _, rfl, ⟨b, _, rfl, hb2, rfl, _, _, rfl, _, _, rfl, rfl, rfl, ?_⟩⟩
    generalize hH7 : upd H5 T' (.tup [nI i, .ref b]) = H7 at *
    refine ⟨_, rfl, _, rfl, i, rfl, a, xs, rfl, (sm.trans sT).seq (SqL.of hx), fun c nc => ?_⟩
    rw [cut_take]
    have sc' : Same H7 (upd H7 c (.lst (xs.take i))) := same_new nc
    refine ⟨c, rfl, ⟨_, SqL.of upd_same⟩, fun D hnD => ?_⟩
    have hA := dps_take i (same_dps ((sm.trans sT).trans sc') hxd)
    rw [← List.map_take] at hA
    have hlt : (xs.take i).length = (l.take i).length := by rw [List.length_take, List.length_take, hxl]
    refine lc_dp (K := K) (walk_list (xs := xs.take i)) hnD (by rw [hlt, List.length_take]; omega) (fun H' s' => s'.seq (SqL.of upd_same)) (fun j => (l.take i)[j]?.bind fun p => if (l[i]).2 % p.2 = 0 then some (nD 1) else none) ?_ ?_ ?_
    · intro j d e
      obtain ⟨p, _, e⟩ := Option.bind_eq_some_iff.mp e
      split at e
      · cases e
        rfl
      · cases e
    · rintro j x H' H'' A B hj s' ⟨rfl, hx'⟩ hA' hB
      obtain ⟨hj', b', rfl, hb', _⟩ := prog_item (same_dps s' hA) hx'
      have hg : (l.take i)[j]? = some (l.take i)[j] := List.getElem?_eq_getElem hj'
      have hp2 : 0 < ((l.take i)[j]).2 := isProg_pos hM.ok _ (List.mem_of_mem_take (List.getElem_mem hj'))
      refine ⟨rfl, _, rfl, _, rfl, b', _, 1, _, rfl, rfl, hb', atI1, (l[i]).2, ((l.take i)[j]).2, rfl, rfl, hp2, _, 0, rfl, rfl, _, rfl, ?_⟩
      by_cases hf : (l[i]).2 % ((l.take i)[j]).2 = 0
      · rw [decide_eq_true hf]
        exact iteT (hA' _ (nD 1) _ (by rw [hg, Option.bind_some, if_pos hf]) (Same.refl _) (.int _))
      · rw [decide_eq_false hf]
        exact iteF (hB (by rw [hg, Option.bind_some, if_neg hf]) _ (Same.refl _))
    · intro H' ys s' hD' hG
      have sall : Same H5 H' := (sT.trans sc').trans s'
      rw [hlt] at hG
      refine ⟨Nat.zero_le _, fun p1 np1 => ?_⟩
      have s5 : Same H' (upd H' p1 (.lst [])) := same_new np1
      have hsh : SeqAt.shaped (.list (gath (fun j => (l.take i)[j]?.bind fun p => if (l[i]).2 % p.2 = 0 then some (nD 1) else none) (l.take i).length)) = true := by
        rw [gath_filter (l.take i) fun p => if (l[i]).2 % p.2 = 0 then some (nD 1) else none]
        have key : ∀ m : Prog, ∃ ns : List Int, (m.filterMap fun p => if (l[i]).2 % p.2 = 0 then some (nD 1) else none) = ns.map PyData.int := by
          intro m
          induction m with
          | nil => exact ⟨[], rfl⟩
          | cons p m ih =>
            obtain ⟨ns, e⟩ := ih
            rw [List.filterMap_cons]
            split
            · exact ⟨ns, e⟩
            · rename_i d hd
              split at hd
              · cases hd
                exact ⟨1 :: ns, by rw [e]; rfl⟩
              · cases hd
        obtain ⟨ns, e⟩ := key (l.take i)
        rw [e]
        exact shaped_ints ns
      refine ⟨.list _, .list [], .lst (SqL.of (s5 _ _ hD')) (same_dps s5 hG), .lst (SqL.of upd_same) .nil, hsh, shaped_ints [], _, rfl, ?_⟩
      rw [eqv_nil, due_gath l i hi', Bool.not_not]
      have hdu' := s5 _ _ (sall _ _ hdu)
      cases hdi : dueAt l i with
      | true =>
        refine iteT ⟨_, rfl, .inl ⟨rfl, _, SqL.of hdu'⟩, _, rfl, du, _, _, rfl, rfl, hdu', ?_, ⟨_, _, _, rfl⟩, ?_, ?_⟩
        · rw [List.length_map]
          have h1 := List.length_filter_le (dueAt l) (List.range i)
          rw [List.length_range] at h1
          exact Nat.lt_of_lt_of_le (show _ < 100 by omega) (by decide)
        · exact same_put ((sm.trans sall).trans s5) ndu
        · rw [upd_same, filter_range_succ, hdi, List.map_append]
          rfl
      | false =>
        refine iteF ⟨⟨_, _, _, rfl⟩, (sm.trans sall).trans s5, ?_⟩
        rw [hdu', filter_range_succ, hdi]
        simp
  rintro σ H5 ⟨⟨t, u, pl, rfl⟩, sm5, hdu⟩
  rw [hxl, ← idle_due] at hdu
  have M5 := hM.same sm5
  have hnd : ∀ (f : PyData → Bool) (d : PyData), f d = true → f d = false → False := fun f d h1 h2 => by rw [h1] at h2; cases h2
  have progInj : ∀ l' : Prog, progD l = progD l' → l' = l := by
    intro l' e
    have inj : ∀ x y : Nat × Nat, fracD x = fracD y → x = y := by
      intro x y h
      have h1 := PyData.tuple.inj h
      injection h1 with h2 h3
      injection h3 with h4 h5
      have h6 := PyData.int.inj h2
      have h7 := PyData.int.inj h4
      exact Prod.ext (by omega) (by omega)
    exact ((List.map_inj_right inj).mp (PyData.list.inj e)).symm
  -- idle(program) != due
  refine ⟨_, rfl, _, progD l, rfl, M5.dp, (fun hn => (hnd isProgD _ (by rw [isProgD_prog]; exact hM.ok) hn).elim), fun l' el hP' o H6 no s6 ho => ?_⟩
  obtain rfl := progInj l' el
  refine ⟨_, rfl, .list ((idleOf l').map nD), .list ((idleOf l').map nD), .lst (SqL.of ho) (dps_nats' _), .lst (SqL.of (s6 _ _ hdu)) (dps_nats' _), shaped_nats _, shaped_nats _, _, rfl, ?_⟩
  rw [SeqAt.eqv_refl _ (SeqAt.canLay_of_shaped (shaped_nats _))]
  refine iteF ?_
  -- rest = lean(program)
  have M6 := M5.same s6
  refine ⟨_, rfl, _, progD l', rfl, M6.dp, (fun hn => (hnd isProgD _ (by rw [isProgD_prog]; exact hM.ok) hn).elim), fun l'' el hP'' re H7 nre s7 hre hrl => ?_⟩
  obtain rfl := progInj l'' el
  have M7 := M6.same s7
  obtain ⟨xs7, hx7, hxd7⟩ := M7.ex
  have hxl7 : xs7.length = l''.length := by rw [dps_len hxd7, List.length_map]
  have hdu7 := s7 _ _ (s6 _ _ hdu)
  -- kept
  refine ⟨_, rfl, a, xs7, rfl, SqL.of hx7, fun D hnD => ?_⟩
  refine lc_dp (K := K) walk_enum hnD (by omega) (fun H' s' => s'.seq (SqL.of hx7)) (fun i => l''[i]?.bind fun p => if i ∈ idleOf l'' then none else some (fracD p)) ?_ ?_ ?_
  · intro i d e
    obtain ⟨p, _, e⟩ := Option.bind_eq_some_iff.mp e
    split at e
    · cases e
    · cases e
      exact noL_frac p
  · rintro i x H' H'' A B hi s' ⟨T', x1, x2, rfl, nT, rfl, e1, e2⟩ hA hB
    have e1 : x1 = nI i := (Option.some.inj e1).symm
    subst e1
    have sT : Same H' (upd H' T' (.tup [nI i, x2])) := same_new nT
    obtain ⟨hi', b, rfl, hb2, hdp'⟩ := prog_item (same_dps (s'.trans sT) hxd7) e2
    have hg : l''[i]? = some l''[i] := List.getElem?_eq_getElem hi'
    refine ⟨T', _, rfl, SqT.of upd_same, rfl, _, _, rfl, _, _, rfl, rfl, rfl, ?_⟩
    refine ⟨_, rfl, _, rfl, du, _, rfl, .inl (SqL.of ((s'.trans sT) _ _ hdu7)), rfl, flat_nats _, _, rfl, ?_⟩
    rw [inV_nat]
    by_cases hin : i ∈ idleOf l''
    · rw [decide_eq_true hin]
      exact iteF (hB (by rw [hg, Option.bind_some, if_pos hin]) _ sT)
    · rw [decide_eq_false hin]
      exact iteT ⟨_, rfl, hA _ _ _ (by rw [hg, Option.bind_some, if_neg hin]) sT hdp'⟩
  intro H8 ys s8 hD8 hA8
  rw [hxl7, lean_gath] at hA8
  -- rest != kept or idle(rest) != []
  have hshL := shaped_prog (leanOf l'')
  refine ⟨_, rfl, _, rfl, progD (leanOf l''), progD (leanOf l''), same_dp s8 hre, .lst (SqL.of hD8) hA8, hshL, hshL, _, rfl, ?_⟩
  rw [SeqAt.eqv_refl _ (SeqAt.canLay_of_shaped hshL)]
  have hPl := lean_prog hM.ok
  have hre8 := same_dp s8 hre
  refine iteF ⟨_, rfl, _, progD (leanOf l''), rfl, hre8, (fun hn => (hnd isProgD _ (by rw [isProgD_prog]; exact hPl) hn).elim), fun l3 el hP3 o2 H9 no2 s9 ho2 => ?_⟩
  have el3 : l3 = leanOf l'' := by
    have inj : ∀ x y : Nat × Nat, fracD x = fracD y → x = y := by
      intro x y h
      have h1 := PyData.tuple.inj h
      injection h1 with h2 h3
      injection h3 with h4 h5
      have h6 := PyData.int.inj h2
      have h7 := PyData.int.inj h4
      exact Prod.ext (by omega) (by omega)
    exact ((List.map_inj_right inj).mp (PyData.list.inj el)).symm
  subst el3
  rw [lean_idle] at ho2
  refine ⟨Nat.zero_le _, fun p9 np9 => ?_⟩
  have s10 : Same H9 (upd H9 p9 (.lst [])) := same_new np9
  refine ⟨.list [], .list [], .lst (SqL.of (s10 _ _ ho2)) .nil, .lst (SqL.of upd_same) .nil, shaped_ints [], shaped_ints [], _, rfl, iteF ?_⟩
  -- thirty numbers
  have sAll : Same H7 (upd H9 p9 (.lst [])) := (s8.trans s9).trans s10
  have hre10 := same_dp (s9.trans s10) hre8
  have M10 := M7.same sAll
  have hdu10 := sAll _ _ hdu7
  generalize hH10 : upd H9 p9 (.lst []) = H10 at *
  have sm10 : Same H H10 := ((((sm3.trans sm5).trans s6).trans s7).trans sAll)
  refine ⟨30, rfl, by decide, by decide, ?_⟩
  refine for_it walk_nats (fun i σ H11 => (∃ pl j nu on, σ = [some (.ref sc), some (nI k), some (nI more), some (.ref a), t, u, some (.ref du), pl, some (.ref re), some (.ref D), j, nu, on, y13]) ∧ Same H10 H11) ⟨⟨_, _, _, _, rfl⟩, Same.refl _⟩ (fun _ _ _ _ _ => trivial) ?_ ?_
  · rintro i x σ H11 H12 hi ⟨⟨pl, j, nu, on, rfl⟩, s11⟩ ⟨rfl, rfl⟩
    have hi30 : i < 30 := hi
    refine ⟨_, rfl, _, rfl, 10, i, rfl, rfl, more, 10 + i, rfl, by omega, fun d _ => ⟨d, 4, 6, rfl, by decide, by decide, by decide, fun n H13 hn s13 => ?_⟩⟩
    have hn40 : n < 2 ^ 40 := Nat.lt_of_le_of_lt hn.le (by decide)
    have hN : isNum n = true := hn.num (by decide)
    have M13 := M10.same (s11.trans s13)
    refine ⟨_, rfl, _, rfl, _, l'', n, rfl, M13.dp, fun p hp => ⟨isProg_pos hM.ok p hp, (M13.fr p hp).1, (M13.fr p hp).2.1⟩, Nat.lt_trans hn40 (Nat.pow_lt_pow_right (by decide) (by decide)), fun hno H14 s14 => ?_, fun i' m' hso p14 H14 np14 s14 hp14 => ?_⟩
    · have hl0 : led l'' n = none := by rw [← lawStep_led hM.ok, hno]; rfl
      have hl1 : led (leanOf l'') n = none := by rw [lean_led]; exact hl0
      refine ⟨_, rfl, _, rfl, _, _, progD (leanOf l''), nD n, rfl, same_dp ((s11.trans s13).trans s14) hre10, .int _, (fun hz => (hnd isProgD _ (by rw [isProgD_prog]; exact hPl) hz).elim), (fun _ hz => (hnd isNumD _ (by rw [isNumD_nat]; exact hN) hz).elim), fun l4 n4 e4 e5 _ _ => ?_⟩
      obtain rfl := progD_inj e4
      obtain rfl := nD_inj e5
      rw [hl1]
      refine ⟨fun _ H15 s15 => ⟨_, rfl, rfl, _, rfl, iteT ⟨rfl, _, rfl, iteF ⟨⟨_, _, _, _, rfl⟩, ((s11.trans s13).trans s14).trans s15⟩⟩⟩, fun hg => ?_⟩
      cases hg
    · have hl0 : led l'' n = some m' := by rw [← lawStep_led hM.ok, hso]; rfl
      have hl1 : led (leanOf l'') n = some m' := by rw [lean_led]; exact hl0
      refine ⟨_, rfl, _, rfl, _, _, progD (leanOf l''), nD n, rfl, same_dp ((s11.trans s13).trans s14) hre10, .int _, (fun hz => (hnd isProgD _ (by rw [isProgD_prog]; exact hPl) hz).elim), (fun _ hz => (hnd isNumD _ (by rw [isNumD_nat]; exact hN) hz).elim), fun l4 n4 e4 e5 _ _ => ?_⟩
      obtain rfl := progD_inj e4
      obtain rfl := nD_inj e5
      rw [hl1]
      have hng : isGreat (some m') = false := not_great (led_pos hM.ok (isNum_pos hN) hl0) (led_small M13 hn40 hl0)
      refine ⟨fun _ H15 s15 => ?_, fun hg => ?_⟩
      · refine ⟨_, rfl, rfl, _, rfl, iteF ⟨_, rfl, p14, _, 1, _, rfl, rfl, SqT.of (s15 _ _ hp14), atI1, rfl, _, rfl, ?_⟩⟩
        rw [show decide (optV (some m') = nI m') = true from decide_eq_true rfl]
        exact iteF ⟨⟨_, _, _, _, rfl⟩, ((s11.trans s13).trans s14).trans s15⟩
      · rw [hng] at hg
        cases hg
  rintro σ H11 ⟨⟨pl, j, nu, on, rfl⟩, s11⟩
  -- each place
  have M11 := M10.same s11
  obtain ⟨xs11, hx11, hxd11⟩ := M11.ex
  have hxl11 : xs11.length = l''.length := by rw [dps_len hxd11, List.length_map]
  have hdu11 := s11 _ _ hdu10
  refine ⟨_, rfl, a, xs11, rfl, SqL.of hx11, for_it walk_enum (fun i σ H12 => (∃ t u pl fi, σ = [some (.ref sc), some (nI k), some (nI more), some (.ref a), t, u, some (.ref du), pl, some (.ref re), some (.ref D), j, nu, on, fi]) ∧ Same H11 H12) ⟨⟨_, _, _, _, rfl⟩, Same.refl _⟩ (fun i σ H12 _ p => p.2.seq (SqL.of hx11)) ?_ ?_⟩
  · rintro i x σ H12 H13 hi ⟨⟨t, u, pl, fi, rfl⟩, s12⟩ ⟨T', x1, x2, rfl, nT, rfl, e1, e2⟩
    have e1 : x1 = nI i := (Option.some.inj e1).symm
    subst e1
    have sT : Same H12 (upd H12 T' (.tup [nI i, x2])) := same_new nT
    obtain ⟨hi', b, rfl, hb2, _⟩ := prog_item (same_dps (s12.trans sT) hxd11) e2
    refine ⟨T', _, rfl, SqT.of upd_same, rfl, _, _, rfl, _, _, rfl, ⟨b, _, rfl, hb2, rfl, _, _, rfl, _, _, rfl, rfl, rfl, ?_⟩⟩
    have M13 := M11.same (s12.trans sT)
    have hu20 := (M13.fr _ (List.getElem_mem hi')).2.1
    obtain ⟨jf, hjf, hjfi⟩ := firstAt_self hi'
    have hls : lawStep l'' (l''[i]).2 = some (jf, (l''[i]).2 / unAt l'' jf * upAt l'' jf) := by
      rw [lawStep_eq hM.ok, ← unAt_eq hi', hjf]
      rfl
    refine ⟨_, rfl, _, rfl, _, l'', (l''[i]).2, rfl, M13.dp, fun p hp => ⟨isProg_pos hM.ok p hp, (M13.fr p hp).1, (M13.fr p hp).2.1⟩, Nat.lt_trans hu20 (Nat.pow_lt_pow_right (by decide) (by decide)), fun hno => ?_, fun i' m' hso p14 H14 np14 s14 hp14 => ?_⟩
    · rw [hls] at hno
      cases hno
    · rw [hls] at hso
      injection hso with hso
      injection hso with e3 e4
      subst e3
      refine ⟨p14, _, 0, _, rfl, rfl, SqT.of hp14, atI0, ?_⟩
      refine ⟨_, rfl, _, rfl, jf, i, rfl, rfl, _, rfl, _, rfl, du, _, rfl, .inl (SqL.of (s14 _ _ ((s12.trans sT) _ _ hdu11))), rfl, flat_nats _, rfl, _, rfl, ?_⟩
      have eb : (if (false : Bool) = true then !inV (nI i) ((idleOf l'').map nI) else inV (nI i) ((idleOf l'').map nI)) = !decide (jf = i) := by
        rw [if_neg (by decide), inV_nat, Bool.eq_iff_iff]
        rw [decide_eq_true_eq, idle_mem, ← isIdle_due hi']
        unfold isIdle
        rw [hjf]
        simp [hi']
      rw [show decide (V.bl (!decide (jf = i)) = V.bl (if (false : Bool) = true then !inV (nI i) ((idleOf l'').map nI) else inV (nI i) ((idleOf l'').map nI))) = true from decide_eq_true (congrArg V.bl eb.symm)]
      exact iteF ⟨⟨_, _, _, _, rfl⟩, (s12.trans sT).trans s14⟩
  · rintro σ H12 ⟨⟨t, u, pl, fi, rfl⟩, s12⟩
    exact ⟨⟨_, rfl, rfl⟩, (sm10.trans s11).trans s12⟩
end
end Fr
set_option maxHeartbeats 0
namespace Fr
open PySem PySem.Spec PyProof.Rows L2
def dd_parted : He.DefD := ⟨("parted", none), "parted", "parted", defArgs s_parted, defBody s_parted, defScope s_parted, [], []⟩
def dd_is_number : He.DefD := ⟨("is_number", none), "is_number", "is_number", defArgs s_is_number, defBody s_is_number, defScope s_is_number, [], []⟩
def dd_need_number : He.DefD := ⟨("need_number", none), "need_number", "need_number", defArgs s_need_number, defBody s_need_number, defScope s_need_number, [], []⟩
def dd_common : He.DefD := ⟨("common", none), "common", "common", defArgs s_common, defBody s_common, defScope s_common, [], []⟩
def dd_is_fraction : He.DefD := ⟨("is_fraction", none), "is_fraction", "is_fraction", defArgs s_is_fraction, defBody s_is_fraction, defScope s_is_fraction, [], []⟩
def dd_is_program : He.DefD := ⟨("is_program", none), "is_program", "is_program", defArgs s_is_program, defBody s_is_program, defScope s_is_program, [], []⟩
def dd_need_program : He.DefD := ⟨("need_program", none), "need_program", "need_program", defArgs s_need_program, defBody s_need_program, defScope s_need_program, [], []⟩
def dd_first_at : He.DefD := ⟨("first_at", none), "first_at", "first_at", defArgs s_first_at, defBody s_first_at, defScope s_first_at, [], []⟩
def dd_led : He.DefD := ⟨("led", none), "led", "led", defArgs s_led, defBody s_led, defScope s_led, [], []⟩
def dd_need_room : He.DefD := ⟨("need_room", none), "need_room", "need_room", defArgs s_need_room, defBody s_need_room, defScope s_need_room, [], []⟩
def dd_look : He.DefD := ⟨("look", none), "look", "look", defArgs s_look, defBody s_look, defScope s_look, [], []⟩
def dd_step : He.DefD := ⟨("step", none), "step", "step", defArgs s_step, defBody s_step, defScope s_step, [], []⟩
def dd_idle : He.DefD := ⟨("idle", none), "idle", "idle", defArgs s_idle, defBody s_idle, defScope s_idle, [], []⟩
def dd_lean : He.DefD := ⟨("lean", none), "lean", "lean", defArgs s_lean, defBody s_lean, defScope s_lean, [], []⟩
def dd__law_cell : He.DefD := ⟨("_law_cell", none), "_law_cell", "_law_cell", defArgs s__law_cell, defBody s__law_cell, defScope s__law_cell, [], []⟩
def dd__law_drawn : He.DefD := ⟨("_law_drawn", none), "_law_drawn", "_law_drawn", defArgs s__law_drawn, defBody s__law_drawn, defScope s__law_drawn, [], []⟩
def dd__law_primes : He.DefD := ⟨("_law_primes", none), "_law_primes", "_law_primes", defArgs s__law_primes, defBody s__law_primes, defScope s__law_primes, [], []⟩
def dd__law_some : He.DefD := ⟨("_law_some", none), "_law_some", "_law_some", defArgs s__law_some, defBody s__law_some, defScope s__law_some, [], []⟩
def dd__law_fraction : He.DefD := ⟨("_law_fraction", none), "_law_fraction", "_law_fraction", defArgs s__law_fraction, defBody s__law_fraction, defScope s__law_fraction, [], []⟩
def dd__law_program : He.DefD := ⟨("_law_program", none), "_law_program", "_law_program", defArgs s__law_program, defBody s__law_program, defScope s__law_program, [], []⟩
def dd__law_step : He.DefD := ⟨("_law_step", none), "_law_step", "_law_step", defArgs s__law_step, defBody s__law_step, defScope s__law_step, [], []⟩
def dd_law : He.DefD := ⟨("law", none), "law", "law", defArgs s_law, defBody s_law, defScope s_law, [], []⟩
def fn : List He.DefD := [dd_parted, dd_is_number, dd_need_number, dd_common, dd_is_fraction, dd_is_program, dd_need_program, dd_first_at, dd_led, dd_need_room, dd_look, dd_step, dd_idle, dd_lean, dd__law_cell, dd__law_drawn, dd__law_primes, dd__law_some, dd__law_fraction, dd__law_program, dd__law_step, dd_law]
def fa : List He.Fa := [.free "isinstance", .free "int", .free "bool", .free "list", .free "tuple", .free "len", .free "all", .free "max", .free "min", .free "range", .free "enumerate", .free "ValueError", .glo "parted", .glo "is_number", .glo "need_number", .glo "common", .glo "is_fraction", .glo "is_program", .glo "need_program", .glo "first_at", .glo "led", .glo "need_room", .glo "look", .glo "step", .glo "idle", .glo "lean", .glo "_law_cell", .glo "_law_drawn", .glo "_law_primes", .glo "_law_some", .glo "_law_fraction", .glo "_law_program", .glo "_law_step", .glo "law", .glo "RowError", .exc "RowError", .glo "BadNumber", .exc "BadNumber", .glo "BadProgram", .exc "BadProgram", .glo "TooGreat", .exc "TooGreat", .glo "PRIMES", .int "MOST_ROOM" 400, .int "MOST_FRACTIONS" 16, .int "MOST_PART" 1000000]
def ex (K : PySem.W.Frag) : Bool := He.tupB K "PRIMES" [.int 2, .int 3, .int 5, .int 7, .int 11, .int 13, .int 17, .int 19, .int 23, .int 29, .int 31, .int 37] && (true)
theorem ex_0 {K : PySem.W.Frag} (h : ex K = true) : He.tupB K "PRIMES" [.int 2, .int 3, .int 5, .int 7, .int 11, .int 13, .int 17, .int 19, .int 23, .int 29, .int 31, .int 37] = true := (He.ba h).1
def tf : List He.Defn := []
abbrev R : PySem.W.OpenRow := PySem.W.OpenLaw.row PySem.Challenge.rw_fractrows_k21_whole_lean
abbrev hk : PySem.W.Hook := He.hookX 5 fa fn [] tf ex
def ob (s : PySem.W.SharedT) : He.AlX := He.obsX 5 fa fn [] tf ex (HandSHeadRun.getT s)
theorem ob_eq (s : PySem.W.SharedT) : ob s = hk.obs s.abs := He.obsX_eq (HandSHeadRun.getT_eq s)
def loose0 : List Str := ["RowError", "BadNumber", "BadProgram", "TooGreat", "PRIMES", "MOST_ROOM", "parted", "is_number", "need_number", "MOST_FRACTIONS", "MOST_PART", "common", "is_fraction", "is_program", "need_program", "first_at", "led", "need_room", "look", "step", "idle", "lean", "_law_cell", "_law_drawn", "_law_primes", "_law_some", "_law_fraction", "_law_program", "_law_step"]
def loose : List Str := loose0
theorem run (w : World) : HandSHeadRun.RunEq R (PySem.W.view R.prog [33]) hk ob 4480 loose w := by
  intro os
  kernel_rfl
theorem fnp_of {K : PySem.W.Frag} {x : Str} {st : Stmt} (h : ∃ fd, FunD K x x (defArgs st) (defBody st) (defScope st) [] [] (He.fAd K (x, none)) fd) : FnP K x st := by
  obtain ⟨fd, F⟩ := h
  obtain ⟨oc, od, dV, kV, doc, pm, an, cdv, ct, osl, e, lk, h1, h2, h3⟩ := F.ex
  have e2 : fdOf K (x, none) = fd := by
    unfold fdOf
    rw [lk]
  unfold FnP
  rw [e2]
  exact F
theorem txt_of {K : PySem.W.Frag} {h : Heap} {w : World} {mg : Str → Option Value} (X : K.In h) (G : h.Ns mainGlobals mg) (c : He.SaysX fa fn [] tf ex w h K) : Txt K mg :=
  ⟨He.free_ok X G (c.t.d.fact 0 (f := .free "isinstance") rfl),
    He.free_ok X G (c.t.d.fact 1 (f := .free "int") rfl),
    He.free_ok X G (c.t.d.fact 2 (f := .free "bool") rfl),
    He.free_ok X G (c.t.d.fact 3 (f := .free "list") rfl),
    He.free_ok X G (c.t.d.fact 4 (f := .free "tuple") rfl),
    He.free_ok X G (c.t.d.fact 5 (f := .free "len") rfl),
    He.free_ok X G (c.t.d.fact 6 (f := .free "all") rfl),
    He.free_ok X G (c.t.d.fact 7 (f := .free "max") rfl),
    He.free_ok X G (c.t.d.fact 8 (f := .free "min") rfl),
    He.free_ok X G (c.t.d.fact 9 (f := .free "range") rfl),
    He.free_ok X G (c.t.d.fact 10 (f := .free "enumerate") rfl),
    He.free_ok X G (c.t.d.fact 11 (f := .free "ValueError") rfl),
    fnp_of (c.t.d.def_ 0 (d := dd_parted) rfl),
    He.glo_ok X G (c.t.d.fact 12 (f := .glo "parted") rfl),
    fnp_of (c.t.d.def_ 1 (d := dd_is_number) rfl),
    He.glo_ok X G (c.t.d.fact 13 (f := .glo "is_number") rfl),
    fnp_of (c.t.d.def_ 2 (d := dd_need_number) rfl),
    He.glo_ok X G (c.t.d.fact 14 (f := .glo "need_number") rfl),
    fnp_of (c.t.d.def_ 3 (d := dd_common) rfl),
    He.glo_ok X G (c.t.d.fact 15 (f := .glo "common") rfl),
    fnp_of (c.t.d.def_ 4 (d := dd_is_fraction) rfl),
    He.glo_ok X G (c.t.d.fact 16 (f := .glo "is_fraction") rfl),
    fnp_of (c.t.d.def_ 5 (d := dd_is_program) rfl),
    He.glo_ok X G (c.t.d.fact 17 (f := .glo "is_program") rfl),
    fnp_of (c.t.d.def_ 6 (d := dd_need_program) rfl),
    He.glo_ok X G (c.t.d.fact 18 (f := .glo "need_program") rfl),
    fnp_of (c.t.d.def_ 7 (d := dd_first_at) rfl),
    He.glo_ok X G (c.t.d.fact 19 (f := .glo "first_at") rfl),
    fnp_of (c.t.d.def_ 8 (d := dd_led) rfl),
    He.glo_ok X G (c.t.d.fact 20 (f := .glo "led") rfl),
    fnp_of (c.t.d.def_ 9 (d := dd_need_room) rfl),
    He.glo_ok X G (c.t.d.fact 21 (f := .glo "need_room") rfl),
    fnp_of (c.t.d.def_ 10 (d := dd_look) rfl),
    He.glo_ok X G (c.t.d.fact 22 (f := .glo "look") rfl),
    fnp_of (c.t.d.def_ 11 (d := dd_step) rfl),
    He.glo_ok X G (c.t.d.fact 23 (f := .glo "step") rfl),
    fnp_of (c.t.d.def_ 12 (d := dd_idle) rfl),
    He.glo_ok X G (c.t.d.fact 24 (f := .glo "idle") rfl),
    fnp_of (c.t.d.def_ 13 (d := dd_lean) rfl),
    He.glo_ok X G (c.t.d.fact 25 (f := .glo "lean") rfl),
    fnp_of (c.t.d.def_ 14 (d := dd__law_cell) rfl),
    He.glo_ok X G (c.t.d.fact 26 (f := .glo "_law_cell") rfl),
    fnp_of (c.t.d.def_ 15 (d := dd__law_drawn) rfl),
    He.glo_ok X G (c.t.d.fact 27 (f := .glo "_law_drawn") rfl),
    fnp_of (c.t.d.def_ 16 (d := dd__law_primes) rfl),
    He.glo_ok X G (c.t.d.fact 28 (f := .glo "_law_primes") rfl),
    fnp_of (c.t.d.def_ 17 (d := dd__law_some) rfl),
    He.glo_ok X G (c.t.d.fact 29 (f := .glo "_law_some") rfl),
    fnp_of (c.t.d.def_ 18 (d := dd__law_fraction) rfl),
    He.glo_ok X G (c.t.d.fact 30 (f := .glo "_law_fraction") rfl),
    fnp_of (c.t.d.def_ 19 (d := dd__law_program) rfl),
    He.glo_ok X G (c.t.d.fact 31 (f := .glo "_law_program") rfl),
    fnp_of (c.t.d.def_ 20 (d := dd__law_step) rfl),
    He.glo_ok X G (c.t.d.fact 32 (f := .glo "_law_step") rfl),
    fnp_of (c.t.d.def_ 21 (d := dd_law) rfl),
    He.glo_ok X G (c.t.d.fact 33 (f := .glo "law") rfl),
    He.glo_ok X G (c.t.d.fact 34 (f := .glo "RowError") rfl),
    He.exc_ok (c.t.d.fact 35 (f := .exc "RowError") rfl),
    He.glo_ok X G (c.t.d.fact 36 (f := .glo "BadNumber") rfl),
    He.exc_ok (c.t.d.fact 37 (f := .exc "BadNumber") rfl),
    He.glo_ok X G (c.t.d.fact 38 (f := .glo "BadProgram") rfl),
    He.exc_ok (c.t.d.fact 39 (f := .exc "BadProgram") rfl),
    He.glo_ok X G (c.t.d.fact 40 (f := .glo "TooGreat") rfl),
    He.exc_ok (c.t.d.fact 41 (f := .exc "TooGreat") rfl),
    He.glo_ok X G (c.t.d.fact 42 (f := .glo "PRIMES") rfl),
    fun H => He.tupB_ok (ex_0 c.more) H,
    He.int_ok X G (c.t.d.fact 43 (f := .int "MOST_ROOM" 400) rfl),
    He.int_ok X G (c.t.d.fact 44 (f := .int "MOST_FRACTIONS" 16) rfl),
    He.int_ok X G (c.t.d.fact 45 (f := .int "MOST_PART" 1000000) rfl)⟩
theorem law_at {K : PySem.W.Frag} {h : Heap} {w : World} {mg : Str → Option Value} {f : Addr} (X : K.In h) (G : h.Ns mainGlobals mg) (hmg : mg "law" = some (.ref f)) (c : He.SaysX fa fn [] tf ex w h K) :
    LamX.LawAtS PySem.Challenge.rw_fractrows_k21_whole_lean w K L2.CX0 9 63 "script" mg f h := by
  have T : Txt K mg := txt_of X G c
  have e := hmg.symm.trans T.m_law
  cases e
  refine ⟨fdOf K ("law", none), [], spLaw K, fun p hp => (nomatch hp), fun p hp => (nomatch hp), fun p hp => (nomatch hp), fun s u => FunD.bindsA (ps := ["script"]) T.d_law (fun _ _ _ _ _ _ us hl => match us, hl with | [_], _ => rfl) s [u] rfl, fun H a ns hl _ _ hS => ⟨a, ns, rfl, hS, hl, fun _ => rfl⟩, fun base _ _ _ => (ok_law T).fn⟩
end Fr
open PySem PySem.W PySem.Calls PyProof.Rows
set_option maxRecDepth 100000 in
set_option maxHeartbeats 0 in
theorem PySem.Challenge.cw_fractrows_k21_whole_lean_holds : PySem.Challenge.rw_fractrows_k21_whole_lean.Holds := by
  w_on; o_law
  refine HandSHeadRun.head_any (r := OpenLaw.row PySem.Challenge.rw_fractrows_k21_whole_lean) (q := view (OpenLaw.row PySem.Challenge.rw_fractrows_k21_whole_lean).prog [33]) (H := Fr.hk) (ob := Fr.ob) (M := 4480) (loose := Fr.loose) (d := HandSHeadRun.topDef (OpenLaw.row PySem.Challenge.rw_fractrows_k21_whole_lean).prog 33) (kwd := []) Fr.ob_eq
    (by kernel_rfl) (fun s => by kernel_rfl) Fr.run (by kernel_rfl) (by kernel_rfl) (by kernel_rfl) (by rfl) (by first | assumption | decide +kernel) (by decide +kernel) ⟨rfl, rfl, rfl, rfl, rfl, by decide +kernel⟩ ?hw ?hc
  case hw => w_witness2
  case hc =>
    refine LamX.walk_ofTsE (l := PySem.Challenge.rw_fractrows_k21_whole_lean) (n := 63) (k := 9) (x := "script") (CX := fun _ => L2.CX0) rfl (by decide) (by kernel_rfl) ⟨rfl, by decide, by decide⟩ ?F (fun _ _ _ _ _ z => z)
    intro w mg fa h Y G hmg0
    obtain ⟨K, KX, c⟩ := Y
    have hmg : mg ("law" : PySem.Str) = some (.ref fa) := by
      have e : (HandSHeadRun.topDef (OpenLaw.row PySem.Challenge.rw_fractrows_k21_whole_lean).prog 33).name = ("law" : PySem.Str) := by kernel_rfl
      rw [← e]
      exact hmg0
    exact ⟨K, KX, Fr.law_at KX G hmg c⟩
